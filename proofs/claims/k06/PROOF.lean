import PyProof.Rows.All
import Wide.All
import OpenK.AllK
import Wide.FinOn
import HandS.ForMost
import HandS.Walk
import HandS.Evl
import HandS.IsInst
import HandS.Style
import HandS.Conv
import PyProof.Draws
import PyProof.EnumMake
import HandS.ForExc
import HandS.ExcIs
import HandS.SetFor
import HandS.Strs
import HandS.Zip
import HandS.Dict
import HandS.New0
import PyProof.Rows.TupDisplay
import HandS.SortRule
import HandS.SetTxt0
import HandS.Ends
import PySem.Challenge.RW_bracketmend_k06_whole_counted
set_option Elab.async false
set_option linter.all false
set_option maxRecDepth 100000
set_option maxHeartbeats 4000000
namespace BM
open PySem L2 Evl
/-- what a def knows of the heap beyond what it began with: own objects, tuples -/
structure Ld where
  L : List (Addr × HO)
  T : List (Addr × List V)
structure Own (H0 H : Hp) (s : Ld) : Prop where
  ex : Ex H0 H
  nd : (s.L.map (·.1)).Nodup
  own : ∀ e ∈ s.L, H0 e.1 = none ∧ H e.1 = some e.2
  tp : ∀ t ∈ s.T, H t.1 = some (.tup t.2)
theorem Own.start (H : Hp) : Own H H ⟨[], []⟩ := ⟨Ex.refl H, List.nodup_nil, (fun _ h => nomatch h), (fun _ h => nomatch h)⟩
theorem Own.ext {H0 H H' : Hp} {s : Ld} (o : Own H0 H s) (e : Ex H H') : Own H0 H' s :=
  ⟨o.ex.trans e, o.nd, fun x hx => ⟨(o.own x hx).1, e _ _ (o.own x hx).2⟩, fun t ht => e _ _ (o.tp t ht)⟩
theorem Own.new {H0 H : Hp} {s : Ld} {p : Addr} {u : HO} (o : Own H0 H s) (hp : H p = none) : Own H0 (upd H p u) ⟨(p, u) :: s.L, s.T⟩ := by
  have e : Ex H (upd H p u) := Ex.new hp
  refine ⟨o.ex.trans e, ?_, ?_, fun t ht => e _ _ (o.tp t ht)⟩
  · refine List.nodup_cons.mpr ⟨fun h => ?_, o.nd⟩
    obtain ⟨x, hx, rfl⟩ := List.mem_map.mp h
    rw [(o.own x hx).2] at hp
    cases hp
  · intro x hx
    rcases List.mem_cons.mp hx with rfl | hx
    · exact ⟨fresh_back o.ex hp, upd_same⟩
    · exact ⟨(o.own x hx).1, e _ _ (o.own x hx).2⟩
/-- a new object behind an extension -/
theorem Own.newE {H0 H H' : Hp} {s : Ld} {p : Addr} {u : HO} (o : Own H0 H s) (hp : H p = none) (e : Ex H H') (h : H' p = some u) : Own H0 H' ⟨(p, u) :: s.L, s.T⟩ := by
  refine ⟨o.ex.trans e, ?_, ?_, fun t ht => e _ _ (o.tp t ht)⟩
  · refine List.nodup_cons.mpr ⟨fun h => ?_, o.nd⟩
    obtain ⟨x, hx, rfl⟩ := List.mem_map.mp h
    rw [(o.own x hx).2] at hp
    cases hp
  · intro x hx
    rcases List.mem_cons.mp hx with rfl | hx
    · exact ⟨fresh_back o.ex hp, h⟩
    · exact ⟨(o.own x hx).1, e _ _ (o.own x hx).2⟩
theorem Own.newT {H0 H : Hp} {s : Ld} {p : Addr} {xs : List V} (o : Own H0 H s) (hp : H p = none) : Own H0 (upd H p (.tup xs)) ⟨s.L, (p, xs) :: s.T⟩ := by
  have e : Ex H (upd H p (.tup xs)) := Ex.new hp
  refine ⟨o.ex.trans e, o.nd, fun x hx => ⟨(o.own x hx).1, e _ _ (o.own x hx).2⟩, ?_⟩
  intro t ht
  rcases List.mem_cons.mp ht with rfl | ht
  · exact upd_same
  · exact e _ _ (o.tp t ht)
theorem Own.moreT {H0 H : Hp} {s : Ld} (o : Own H0 H s) {ts : List (Addr × List V)} (h : ∀ t ∈ ts, H t.1 = some (.tup t.2)) : Own H0 H ⟨s.L, ts ++ s.T⟩ :=
  ⟨o.ex, o.nd, o.own, fun t ht => by
    rcases List.mem_append.mp ht with h1 | h1
    · exact h t h1
    · exact o.tp t h1⟩
theorem Own.dropL {H0 H : Hp} {s : Ld} (o : Own H0 H s) {L : List (Addr × HO)} {T : List (Addr × List V)} (hL : L.Sublist s.L) (hT : T ⊆ s.T) : Own H0 H ⟨L, T⟩ :=
  ⟨o.ex, (hL.map (·.1)).nodup o.nd, fun e he => o.own e (hL.subset he), fun t ht => o.tp t (hT ht)⟩
/-- less is known -/
structure Sub (s0 s : Ld) : Prop where
  l : s0.L.Sublist s.L
  t : s0.T.Sublist s.T
theorem Sub.refl (s : Ld) : Sub s s := ⟨List.Sublist.refl _, List.Sublist.refl _⟩
theorem Own.sub {H0 H : Hp} {s s0 : Ld} (o : Own H0 H s) (h : Sub s0 s) : Own H0 H s0 := o.dropL h.l h.t.subset
/-- one own object changed -/
inductive Swap (p : Addr) (o o' : HO) : List (Addr × HO) → List (Addr × HO) → Prop where
  | here {L} : Swap p o o' ((p, o) :: L) ((p, o') :: L)
  | there {e L L'} : Swap p o o' L L' → Swap p o o' (e :: L) (e :: L')
theorem Swap.keys {p : Addr} {o o' : HO} {L L' : List (Addr × HO)} (h : Swap p o o' L L') : L'.map (·.1) = L.map (·.1) := by
  induction h with
  | here => rfl
  | there _ ih => rw [List.map_cons, List.map_cons, ih]
theorem Swap.mem {p : Addr} {o o' : HO} {L L' : List (Addr × HO)} (h : Swap p o o' L L') : (p, o) ∈ L := by
  induction h with
  | here => exact List.mem_cons_self
  | there _ ih => exact List.mem_cons_of_mem _ ih
theorem Swap.of_mem {p : Addr} {o o' : HO} {L L' : List (Addr × HO)} (h : Swap p o o' L L') (nd : (L.map (·.1)).Nodup) : ∀ e ∈ L', e = (p, o') ∨ (e ∈ L ∧ e.1 ≠ p) := by
  induction h with
  | @here L =>
    intro e he
    rcases List.mem_cons.mp he with rfl | he
    · exact .inl rfl
    · refine .inr ⟨List.mem_cons_of_mem _ he, fun z => ?_⟩
      rw [List.map_cons] at nd
      exact (List.nodup_cons.mp nd).1 (List.mem_map.mpr ⟨e, he, z⟩)
  | @there x L L' h ih =>
    rw [List.map_cons] at nd
    have nd' := List.nodup_cons.mp nd
    intro e he
    rcases List.mem_cons.mp he with rfl | he
    · refine .inr ⟨List.mem_cons_self, fun z => ?_⟩
      refine nd'.1 (List.mem_map.mpr ⟨(p, o), h.mem, z.symm⟩)
    · rcases ih nd'.2 e he with r | ⟨r, r'⟩
      · exact .inl r
      · exact .inr ⟨List.mem_cons_of_mem _ r, r'⟩
def NotTup : HO → Prop
  | .tup _ => False
  | _ => True
theorem Own.swap {H0 H : Hp} {s : Ld} {p : Addr} {u u' : HO} {L' : List (Addr × HO)} (o : Own H0 H s) (h : Swap p u u' s.L L') (nt : NotTup u) : Own H0 (upd H p u') ⟨L', s.T⟩ := by
  have hp := o.own _ h.mem
  refine ⟨fun a x e => ?_, by rw [h.keys]; exact o.nd, fun e he => ?_, fun t ht => ?_⟩
  · rw [upd_ne (ne_of_none e hp.1)]
    exact o.ex _ _ e
  · rcases h.of_mem o.nd e he with rfl | ⟨he, ne⟩
    · exact ⟨hp.1, upd_same⟩
    · rw [upd_ne ne]
      exact o.own e he
  · rw [upd_ne]
    · exact o.tp t ht
    · intro z
      have h1 := o.tp t ht
      rw [z, hp.2] at h1
      cases h1
      exact nt
/-! ### lists and tuples to be read -/
def IsL (K : PySem.W.Frag) (H0 : Hp) (s : Ld) (a : Addr) (xs : List V) : Prop := ∀ H, Own H0 H s → SqL K H a xs
def IsT (K : PySem.W.Frag) (H0 : Hp) (s : Ld) (a : Addr) (xs : List V) : Prop := ∀ H, Own H0 H s → SqT K H a xs
section
variable {K : PySem.W.Frag} {H0 : Hp} {s : Ld} {a : Addr} {xs : List V}
theorem isL_own (h : (a, HO.lst xs) ∈ s.L) : IsL K H0 s a xs := fun H o => sq_of (o.own _ h).2
theorem isL_old (h : SqL K H0 a xs) : IsL K H0 s a xs := fun H o => ex_l o.ex h
theorem isT_own (h : (a, xs) ∈ s.T) : IsT K H0 s a xs := fun H o => st_of (o.tp _ h)
theorem isT_old (h : SqT K H0 a xs) : IsT K H0 s a xs := fun H o => ex_t o.ex h
end
/-! ### what is asked, over the own objects -/
def WE (H0 : Hp) (t : TE) (σ : L2.St) (s : Ld) (Q : V → Ld → Prop) : Prop := ∀ H, Own H0 H s → ∀ R : VK, (∀ v H' s', Own H0 H' s' → Q v s' → R v H') → t σ H R
def WT (H0 : Hp) (t : TT) (σ : L2.St) (s : Ld) (Q : Bool → Ld → Prop) : Prop := ∀ H, Own H0 H s → ∀ R : Bool → Hp → Prop, (∀ v H' s', Own H0 H' s' → Q v s' → R v H') → t σ H R
def WA (H0 : Hp) (t : TA) (σ : L2.St) (s : Ld) (Q : List V → Ld → Prop) : Prop := ∀ H, Own H0 H s → ∀ R : List V → Hp → Prop, (∀ v H' s', Own H0 H' s' → Q v s' → R v H') → t σ H R
def WO (H0 : Hp) (t : TO) (σ : L2.St) (s : Ld) (Q : Option Int → Ld → Prop) : Prop := ∀ H, Own H0 H s → ∀ R : Option Int → Hp → Prop, (∀ v H' s', Own H0 H' s' → Q v s' → R v H') → t σ H R
def W2 (H0 : Hp) (r : R2) (x y : V) (s : Ld) (Q : V → Ld → Prop) : Prop := ∀ H, Own H0 H s → ∀ R : VK, (∀ v H' s', Own H0 H' s' → Q v s' → R v H') → r x y H R
def W1 (H0 : Hp) (r : V → Hp → VK → Prop) (x : V) (s : Ld) (Q : V → Ld → Prop) : Prop := ∀ H, Own H0 H s → ∀ R : VK, (∀ v H' s', Own H0 H' s' → Q v s' → R v H') → r x H R
def WL (H0 : Hp) (r : List V → Hp → VK → Prop) (xs : List V) (s : Ld) (Q : V → Ld → Prop) : Prop := ∀ H, Own H0 H s → ∀ R : VK, (∀ v H' s', Own H0 H' s' → Q v s' → R v H') → r xs H R
def WM (H0 : Hp) (r : V → List V → Hp → VK → Prop) (x : V) (xs : List V) (s : Ld) (Q : V → Ld → Prop) : Prop := ∀ H, Own H0 H s → ∀ R : VK, (∀ v H' s', Own H0 H' s' → Q v s' → R v H') → r x xs H R
def WSl (H0 : Hp) (r : V → Option Int → Option Int → Hp → VK → Prop) (x : V) (lo hi : Option Int) (s : Ld) (Q : V → Ld → Prop) : Prop := ∀ H, Own H0 H s → ∀ R : VK, (∀ v H' s', Own H0 H' s' → Q v s' → R v H') → r x lo hi H R
def WC (H0 : Hp) (sp : Sp) (E : XK) (vs : List V) (s : Ld) (Q : V → Ld → Prop) : Prop := ∀ H, Own H0 H s → ∀ R : VK, (∀ v H' s', Own H0 H' s' → Q v s' → R v H') → sp vs H R E
def WSet (H0 : Hp) (r : TSet) (o i v : V) (s : Ld) (Q : Ld → Prop) : Prop := ∀ H, Own H0 H s → ∀ R : Hp → Prop, (∀ H' s', Own H0 H' s' → Q s' → R H') → r o i v H R
def WG (H0 : Hp) (g : TG) (v : V) (σ : L2.St) (s : Ld) (Q : L2.St → Ld → Prop) : Prop := ∀ H, Own H0 H s → ∀ R : L2.St → Hp → Prop, (∀ σ' H' s', Own H0 H' s' → Q σ' s' → R σ' H') → g v σ H R
def WGs (H0 : Hp) (g : TGs) (vs : List V) (σ : L2.St) (s : Ld) (Q : L2.St → Ld → Prop) : Prop := ∀ H, Own H0 H s → ∀ R : L2.St → Hp → Prop, (∀ σ' H' s', Own H0 H' s' → Q σ' s' → R σ' H') → g vs σ H R
def WI (H0 : Hp) (wi : TI) (σ : L2.St) (s : Ld) (Q : It → Ld → Prop) : Prop := ∀ H, Own H0 H s → ∀ R : It → Hp → Prop, (∀ J H' s', Own H0 H' s' → Q J s' → R J H') → wi σ H R
structure Dl where
  nx : L2.St → Ld → Prop
  rt : V → Ld → Prop
  bk : L2.St → Ld → Prop := fun _ _ => False
  ct : L2.St → Ld → Prop := fun _ _ => False
structure Low (H0 : Hp) (D : Dl) (E : Ends) : Prop where
  nx : ∀ σ H s, Own H0 H s → D.nx σ s → E.nx σ H
  rt : ∀ v H s, Own H0 H s → D.rt v s → E.rt v H
  bk : ∀ σ H s, Own H0 H s → D.bk σ s → E.bk σ H
  ct : ∀ σ H s, Own H0 H s → D.ct σ s → E.ct σ H
def WS (H0 : Hp) (t : TS) (σ : L2.St) (s : Ld) (D : Dl) : Prop := ∀ H, Own H0 H s → ∀ E : Ends, Low H0 D E → t E σ H
section
variable {K : PySem.W.Frag} {H0 : Hp} {σ : L2.St} {s : Ld} {ta tb te tl : TE} {t u : TT} {tr : TA} {x y z v : V} {r : R2} {Q : V → Ld → Prop} {D : Dl} {t1 t2 : TS} {g : TG}
/-! ### values -/
theorem we_var {i : Nat} (h : σ[i]? = some (some v)) (q : Q v s) : WE H0 (tVar i) σ s Q := fun H o R k => ⟨v, h, k v H s o q⟩
theorem we_c (q : Q v s) : WE H0 (tC v) σ s Q := fun H o R k => k v H s o q
theorem we_op (h : WE H0 ta σ s fun x s1 => WE H0 tb σ s1 fun y s2 => W2 H0 r x y s2 Q) : WE H0 (tOp r ta tb) σ s Q := fun H o R k =>
  h H o _ fun x H1 s1 o1 h1 => h1 H1 o1 _ fun y H2 s2 o2 h2 => h2 H2 o2 R k
theorem we_un {r : V → Hp → VK → Prop} (h : WE H0 ta σ s fun x s1 => W1 H0 r x s1 Q) : WE H0 (tUn r ta) σ s Q := fun H o R k =>
  h H o _ fun x H1 s1 o1 h1 => h1 H1 o1 R k
theorem we_if {c : TT} (h : WT H0 c σ s fun b s1 => (b = true → WE H0 ta σ s1 Q) ∧ (b = false → WE H0 tb σ s1 Q)) : WE H0 (tIf c ta tb) σ s Q := fun H o R k =>
  h H o _ fun b H1 s1 o1 h1 => by
    cases b with
    | true => exact h1.1 rfl H1 o1 R k
    | false => exact h1.2 rfl H1 o1 R k
theorem we_and (h : WE H0 ta σ s fun x s1 => ∃ c, x = .bl c ∧ (c = true → WE H0 tb σ s1 Q) ∧ (c = false → Q (.bl false) s1)) : WE H0 (tAndV ta tb) σ s Q := fun H o R k =>
  h H o _ fun x H1 s1 o1 ⟨c, e, h1, h2⟩ => ⟨c, e, by
    cases c with
    | true => exact h1 rfl H1 o1 R k
    | false => exact k _ H1 s1 o1 (h2 rfl)⟩
theorem we_or (h : WE H0 ta σ s fun x s1 => ∃ c, x = .bl c ∧ (c = true → Q (.bl true) s1) ∧ (c = false → WE H0 tb σ s1 Q)) : WE H0 (tOrV ta tb) σ s Q := fun H o R k =>
  h H o _ fun x H1 s1 o1 ⟨c, e, h2, h1⟩ => ⟨c, e, by
    cases c with
    | true => exact k _ H1 s1 o1 (h2 rfl)
    | false => exact h1 rfl H1 o1 R k⟩
theorem we_or_val {b1 b2 : Bool} (ha : ∀ Q : V → Ld → Prop, Q (.bl b1) s → WE H0 ta σ s Q) (hb : ∀ Q : V → Ld → Prop, Q (.bl b2) s → WE H0 tb σ s Q) (q : Q (.bl (b1 || b2)) s) : WE H0 (tOrV ta tb) σ s Q :=
  we_or (ha _ ⟨b1, rfl, by
    cases b1
    · exact ⟨(fun h => nomatch h), fun _ => hb _ q⟩
    · exact ⟨fun _ => q, (fun h => nomatch h)⟩⟩)
theorem we_not (h : WE H0 ta σ s fun x s1 => ∃ c, x = .bl c ∧ Q (.bl (!c)) s1) : WE H0 (tNotV ta) σ s Q := fun H o R k =>
  h H o _ fun x H1 s1 o1 ⟨c, e, h1⟩ => ⟨c, e, k _ H1 s1 o1 h1⟩
theorem wa_nil {Q : List V → Ld → Prop} (q : Q [] s) : WA H0 tNil σ s Q := fun H o R k => k [] H s o q
theorem wa_cons {Q : List V → Ld → Prop} (h : WE H0 ta σ s fun x s1 => WA H0 tr σ s1 fun xs s2 => Q (x :: xs) s2) : WA H0 (tCons ta tr) σ s Q := fun H o R k =>
  h H o _ fun x H1 s1 o1 h1 => h1 H1 o1 _ fun xs H2 s2 o2 h2 => k _ H2 s2 o2 h2
theorem we_lst {ta : TA} (h : WA H0 ta σ s fun xs s1 => xs.length ≤ 100000 ∧ ∀ p, H0 p = none → Q (.ref p) ⟨(p, .lst xs) :: s1.L, s1.T⟩) : WE H0 (tLst ta) σ s Q := fun H o R k =>
  h H o _ fun xs H1 s1 o1 ⟨hl, h1⟩ => ⟨sz_of hl, fun p hp => k _ _ _ (o1.new hp) (h1 p (fresh_back o1.ex hp))⟩
theorem we_tup {ta : TA} (h : WA H0 ta σ s fun xs s1 => xs.length ≤ 100000 ∧ ∀ p, H0 p = none → Q (.ref p) ⟨s1.L, (p, xs) :: s1.T⟩) : WE H0 (tTup ta) σ s Q := fun H o R k =>
  h H o _ fun xs H1 s1 o1 ⟨hl, h1⟩ => ⟨sz_of hl, fun p hp => k _ _ _ (o1.newT hp) (h1 p (fresh_back o1.ex hp))⟩
theorem we_cb {r : List V → Hp → VK → Prop} {ta : TA} (h : WA H0 ta σ s fun xs s1 => WL H0 r xs s1 Q) : WE H0 (tCB r ta) σ s Q := fun H o R k =>
  h H o _ fun xs H1 s1 o1 h1 => h1 H1 o1 R k
theorem we_sl {r : V → Option Int → Option Int → Hp → VK → Prop} {tl th : TO} (h : WE H0 te σ s fun x s1 => WO H0 tl σ s1 fun l s2 => WO H0 th σ s2 fun u s3 => WSl H0 r x l u s3 Q) : WE H0 (tSl r te tl th) σ s Q := fun H o R k =>
  h H o _ fun x H1 s1 o1 h1 => h1 H1 o1 _ fun l H2 s2 o2 h2 => h2 H2 o2 _ fun u H3 s3 o3 h3 => h3 H3 o3 R k
theorem wo_none {Q : Option Int → Ld → Prop} (q : Q none s) : WO H0 tNoPart σ s Q := fun H o R k => k none H s o q
theorem wo_some {Q : Option Int → Ld → Prop} (h : WE H0 te σ s fun x s1 => ∃ i, x = .int i ∧ Q (some i) s1) : WO H0 (tPart te) σ s Q := fun H o R k =>
  h H o _ fun x H1 s1 o1 ⟨i, e, h1⟩ => ⟨i, e, k _ H1 s1 o1 h1⟩
/-! ### tests -/
theorem wt_test {Q : Bool → Ld → Prop} (h : WE H0 te σ s fun x s1 => ∃ b, x = .bl b ∧ Q b s1) : WT H0 (tTest te) σ s Q := fun H o R k =>
  h H o _ fun x H1 s1 o1 ⟨b, e, h1⟩ => ⟨b, e, k _ H1 s1 o1 h1⟩
theorem wt_B {Q : Bool → Ld → Prop} (h : WE H0 te σ s fun x s1 => ∃ b, x = .bl b ∧ Q b s1) : WT H0 (tB te) σ s Q := fun H o R k =>
  h H o _ fun x H1 s1 o1 ⟨b, e, h1⟩ => ⟨b, e, k _ H1 s1 o1 h1⟩
theorem wt_and {Q : Bool → Ld → Prop} (h : WT H0 t σ s fun b s1 => (b = true → WT H0 u σ s1 Q) ∧ (b = false → Q false s1)) : WT H0 (tAnd t u) σ s Q := fun H o R k =>
  h H o _ fun b H1 s1 o1 h1 => by
    cases b with
    | true => exact h1.1 rfl H1 o1 R k
    | false => exact k _ H1 s1 o1 (h1.2 rfl)
theorem wt_or {Q : Bool → Ld → Prop} (h : WT H0 t σ s fun b s1 => (b = true → Q true s1) ∧ (b = false → WT H0 u σ s1 Q)) : WT H0 (tOr t u) σ s Q := fun H o R k =>
  h H o _ fun b H1 s1 o1 h1 => by
    cases b with
    | true => exact k _ H1 s1 o1 (h1.1 rfl)
    | false => exact h1.2 rfl H1 o1 R k
theorem wt_not {Q : Bool → Ld → Prop} (h : WT H0 t σ s fun b s1 => Q (!b) s1) : WT H0 (tNot t) σ s Q := fun H o R k =>
  h H o _ fun b H1 s1 o1 h1 => k _ H1 s1 o1 h1
theorem we_chain {r r' : R2} {tc : TE} (h : WE H0 ta σ s fun x s1 => WE H0 tb σ s1 fun y s2 => W2 H0 r x y s2 fun z s3 => ∃ c, z = .bl c ∧ (c = true → WE H0 tc σ s3 fun w s4 => W2 H0 r' y w s4 Q) ∧ (c = false → Q (.bl false) s3)) : WE H0 (tChain r r' ta tb tc) σ s Q := fun H o R k =>
  h H o _ fun x H1 s1 o1 h1 => h1 H1 o1 _ fun y H2 s2 o2 h2 => h2 H2 o2 _ fun z H3 s3 o3 ⟨c, e, h3, h4⟩ => ⟨c, e, by
    cases c with
    | true => exact h3 rfl H3 o3 _ fun w H4 s4 o4 h5 => h5 H4 o4 R k
    | false => exact k _ H3 s3 o3 (h4 rfl)⟩
/-! ### statements -/
theorem ws_seq (h : WS H0 t1 σ s { D with nx := fun σ' s' => WS H0 t2 σ' s' D }) : WS H0 (tSeq t1 t2) σ s D := fun H o E l =>
  h H o _ ⟨fun σ' H' s' o' h' => h' H' o' E l, l.rt, l.bk, l.ct⟩
theorem ws_next (q : D.nx σ s) : WS H0 tNext σ s D := fun H o E l => l.nx σ H s o q
theorem ws_brk (q : D.bk σ s) : WS H0 tBreak σ s D := fun H o E l => l.bk σ H s o q
theorem ws_cont (q : D.ct σ s) : WS H0 tCont σ s D := fun H o E l => l.ct σ H s o q
theorem ws_drop (h : WE H0 te σ s fun _ s1 => D.nx σ s1) : WS H0 (tDrop te) σ s D := fun H o E l => h H o _ fun v H1 s1 o1 h1 => l.nx σ H1 s1 o1 h1
theorem ws_ret (h : WE H0 te σ s D.rt) : WS H0 (tRet te) σ s D := fun H o E l => h H o _ fun v H1 s1 o1 h1 => l.rt v H1 s1 o1 h1
theorem ws_if {c : TT} (h : WT H0 c σ s fun b s1 => (b = true → WS H0 t1 σ s1 D) ∧ (b = false → WS H0 t2 σ s1 D)) : WS H0 (tIfS c t1 t2) σ s D := fun H o E l =>
  h H o _ fun b H1 s1 o1 h1 => by
    cases b with
    | true => exact h1.1 rfl H1 o1 E l
    | false => exact h1.2 rfl H1 o1 E l
theorem ws_asg (h : WE H0 te σ s fun x s1 => WG H0 g x σ s1 D.nx) : WS H0 (tAsg te g) σ s D := fun H o E l =>
  h H o _ fun x H1 s1 o1 h1 => h1 H1 o1 _ fun σ' H' s' o' q => l.nx σ' H' s' o' q
theorem ws_set {i : Nat} (h : WE H0 te σ s fun x s1 => D.nx (σ.set i (some x)) s1) : WS H0 (tAsg te (gName i)) σ s D := fun H o E l =>
  h H o _ fun x H1 s1 o1 h1 => l.nx _ H1 s1 o1 h1
theorem ws_par {i j : Nat} {ta : TA} (h : WA H0 ta σ s fun vs s1 => ∃ v w, vs = [v, w] ∧ D.nx ((σ.set i (some v)).set j (some w)) s1) : WS H0 (tPar i j ta) σ s D := fun H o E l =>
  h H o _ fun vs H1 s1 o1 ⟨v, w, e, h1⟩ => ⟨v, w, e, l.nx _ H1 s1 o1 h1⟩
theorem wg_name {i : Nat} {Q : L2.St → Ld → Prop} (q : Q (σ.set i (some v)) s) : WG H0 (gName i) v σ s Q := fun H o R k => k _ H s o q
theorem wg_tup {n : Nat} {g : TGs} {a : Addr} {xs : List V} {Q : L2.St → Ld → Prop} (ht : IsT K H0 s a xs) (hn : xs.length = n) (h : WGs H0 g xs σ s Q) : WG H0 (gTup K n g) (.ref a) σ s Q := fun H o R k =>
  ⟨a, xs, rfl, ht H o, hn, h H o R k⟩
theorem wgs_nil {Q : L2.St → Ld → Prop} (q : Q σ s) : WGs H0 gNil [] σ s Q := fun H o R k => ⟨rfl, k _ H s o q⟩
theorem wgs_cons {g : TG} {gs : TGs} {vs : List V} {Q : L2.St → Ld → Prop} (h : WG H0 g v σ s fun σ1 s1 => WGs H0 gs vs σ1 s1 Q) : WGs H0 (gCons g gs) (v :: vs) σ s Q := fun H o R k =>
  ⟨v, vs, rfl, h H o _ fun σ1 H1 s1 o1 h1 => h1 H1 o1 R k⟩
theorem wg_sub {to ti : TE} {ts : TSet} {Q : L2.St → Ld → Prop} (h : WE H0 to σ s fun o s1 => WE H0 ti σ s1 fun i s2 => WSet H0 ts o i v s2 fun s3 => Q σ s3) : WG H0 (gSub to ti ts) v σ s Q := fun H o R k =>
  h H o _ fun x H1 s1 o1 h1 => h1 H1 o1 _ fun y H2 s2 o2 h2 => h2 H2 o2 _ fun H3 s3 o3 q => k _ H3 s3 o3 q
theorem spl_t {c : Bool} {A B : Prop} (hc : c = true) (h : A) : (c = true → A) ∧ (c = false → B) := ⟨fun _ => h, fun e => absurd (hc.symm.trans e) (by decide)⟩
theorem spl_f {c : Bool} {A B : Prop} (hc : c = false) (h : B) : (c = true → A) ∧ (c = false → B) := ⟨fun e => absurd (hc.symm.trans e) (by decide), fun _ => h⟩
/-! ### loops -/
theorem ws_cut (M : L2.St → Ld → Prop) (h : WS H0 t1 σ s { D with nx := fun σ' s' => ∃ s0, Sub s0 s' ∧ M σ' s0 }) (k : ∀ σ' s', M σ' s' → WS H0 t2 σ' s' D) : WS H0 (tSeq t1 t2) σ s D := fun H o E l =>
  h H o _ ⟨(fun σ' H' s' o' ⟨s0, hs0, q⟩ => k σ' s0 q H' (o'.sub hs0) E l), l.rt, l.bk, l.ct⟩
/-- a loop's turn: what follows the body -/
def turnD (D : Dl) (J : L2.St → Ld → Prop) : Dl := { nx := fun σ' s' => ∃ s0, Sub s0 s' ∧ J σ' s0, ct := fun σ' s' => ∃ s0, Sub s0 s' ∧ J σ' s0, bk := D.nx, rt := D.rt }
def LoopOk (H0 : Hp) (J : It) (g : TG) (tb : TS) (σ : L2.St) (s : Ld) (D : Dl) : Prop := ∃ n G Y, Walk J n G Y ∧ ∃ I : Nat → L2.St → Ld → Prop, I 0 σ s ∧ (∀ i σ s H, i ≤ n → I i σ s → Own H0 H s → G H) ∧
    (∀ i x σ s H H', i < n → I i σ s → Own H0 H s → Y i H x H' → ∃ s', Own H0 H' s' ∧ WG H0 g x σ s' fun σ2 s2 => WS H0 tb σ2 s2 (turnD D (I (i + 1)))) ∧ (∀ σ s, I n σ s → D.nx σ s)
theorem ws_for {wi : TI} {tb : TS} (h : WI H0 wi σ s fun J s1 => LoopOk H0 J g tb σ s1 D) : WS H0 (tFor wi g tb) σ s D := fun H o E l => by
  refine h H o _ ?_
  rintro J H1 s1 o1 ⟨n, G, Y, w, I, h0, hG, hs, hd⟩
  refine for_it w (fun i σ H => ∃ s, Own H0 H s ∧ I i σ s) ⟨s1, o1, h0⟩ ?_ ?_ ?_
  · rintro i σ H hi ⟨s, o, q⟩
    exact hG i σ s H hi q o
  · rintro i x σ H H' hi ⟨s, o, q⟩ y
    obtain ⟨s', o', q'⟩ := hs i x σ s H H' hi q o y
    refine q' H' o' _ fun σ2 H2 s2 o2 h2 => ?_
    refine h2 H2 o2 _ ⟨fun σ' H' s' o' ⟨s0, hs0, q⟩ => ⟨s0, o'.sub hs0, q⟩, l.rt, fun σ' H' s' o' q => l.nx σ' H' s' o' q, fun σ' H' s' o' ⟨s0, hs0, q⟩ => ⟨s0, o'.sub hs0, q⟩⟩
  · rintro σ H ⟨s, o, q⟩
    exact l.nx σ H s o (hd σ s q)
def CompOk (H0 : Hp) (J : It) (g : TG) (tt : TT) (te : TE) (σ : L2.St) (vs : List Nat) (s1 : Ld) (Q : V → Ld → Prop) : Prop := ∃ n G Y, Walk J n G Y ∧ ∀ D, H0 D = none → ∃ I : Nat → Ld → Prop, I 0 ⟨(D, .lst []) :: s1.L, s1.T⟩ ∧ (∀ i s H, i ≤ n → I i s → Own H0 H s → G H) ∧
    (∀ i x s H H', i < n → I i s → Own H0 H s → Y i H x H' → ∃ s', Own H0 H' s' ∧ WG H0 g x (wipe σ vs) s' fun σ2 s2 => wipe σ2 vs = wipe σ vs ∧ WT H0 tt σ2 s2 fun b s3 =>
      (b = true → WE H0 te σ2 s3 fun y s4 => ∃ acc L' s0, Swap D (.lst acc) (.lst (acc ++ [y])) s4.L L' ∧ acc.length < 100000 ∧ Sub s0 ⟨L', s4.T⟩ ∧ I (i + 1) s0) ∧ (b = false → ∃ s0, Sub s0 s3 ∧ I (i + 1) s0)) ∧ (∀ s, I n s → Q (.ref D) s)
theorem we_lc {wi : TI} {tt : TT} {vs : List Nat} (h : WI H0 wi σ s fun J s1 => CompOk H0 J g tt te σ vs s1 Q) : WE H0 (tLc wi g tt te vs) σ s Q := fun H o R k => by
  refine h H o _ ?_
  rintro J H1 s1 o1 ⟨n, G, Y, w, h1⟩ D hD
  obtain ⟨I, h0, hG, hs, hd⟩ := h1 D (fresh_back o1.ex hD)
  refine lc_it w (fun i H => ∃ s, Own H0 H s ∧ I i s) ⟨_, o1.new hD, h0⟩ ?_ ?_ ?_
  · rintro i H hi ⟨s, o, q⟩
    exact hG i s H hi q o
  · rintro i x H H' hi ⟨s, o, q⟩ y
    obtain ⟨s', o', q'⟩ := hs i x s H H' hi q o y
    refine q' H' o' _ fun σ2 H2 s2 o2 h2 => ⟨h2.1, h2.2 H2 o2 _ fun b H3 s3 o3 h3 => ?_⟩
    cases b with
    | true =>
      rw [if_pos rfl]
      refine h3.1 rfl H3 o3 _ ?_
      rintro y H4 s4 o4 ⟨acc, L', s0, sw, hl, hs0, q⟩
      exact ⟨acc, (o4.own _ sw.mem).2, sz_lt hl, s0, (o4.swap sw trivial).sub hs0, q⟩
    | false =>
      rw [if_neg Bool.false_ne_true]
      obtain ⟨s0, hs0, q⟩ := h3.2 rfl
      exact ⟨s0, o3.sub hs0, q⟩
  · rintro H ⟨s, o, q⟩
    exact k _ H s o (hd s q)
end
end BM
namespace BM
open PySem L2 Evl
/-! ### rows as lists of truths -/
def B (b : Bool) : Nat := if b then 40 else 41
def T (r : List Bool) : Str := ⟨(r.map B).toArray⟩
theorem T_len (r : List Bool) : (T r).length = r.length := by
  show (r.map B).toArray.size = _
  simp
theorem T_list (r : List Bool) : (T r).cps.toList = r.map B := by
  show (r.map B).toArray.toList = _
  simp
theorem B_inj {a b : Bool} (h : B a = B b) : a = b := by
  cases a <;> cases b <;> first | rfl | (exact absurd h (by decide))
theorem T_inj {r u : List Bool} (h : T r = T u) : r = u := by
  have h1 : (T r).cps.toList = (T u).cps.toList := by rw [h]
  rw [T_list, T_list] at h1
  induction r generalizing u with
  | nil =>
    cases u with
    | nil => rfl
    | cons b u => simp at h1
  | cons a r ih =>
    cases u with
    | nil => simp at h1
    | cons b u =>
      simp only [List.map_cons, List.cons.injEq] at h1
      rw [B_inj h1.1]
      have h2 : T r = T u := by
        unfold T
        rw [h1.2]
      rw [ih h2 h1.2]
theorem T_eq {r u : List Bool} : (T r = T u) ↔ r = u := ⟨T_inj, fun h => by rw [h]⟩
theorem tV_eq {r u : List Bool} : (V.str (T r) = V.str (T u)) ↔ r = u := ⟨fun h => T_inj (V.str.inj h), fun h => by rw [h]⟩
theorem T_app (r u : List Bool) : T r ++ T u = T (r ++ u) := by
  apply TL.ext_tl
  rw [TL.tl_append]
  show (T r).cps.toList ++ (T u).cps.toList = (T (r ++ u)).cps.toList
  rw [T_list, T_list, T_list, List.map_append]
/-! ### constants -/
section
variable {X : Cx}
theorem pe_strT (r : List Bool) {x : Str} {j pos} (h : x = T r := by rfl) : PE X (.Constant (.str x) j pos) (tC (.str (T r))) := by
  rw [← h]
  exact pe_str
end
/-! ### operators: named readings -/
def aAdd : R2 := rI0 fun i j => .int (i + j)
def aSub : R2 := rI0 fun i j => .int (i - j)
def aMul : R2 := rI CMul fun i j => .int (i * j)
def aDiv : R2 := rI CDiv fun i j => .int (i / j)
def aMod : R2 := rI (fun _ j => 0 < j) fun i j => .int (i % j)
def aPow : R2 := rI CPow fun i j => .int (i ^ j.toNat)
def aLt : R2 := rI0 fun i j => .bl (decide (i < j))
def aLe : R2 := rI0 fun i j => .bl (decide (i ≤ j))
def aGt : R2 := rI0 fun i j => .bl (decide (j < i))
def aGe : R2 := rI0 fun i j => .bl (decide (j ≤ i))
def aCatT : R2 := fun x y H Q => ∃ r u : List Bool, x = .str (T r) ∧ y = .str (T u) ∧ r.length + u.length ≤ 100000 ∧ Q (.str (T (r ++ u))) H
def aIxT : R2 := fun x y H Q => ∃ (r : List Bool) (i : Int) (b : Bool), x = .str (T r) ∧ y = .int i ∧ r.length ≤ 100000 ∧ atI r i = some b ∧ Q (.str (T [b])) H
def aInT : R2 := fun x y H Q => ∃ (b : Bool) (r : List Bool), x = .str (T [b]) ∧ y = .str (T r) ∧ Q (.bl (decide (b ∈ r))) H
def aIsN : R2 := fun x y H Q => y = .non ∧ Q (.bl (decide (x = .non))) H
def aNotN : R2 := fun x y H Q => y = .non ∧ Q (.bl (!decide (x = .non))) H
def aIsB : R2 := fun x y H Q => ∃ a b : Bool, x = .bl a ∧ y = .bl b ∧ Q (.bl (decide (a = b))) H
def aNeg : V → Hp → VK → Prop := rU fun i => .int (-i)
def aLenL (K : PySem.W.Frag) : List V → Hp → VK → Prop := fun xs H Q => ∃ p ys, xs = [.ref p] ∧ (SqL K H p ys ∨ SqT K H p ys) ∧ Q (.int ys.length) H
def aLenT : List V → Hp → VK → Prop := fun xs H Q => ∃ r : List Bool, xs = [.str (T r)] ∧ r.length ≤ 100000 ∧ Q (.int r.length) H
def aAbs : List V → Hp → VK → Prop := fun xs H Q => ∃ i, xs = [.int i] ∧ Q (.int (if i < 0 then -i else i)) H
def aMax2 : List V → Hp → VK → Prop := fun xs H Q => ∃ i j, xs = [.int i, .int j] ∧ Q (.int (if j > i then j else i)) H
def aMin2 : List V → Hp → VK → Prop := fun xs H Q => ∃ i j, xs = [.int i, .int j] ∧ Q (.int (if j < i then j else i)) H
def aIntB : List V → Hp → VK → Prop := fun xs H Q => ∃ k : Bool, xs = [.bl k] ∧ Q (.int (if k then 1 else 0)) H
def aListOf (K : PySem.W.Frag) : List V → Hp → VK → Prop := fun xs H Q => ∃ p ys, xs = [.ref p] ∧ (SqL K H p ys ∨ SqT K H p ys) ∧ ∀ l, H l = none → Q (.ref l) (upd H l (.lst ys))
def aAll (K : PySem.W.Frag) : List V → Hp → VK → Prop := fun vs H Q => ∃ (a : Addr) (bs : List Bool), vs = [V.ref a] ∧ SqL K H a (bs.map V.bl) ∧ Q (.bl (bs.all id)) H
def aJoin (K : PySem.W.Frag) : V → List V → Hp → VK → Prop := fun x xs H Q => ∃ (p : Addr) (rs : List (List Bool)), x = .str (T []) ∧ xs = [.ref p] ∧ SqL K H p (rs.map fun r => .str (T r)) ∧ (rs.map (·.length)).sum ≤ 100000 ∧ Q (.str (T rs.flatten)) H
def cutL {α : Type} (xs : List α) (lo hi : Option Int) : List α := (xs.drop (HT.sIx xs.length 0 lo)).take (HT.sIx xs.length xs.length hi - HT.sIx xs.length 0 lo)
def aSlT : V → Option Int → Option Int → Hp → VK → Prop := fun x lo hi H Q => ∃ r : List Bool, x = .str (T r) ∧ r.length ≤ 100000 ∧ Q (.str (T (cutL r lo hi))) H
def aIsi (K : PySem.W.Frag) (u : String) : List V → Hp → VK → Prop := fun xs H Q => ∃ (x c : V) (t : Value) (b : Bool), xs = [x, c] ∧ c = .ty u ∧ TyX K H x t ∧ PySem.W.kitOne K t (.type u) = some b ∧ Q (.bl b) H
section
variable {X : Cx}
theorem o_add : OpR X (binaryOp .Add) aAdd := op_add
theorem o_sub : OpR X (binaryOp .Sub) aSub := op_sub
theorem o_mul : OpR X (binaryOp .Mult) aMul := op_mul
theorem o_div : OpR X (binaryOp .FloorDiv) aDiv := op_fdiv
theorem o_mod : OpR X (binaryOp .Mod) aMod := op_mod
theorem o_pow : OpR X (binaryOp .Pow) aPow := op_pow
theorem o_lt : OpR X (compareOp .Lt) aLt := op_lt
theorem o_le : OpR X (compareOp .LtE) aLe := op_le
theorem o_gt : OpR X (compareOp .Gt) aGt := op_gt
theorem o_ge : OpR X (compareOp .GtE) aGe := op_ge
theorem o_neg : UnR X (unaryOp .USub) aNeg := un_neg
theorem OpR.imp {f : Value → Value → Sem Value} {r r' : R2} (h : OpR X f r) (i : ∀ x y H Q, r' x y H Q → r x y H Q) : OpR X f r' := fun pins s σ H x y v u Q I rx ry q => h pins s σ H x y v u Q I rx ry (i x y H Q q)
theorem IxR.imp {r r' : R2} (h : IxR X r) (i : ∀ x y H Q, r' x y H Q → r x y H Q) : IxR X r' := fun a b pins s σ H x y v u Q I rx ry q => h a b pins s σ H x y v u Q I rx ry (i x y H Q q)
theorem CallR.imp {f : Value} {r r' : List V → Hp → VK → Prop} (h : CallR X f r) (i : ∀ x H Q, r' x H Q → r x H Q) : CallR X f r' := fun pins s σ H xs us Q I rx q => h pins s σ H xs us Q I rx (i xs H Q q)
theorem MtR.imp {id : String} {r r' : V → List V → Hp → VK → Prop} (h : MtR X id r) (i : ∀ x y H Q, r' x y H Q → r x y H Q) : MtR X id r' := fun pins s σ H x xs v us Q I rx ry q => h pins s σ H x xs v us Q I rx ry (i x xs H Q q)
theorem SlR.imp {r r' : V → Option Int → Option Int → Hp → VK → Prop} (h : SlR X r) (i : ∀ x lo hi H Q, r' x lo hi H Q → r x lo hi H Q) : SlR X r' := fun pins s σ H x v vl vu lo hi sl Q I rx hs pl pu q => h pins s σ H x v vl vu lo hi sl Q I rx hs pl pu (i x lo hi H Q q)
theorem o_catT : OpR X (binaryOp .Add) aCatT := OpR.imp op_add_str fun x y H Q ⟨r, u, e1, e2, hl, q⟩ => ⟨T r, T u, e1, e2, by rw [T_len, T_len]; exact sz_of hl, by rw [T_app]; exact q⟩
theorem x_T : IxR X aIxT := IxR.imp ix_str fun x y H Q ⟨r, i, b, e1, e2, hl, ha, q⟩ => ⟨T r, i, B b, e1, e2, by rw [T_len]; exact sz_of hl, by
  rw [T_list]
  unfold atI at ha ⊢
  rw [List.length_map]
  cases h : ixN r.length i with
  | none => rw [h] at ha; cases ha
  | some j =>
    rw [h] at ha
    show (r.map B)[j]? = _
    have ha' : r[j]? = some b := ha
    rw [List.getElem?_map, ha'] <;> rfl, q⟩
theorem o_inT : OpR X (compareOp .In) aInT := OpR.imp op_in_sign fun x y H Q ⟨b, r, e1, e2, q⟩ => ⟨B b, T r, e1, e2, by
  have e : decide (B b ∈ (T r).cps.toList) = decide (b ∈ r) := by
    rw [T_list]
    apply decide_eq_decide.mpr
    rw [List.mem_map]
    exact ⟨fun ⟨a, h, e⟩ => B_inj e ▸ h, fun h => ⟨b, h, rfl⟩⟩
  rw [e]
  exact q⟩
theorem c_len : CallR X (.builtin "len") (aLenL X.K) := call_len_seq
theorem c_lenT : CallR X (.builtin "len") aLenT := CallR.imp call_len_str fun xs H Q ⟨r, e, hl, q⟩ => ⟨T r, e, by rw [T_len]; exact sz_of hl, by rw [T_len]; exact q⟩
theorem c_abs : CallR X (.builtin "abs") aAbs := call_abs
theorem c_intB : CallR X (.type "int") aIntB := CallR.imp call_int1 fun xs H Q q => Or.inr q
theorem c_listOf : CallR X (.type "list") (aListOf X.K) := call_list_of
theorem c_all (hc : X.calm = true) : CallR X (.builtin "all") (aAll X.K) := cr_all hc
theorem T_join : ∀ rs : List (List Bool), Txt.join (T []) (rs.map T) = T rs.flatten := by
  intro rs
  rw [TL.join_eq]
  apply TL.ext_tl
  rw [TL.tl_join]
  show TL.joinL (T []).cps.toList ((rs.map T).map fun x => x.cps.toList) = (T rs.flatten).cps.toList
  rw [T_list, T_list]
  have e : ((rs.map T).map fun x => x.cps.toList) = rs.map fun r => r.map B := by
    rw [List.map_map]
    apply List.map_congr_left
    intro r _
    exact T_list r
  rw [e]
  clear e
  induction rs with
  | nil => rfl
  | cons r rs ih =>
    cases rs with
    | nil => simp [TL.joinL]
    | cons u rs =>
      rw [List.flatten_cons, List.map_append, ← ih]
      rfl
theorem m_join : MtR X "str.join" (aJoin X.K) := MtR.imp mt_join fun x xs H Q ⟨p, rs, e1, e2, h, hl, q⟩ => ⟨T [], p, rs.map T, e1, e2, Or.inl (by rw [List.map_map]; exact h), by
  rw [T_len, List.map_map]
  have e : (rs.map ((fun x => x.length) ∘ T)) = rs.map (·.length) := by
    apply List.map_congr_left
    intro r _
    exact T_len r
  rw [e]
  simp only [List.length_nil, Nat.mul_zero, Nat.add_zero]
  exact Nat.le_trans hl (by decide), by rw [T_join]; exact q⟩
theorem c_isi (u : String) : CallR X (.builtin "isinstance") (aIsi X.K u) := CallR.imp call_isi fun xs H Q ⟨x, c, t, b, e, ec, ty, k, q⟩ => ⟨x, c, t, .type u, b, e, by rw [ec]; exact .ty u, ty, k, q⟩
end
end BM
namespace BM
open PySem L2 Evl
section
variable {K : PySem.W.Frag} {H0 : Hp} {σ : L2.St} {s : Ld} {ta tb te tl : TE} {t u : TT} {tr : TA} {x y z v : V} {r : R2} {Q : V → Ld → Prop} {D : Dl} {t1 t2 : TS} {g : TG} {i j : Int}
theorem w2_add (q : Q (.int (i + j)) s) : W2 H0 aAdd (.int i) (.int j) s Q := fun H o R k => ⟨i, j, rfl, rfl, k _ H s o q⟩
theorem w2_sub (q : Q (.int (i - j)) s) : W2 H0 aSub (.int i) (.int j) s Q := fun H o R k => ⟨i, j, rfl, rfl, k _ H s o q⟩
theorem w2_mul (h : CMul i j) (q : Q (.int (i * j)) s) : W2 H0 aMul (.int i) (.int j) s Q := fun H o R k => ⟨i, j, rfl, rfl, h, k _ H s o q⟩
theorem w2_div (h : 0 < j ∧ j < 1073741824) (q : Q (.int (i / j)) s) : W2 H0 aDiv (.int i) (.int j) s Q := fun H o R k => ⟨i, j, rfl, rfl, h, k _ H s o q⟩
theorem w2_mod (h : 0 < j) (q : Q (.int (i % j)) s) : W2 H0 aMod (.int i) (.int j) s Q := fun H o R k => ⟨i, j, rfl, rfl, h, k _ H s o q⟩
theorem w2_pow (h : CPow i j) (q : Q (.int (i ^ j.toNat)) s) : W2 H0 aPow (.int i) (.int j) s Q := fun H o R k => ⟨i, j, rfl, rfl, h, k _ H s o q⟩
theorem w2_lt (q : Q (.bl (decide (i < j))) s) : W2 H0 aLt (.int i) (.int j) s Q := fun H o R k => ⟨i, j, rfl, rfl, k _ H s o q⟩
theorem w2_le (q : Q (.bl (decide (i ≤ j))) s) : W2 H0 aLe (.int i) (.int j) s Q := fun H o R k => ⟨i, j, rfl, rfl, k _ H s o q⟩
theorem w2_gt (q : Q (.bl (decide (j < i))) s) : W2 H0 aGt (.int i) (.int j) s Q := fun H o R k => ⟨i, j, rfl, rfl, k _ H s o q⟩
theorem w2_ge (q : Q (.bl (decide (j ≤ i))) s) : W2 H0 aGe (.int i) (.int j) s Q := fun H o R k => ⟨i, j, rfl, rfl, k _ H s o q⟩
theorem w2_eqI (q : Q (.bl (decide (i = j))) s) : W2 H0 rEq (.int i) (.int j) s Q := fun H o R k => ⟨rfl, k _ H s o (by
  have e : decide (V.int i = V.int j) = decide (i = j) := decide_eq_decide.mpr ⟨fun h => V.int.inj h, fun h => by rw [h]⟩
  rw [e]; exact q)⟩
theorem w2_neI (q : Q (.bl (!decide (i = j))) s) : W2 H0 rNe (.int i) (.int j) s Q := fun H o R k => ⟨rfl, k _ H s o (by
  have e : decide (V.int i = V.int j) = decide (i = j) := decide_eq_decide.mpr ⟨fun h => V.int.inj h, fun h => by rw [h]⟩
  rw [e]; exact q)⟩
theorem w2_eqB {a b : Bool} (q : Q (.bl (decide (a = b))) s) : W2 H0 rEq (.bl a) (.bl b) s Q := fun H o R k => ⟨rfl, k _ H s o (by
  have e : decide (V.bl a = V.bl b) = decide (a = b) := decide_eq_decide.mpr ⟨fun h => V.bl.inj h, fun h => by rw [h]⟩
  rw [e]; exact q)⟩
theorem w2_neB {a b : Bool} (q : Q (.bl (!decide (a = b))) s) : W2 H0 rNe (.bl a) (.bl b) s Q := fun H o R k => ⟨rfl, k _ H s o (by
  have e : decide (V.bl a = V.bl b) = decide (a = b) := decide_eq_decide.mpr ⟨fun h => V.bl.inj h, fun h => by rw [h]⟩
  rw [e]; exact q)⟩
theorem w2_eqT {a b : List Bool} (q : Q (.bl (decide (a = b))) s) : W2 H0 rEq (.str (T a)) (.str (T b)) s Q := fun H o R k => ⟨rfl, k _ H s o (by
  have e : decide (V.str (T a) = V.str (T b)) = decide (a = b) := decide_eq_decide.mpr tV_eq
  rw [e]; exact q)⟩
theorem w2_neT {a b : List Bool} (q : Q (.bl (!decide (a = b))) s) : W2 H0 rNe (.str (T a)) (.str (T b)) s Q := fun H o R k => ⟨rfl, k _ H s o (by
  have e : decide (V.str (T a) = V.str (T b)) = decide (a = b) := decide_eq_decide.mpr tV_eq
  rw [e]; exact q)⟩
theorem w2_isN (q : Q (.bl (decide (x = .non))) s) : W2 H0 aIsN x .non s Q := fun H o R k => ⟨rfl, k _ H s o q⟩
theorem w2_notN (q : Q (.bl (!decide (x = .non))) s) : W2 H0 aNotN x .non s Q := fun H o R k => ⟨rfl, k _ H s o q⟩
theorem w2_isB {a b : Bool} (q : Q (.bl (decide (a = b))) s) : W2 H0 aIsB (.bl a) (.bl b) s Q := fun H o R k => ⟨a, b, rfl, rfl, k _ H s o q⟩
theorem w2_catT {a b : List Bool} (h : a.length + b.length ≤ 100000) (q : Q (.str (T (a ++ b))) s) : W2 H0 aCatT (.str (T a)) (.str (T b)) s Q := fun H o R k => ⟨a, b, rfl, rfl, h, k _ H s o q⟩
theorem w2_ixT {a : List Bool} {b : Bool} (hl : a.length ≤ 100000) (h : atI a i = some b) (q : Q (.str (T [b])) s) : W2 H0 aIxT (.str (T a)) (.int i) s Q := fun H o R k => ⟨a, i, b, rfl, rfl, hl, h, k _ H s o q⟩
theorem w2_inT {a : List Bool} {b : Bool} (q : Q (.bl (decide (b ∈ a))) s) : W2 H0 aInT (.str (T [b])) (.str (T a)) s Q := fun H o R k => ⟨b, a, rfl, rfl, k _ H s o q⟩
theorem w2_ixL {p : Addr} {xs : List V} (hx : IsL K H0 s p xs) (h : atI xs i = some v) (q : Q v s) : W2 H0 (rIxL K) (.ref p) (.int i) s Q := fun H o R k => ⟨p, xs, i, v, rfl, rfl, hx H o, h, k _ H s o q⟩
theorem w2_ixU {p : Addr} {xs : List V} (hx : IsT K H0 s p xs) (h : atI xs i = some v) (q : Q v s) : W2 H0 (rIxT K) (.ref p) (.int i) s Q := fun H o R k => ⟨p, xs, i, v, rfl, rfl, hx H o, h, k _ H s o q⟩
theorem w1_neg (q : Q (.int (-i)) s) : W1 H0 aNeg (.int i) s Q := fun H o R k => ⟨i, rfl, k _ H s o q⟩
/-! calls of built-ins -/
theorem wl_len {p : Addr} {xs : List V} (hx : IsL K H0 s p xs) (q : Q (.int (xs.length : Int)) s) : WL H0 (aLenL K) [.ref p] s Q := fun H o R k => ⟨p, xs, rfl, Or.inl (hx H o), k _ H s o q⟩
theorem wl_lenT {a : List Bool} (hl : a.length ≤ 100000) (q : Q (.int (a.length : Int)) s) : WL H0 aLenT [.str (T a)] s Q := fun H o R k => ⟨a, rfl, hl, k _ H s o q⟩
theorem wl_abs (q : Q (.int (if i < 0 then -i else i)) s) : WL H0 aAbs [.int i] s Q := fun H o R k => ⟨i, rfl, k _ H s o q⟩
theorem wl_max2 (q : Q (.int (if j > i then j else i)) s) : WL H0 aMax2 [.int i, .int j] s Q := fun H o R k => ⟨i, j, rfl, k _ H s o q⟩
theorem wl_min2 (q : Q (.int (if j < i then j else i)) s) : WL H0 aMin2 [.int i, .int j] s Q := fun H o R k => ⟨i, j, rfl, k _ H s o q⟩
theorem wl_intB {b : Bool} (q : Q (.int (if b then 1 else 0)) s) : WL H0 aIntB [.bl b] s Q := fun H o R k => ⟨b, rfl, k _ H s o q⟩
theorem wl_listOf {p : Addr} {xs : List V} (hx : IsL K H0 s p xs) (q : ∀ l, H0 l = none → Q (.ref l) ⟨(l, .lst xs) :: s.L, s.T⟩) : WL H0 (aListOf K) [.ref p] s Q := fun H o R k => ⟨p, xs, rfl, Or.inl (hx H o), fun l hl => k _ _ _ (o.new hl) (q l (fresh_back o.ex hl))⟩
theorem wl_all {p : Addr} {bs : List Bool} (hx : IsL K H0 s p (bs.map V.bl)) (q : Q (.bl (bs.all id)) s) : WL H0 (aAll K) [.ref p] s Q := fun H o R k => ⟨p, bs, rfl, hx H o, k _ H s o q⟩
theorem wl_sum {p : Addr} {ns : List Int} (hx : IsL K H0 s p (ns.map V.int)) (q : Q (.int ns.sum) s) : WL H0 (rSum K) [.ref p] s Q := fun H o R k => ⟨p, ns, rfl, hx H o, k _ H s o q⟩
theorem wl_min {p : Addr} {ns : List Int} (hx : IsL K H0 s p (ns.map V.int)) (hn : 0 < ns.length) (q : ∀ m, m ∈ ns → (∀ y, y ∈ ns → m ≤ y) → Q (.int m) s) : WL H0 (rMin K) [.ref p] s Q := fun H o R k => ⟨p, ns, rfl, hx H o, hn, fun m h1 h2 => k _ H s o (q m h1 h2)⟩
theorem wl_isi {c : String} {tv : Value} {b : Bool} (ty : ∀ H, Own H0 H s → TyX K H x tv) (hk : PySem.W.kitOne K tv (.type c) = some b) (q : Q (.bl b) s) : WL H0 (aIsi K c) [x, .ty c] s Q := fun H o R k => ⟨x, .ty c, tv, b, rfl, rfl, ty H o, hk, k _ H s o q⟩
/-! methods -/
theorem we_bm {T : String} {r : V → List V → Hp → VK → Prop} {to : TE} (h : WE H0 to σ s fun x s1 => (∀ H, Own H0 H s1 → tyV K T x H) ∧ WA H0 tr σ s1 fun xs s2 => WM H0 r x xs s2 Q) : WE H0 (tBM K T r to tr) σ s Q := fun H o R k =>
  h H o _ fun x H1 s1 o1 ⟨ty, h1⟩ => ⟨ty H1 o1, h1 H1 o1 _ fun xs H2 s2 o2 h2 => h2 H2 o2 R k⟩
theorem we_bm0 {T : String} {r : V → List V → Hp → VK → Prop} {to : TE} (h : WE H0 to σ s fun x s1 => (∀ H, Own H0 H s1 → tyV K T x H) ∧ WM H0 r x [] s1 Q) : WE H0 (tBM0 K T r to) σ s Q := fun H o R k =>
  h H o _ fun x H1 s1 o1 ⟨ty, h1⟩ => ⟨ty H1 o1, h1 H1 o1 R k⟩
theorem ty_L {p : Addr} {xs : List V} (hx : IsL K H0 s p xs) : ∀ H, Own H0 H s → tyV K "list" (.ref p) H := fun H o => Or.inl ⟨rfl, xs, hx H o⟩
theorem ty_S {a : Str} : ∀ H, Own H0 H s → tyV K "str" (.str a) H := fun H o => rfl
theorem wm_append {p : Addr} {xs : List V} {L' : List (Addr × HO)} (sw : Swap p (.lst xs) (.lst (xs ++ [v])) s.L L') (hl : xs.length < 100000) (q : Q .non ⟨L', s.T⟩) : WM H0 rAppend (.ref p) [v] s Q := fun H o R k =>
  ⟨p, xs, v, rfl, rfl, (o.own _ sw.mem).2, sz_lt hl, k _ _ _ (o.swap sw trivial) q⟩
theorem wm_extend {p b : Addr} {xs zs : List V} {L' : List (Addr × HO)} (sw : Swap p (.lst xs) (.lst (xs ++ zs)) s.L L') (hb : (b, HO.lst zs) ∈ s.L) (hl : xs.length + zs.length ≤ 100000) (q : Q .non ⟨L', s.T⟩) : WM H0 rExtend (.ref p) [.ref b] s Q := fun H o R k =>
  ⟨p, b, xs, zs, rfl, rfl, (o.own _ sw.mem).2, (o.own _ hb).2, sz_of hl, k _ _ _ (o.swap sw trivial) q⟩
theorem wm_join {p : Addr} {rs : List (List Bool)} (hx : IsL K H0 s p (rs.map fun r => .str (T r))) (hl : (rs.map (·.length)).sum ≤ 100000) (q : Q (.str (T rs.flatten)) s) : WM H0 (aJoin K) (.str (T [])) [.ref p] s Q := fun H o R k =>
  ⟨p, rs, rfl, rfl, hx H o, hl, k _ H s o q⟩
theorem wset_list {p : Addr} {xs : List V} {j : Nat} {L' : List (Addr × HO)} {Q : Ld → Prop} (hj : ixN xs.length i = some j) (sw : Swap p (.lst xs) (.lst (xs.set j v)) s.L L') (q : Q ⟨L', s.T⟩) : WSet H0 rSetL (.ref p) (.int i) v s Q := fun H o R k =>
  ⟨p, xs, i, j, rfl, rfl, (o.own _ sw.mem).2, hj, k _ _ (o.swap sw trivial) q⟩
/-! slices, lists joined -/
theorem wsl_T {a : List Bool} {lo hi : Option Int} (hl : a.length ≤ 100000) (q : Q (.str (T (cutL a lo hi))) s) : WSl H0 aSlT (.str (T a)) lo hi s Q := fun H o R k => ⟨a, rfl, hl, k _ H s o q⟩
theorem wsl_L {p : Addr} {xs : List V} {lo hi : Option Int} (hx : IsL K H0 s p xs) (q : ∀ l, H0 l = none → Q (.ref l) ⟨(l, .lst (cutL xs lo hi)) :: s.L, s.T⟩) : WSl H0 (rSlL K) (.ref p) lo hi s Q := fun H o R k => ⟨p, xs, rfl, hx H o, fun l hl => k _ _ _ (o.new hl) (q l (fresh_back o.ex hl))⟩
theorem w2_cat {p b : Addr} {xs zs : List V} (hp : (p, HO.lst xs) ∈ s.L) (hb : (b, HO.lst zs) ∈ s.L) (hl : xs.length + zs.length ≤ 100000) (q : ∀ l, H0 l = none → Q (.ref l) ⟨(l, .lst (xs ++ zs)) :: s.L, s.T⟩) : W2 H0 rCat (.ref p) (.ref b) s Q := fun H o R k =>
  ⟨p, b, xs, zs, rfl, rfl, (o.own _ hp).2, (o.own _ hb).2, sz_of hl, fun l hl => k _ _ _ (o.new hl) (q l (fresh_back o.ex hl))⟩
/-! ### own defs: promises of two shapes -/
def spV (R : List V → Hp → V → Prop) : Sp := fun vs H Q _ => ∃ v, R vs H v ∧ ∀ H', Ex H H' → Q v H'
def spL (R : List V → Hp → List V → Prop) : Sp := fun vs H Q _ => ∃ xs, R vs H xs ∧ ∀ p H', H p = none → Ex H H' → H' p = some (.lst xs) → Q (.ref p) H'
theorem wc_V {R : List V → Hp → V → Prop} {E : XK} {vs : List V} (h : ∀ H, Own H0 H s → R vs H v) (q : Q v s) : WC H0 (spV R) E vs s Q := fun H o R' k => ⟨v, h H o, fun H' e => k _ _ _ (o.ext e) q⟩
theorem wc_L {R : List V → Hp → List V → Prop} {E : XK} {vs xs : List V} (h : ∀ H, Own H0 H s → R vs H xs) (q : ∀ p, H0 p = none → Q (.ref p) ⟨(p, .lst xs) :: s.L, s.T⟩) : WC H0 (spL R) E vs s Q := fun H o R' k =>
  ⟨xs, h H o, fun p H' hp e hx => k _ _ _ (o.newE hp e hx) (q p (fresh_back o.ex hp))⟩
/-! ### a def's body -/
def retV (v : V) : Dl := { nx := fun _ _ => v = .non, rt := fun u _ => u = v }
def retL (xs : List V) : Dl := { nx := fun _ _ => False, rt := fun u s => ∃ p, u = .ref p ∧ (p, HO.lst xs) ∈ s.L }
theorem body_V {H : Hp} {t : TS} {N : List Str} {vs : List V} {Q : VK} (h : WS H t (start N vs) ⟨[], []⟩ (retV v)) (k : ∀ H', Ex H H' → Q v H') : t { nx := fun _ H' => Q .non H', rt := Q } (start N vs) H :=
  h H (Own.start H) _ ⟨fun σ H' s o e => by
    have e' : v = .non := e
    rw [← e']
    exact k H' o.ex, fun u H' s o e => by
    have e' : u = v := e
    rw [e']
    exact k H' o.ex, (fun _ _ _ _ q => q.elim), (fun _ _ _ _ q => q.elim)⟩
theorem body_L {H : Hp} {t : TS} {N : List Str} {vs xs : List V} {Q : VK} (h : WS H t (start N vs) ⟨[], []⟩ (retL xs)) (k : ∀ p H', H p = none → Ex H H' → H' p = some (.lst xs) → Q (.ref p) H') : t { nx := fun _ H' => Q .non H', rt := Q } (start N vs) H :=
  h H (Own.start H) _ ⟨(fun _ _ _ _ q => q.elim), fun u H' s o ⟨p, e, m⟩ => by
    rw [e]
    exact k p H' (o.own _ m).1 o.ex (o.own _ m).2, (fun _ _ _ _ q => q.elim), (fun _ _ _ _ q => q.elim)⟩
/-! ### what is walked -/
theorem wi_list {R : It → Ld → Prop} (h : WE H0 tl σ s fun x s1 => ∃ a, x = .ref a ∧ (∃ xs, IsL K H0 s1 a xs) ∧ R (Itl K a) s1) : WI H0 (iList K tl) σ s R := fun H o R' k =>
  h H o _ fun x H1 s1 o1 ⟨a, e, ⟨xs, hx⟩, q⟩ => ⟨a, e, ⟨xs, hx H1 o1⟩, k _ H1 s1 o1 q⟩
theorem wi_tup {R : It → Ld → Prop} (h : WE H0 tl σ s fun x s1 => ∃ a, x = .ref a ∧ (∃ xs, IsT K H0 s1 a xs) ∧ R (Itt K a) s1) : WI H0 (iTup K tl) σ s R := fun H o R' k =>
  h H o _ fun x H1 s1 o1 ⟨a, e, ⟨xs, hx⟩, q⟩ => ⟨a, e, ⟨xs, hx H1 o1⟩, k _ H1 s1 o1 q⟩
theorem wi_T {R : It → Ld → Prop} (h : WE H0 te σ s fun x s1 => ∃ r, x = .str (T r) ∧ R (Its (T r)) s1) : WI H0 (iStr te) σ s R := fun H o R' k =>
  h H o _ fun x H1 s1 o1 ⟨r, e, q⟩ => ⟨T r, e, k _ H1 s1 o1 q⟩
theorem we_call0 {sp : Sp} {E : XK} {ta : TA} (h : WA H0 ta σ s fun xs s1 => WC H0 sp E xs s1 Q) : WE H0 (tCall sp [] E ta) σ s Q := fun H o R k =>
  h H o _ fun xs H1 s1 o1 h1 => by
    show sp (xs ++ []) H1 R E
    rw [List.append_nil]
    exact h1 H1 o1 R k
theorem wi_rng1 {R : It → Ld → Prop} (h : WA H0 tr σ s fun xs s1 => ∃ n : Int, xs = [.int n] ∧ (n ≤ 1000000 ∧ -1000000 ≤ n) ∧ R (Itr 0 n.toNat) s1) : WI H0 (iRng1 tr) σ s R := fun H o R' k =>
  h H o _ fun x H1 s1 o1 ⟨n, e, h1, q⟩ => ⟨n, e, by omega, by omega, k _ H1 s1 o1 q⟩
theorem wi_rng2 {R : It → Ld → Prop} (h : WA H0 tr σ s fun xs s1 => ∃ m n : Int, xs = [.int m, .int n] ∧ (n ≤ 1000000 ∧ -1000000 ≤ n ∧ m ≤ 1000000 ∧ -1000000 ≤ m) ∧ R (Itr m (n - m).toNat) s1) : WI H0 (iRng2 tr) σ s R := fun H o R' k =>
  h H o _ fun x H1 s1 o1 ⟨m, n, e, h1, q⟩ => ⟨m, n, e, by omega, k _ H1 s1 o1 q⟩
theorem wi_rng3 {R : It → Ld → Prop} (h : WA H0 tr σ s fun xs s1 => ∃ (i j c : Int) (n : Nat), xs = [.int i, .int j, .int c] ∧ RgC i j c n ∧ R (Itc i c n) s1) : WI H0 (iRng3 tr) σ s R := fun H o R' k =>
  h H o _ fun x H1 s1 o1 ⟨i, j, c, n, e, h1, q⟩ => ⟨i, j, c, n, e, h1, k _ H1 s1 o1 q⟩
theorem wi_enum {R : It → Ld → Prop} (h : WA H0 tr σ s fun xs s1 => ∃ a ys, xs = [.ref a] ∧ IsL K H0 s1 a ys ∧ R (Ite K a) s1) : WI H0 (iEnum K tr) σ s R := fun H o R' k =>
  h H o _ fun x H1 s1 o1 ⟨a, ys, e, h1, q⟩ => ⟨a, ys, e, h1 H1 o1, k _ H1 s1 o1 q⟩
theorem wi_zip {R : It → Ld → Prop} (h : WA H0 tr σ s fun xs s1 => ∃ a b ys zs, xs = [.ref a, .ref b] ∧ IsL K H0 s1 a ys ∧ IsL K H0 s1 b zs ∧ R (Itz K a b) s1) : WI H0 (iZip K tr) σ s R := fun H o R' k =>
  h H o _ fun x H1 s1 o1 ⟨a, b, ys, zs, e, h1, h2, q⟩ => ⟨a, b, ys, zs, e, h1 H1 o1, h2 H1 o1, k _ H1 s1 o1 q⟩
theorem T_at {r : List Bool} {i c : Nat} (h : (T r).cps[i]? = some c) : ∃ b, r[i]? = some b ∧ c = B b := by
  have hc' : (T r).cps.toList[i]? = some c := by rw [Array.getElem?_toList]; exact h
  rw [T_list, List.getElem?_map] at hc'
  cases h : r[i]? with
  | none => rw [h] at hc'; cases hc'
  | some b =>
    rw [h] at hc'
    exact ⟨b, rfl, (Option.some.inj hc').symm⟩
/-- the loop's part, for each thing walked: what it gives and what stays -/
theorem lp_list {a : Addr} {xs : List V} {n : Nat} (I : Nat → L2.St → Ld → Prop) (hn : xs.length = n) (h0 : I 0 σ s) (hI : ∀ i σ s, i ≤ n → I i σ s → IsL K H0 s a xs)
    (hs : ∀ i x σ s, i < n → xs[i]? = some x → I i σ s → WG H0 g x σ s fun σ2 s2 => WS H0 t1 σ2 s2 (turnD D (I (i + 1)))) (hd : ∀ σ s, I n σ s → D.nx σ s) : LoopOk H0 (Itl K a) g t1 σ s D := by
  subst hn
  exact ⟨xs.length, _, _, walk_list (xs := xs), I, h0, fun i σ s H hi q o => hI i σ s hi q H o, fun i x σ s H H' hi q o ⟨e, hx⟩ => ⟨s, by rw [e]; exact o, hs i x σ s hi hx q⟩, hd⟩
theorem lp_T {r : List Bool} {n : Nat} (I : Nat → L2.St → Ld → Prop) (hn : r.length = n) (h0 : I 0 σ s)
    (hs : ∀ i b σ s, i < n → r[i]? = some b → I i σ s → WG H0 g (.str (T [b])) σ s fun σ2 s2 => WS H0 t1 σ2 s2 (turnD D (I (i + 1)))) (hd : ∀ σ s, I n σ s → D.nx σ s) : LoopOk H0 (Its (T r)) g t1 σ s D := by
  have e : (T r).cps.size = n := by rw [← hn]; exact T_len r
  subst e
  refine ⟨_, _, _, walk_str (z := T r), I, h0, fun i σ s H hi q o => trivial, fun i x σ s H H' hi q o ⟨e, c, hc, ex⟩ => ⟨s, by rw [e]; exact o, ?_⟩, hd⟩
  obtain ⟨b, h, rfl⟩ := T_at hc
  rw [ex]
  exact hs i b σ s hi h q
theorem lp_rng {lo : Int} {m : Nat} (I : Nat → L2.St → Ld → Prop) (h0 : I 0 σ s)
    (hs : ∀ i σ s, i < m → I i σ s → WG H0 g (.int (lo + (i : Int))) σ s fun σ2 s2 => WS H0 t1 σ2 s2 (turnD D (I (i + 1)))) (hd : ∀ σ s, I m σ s → D.nx σ s) : LoopOk H0 (Itr lo m) g t1 σ s D :=
  ⟨m, _, _, walk_range, I, h0, fun i σ s H hi q o => trivial, fun i x σ s H H' hi q o ⟨e, ex⟩ => ⟨s, by rw [e]; exact o, by rw [ex]; exact hs i σ s hi q⟩, hd⟩
/-! comprehensions: F i is the list behind i items -/
theorem cp_core {J : It} {n : Nat} {G : Hp → Prop} {Y : Nat → Hp → V → Hp → Prop} {tt : TT} {vs : List Nat} (w : Walk J n G Y) (hn : n ≤ 90000) (F : Nat → List V) (hF0 : F 0 = []) (hFl : ∀ i, i ≤ n → (F i).length ≤ i)
    (hG : ∀ D x H, Own H0 H ⟨(D, .lst x) :: s.L, s.T⟩ → G H)
    (hs : ∀ D i x H H', i < n → Own H0 H ⟨(D, .lst (F i)) :: s.L, s.T⟩ → Y i H x H' → ∃ s', Own H0 H' s' ∧ WG H0 g x (wipe σ vs) s' fun σ2 s2 => wipe σ2 vs = wipe σ vs ∧ WT H0 tt σ2 s2 fun b s3 =>
      (b = true → WE H0 te σ2 s3 fun y s4 => Sub ⟨(D, .lst (F i)) :: s.L, s.T⟩ s4 ∧ F (i + 1) = F i ++ [y]) ∧ (b = false → Sub ⟨(D, .lst (F i)) :: s.L, s.T⟩ s3 ∧ F (i + 1) = F i)) (hq : ∀ D, H0 D = none → Q (.ref D) ⟨(D, .lst (F n)) :: s.L, s.T⟩) : CompOk H0 J g tt te σ vs s Q := by
  refine ⟨n, G, Y, w, fun D hD => ⟨fun i s' => s' = ⟨(D, .lst (F i)) :: s.L, s.T⟩, (by show (⟨(D, .lst []) :: s.L, s.T⟩ : Ld) = ⟨(D, .lst (F 0)) :: s.L, s.T⟩; rw [hF0]), fun i s' H hi e o => ?_, fun i x s' H H' hi e o y => ?_, fun s' e => by rw [e]; exact hq D hD⟩⟩
  · rw [e] at o
    exact hG D _ H o
  · rw [e] at o
    obtain ⟨s2, o2, h2⟩ := hs D i x H H' hi o y
    refine ⟨s2, o2, fun H3 o3 R k => h2 H3 o3 R fun σ3 H4 s4 o4 h4 => k _ H4 s4 o4 ⟨h4.1, fun H5 o5 R5 k5 => h4.2 H5 o5 R5 fun b H6 s6 o6 h6 => k5 b H6 s6 o6 ⟨fun hb => ?_, fun hb => ?_⟩⟩⟩
    · refine fun H7 o7 R7 k7 => h6.1 hb H7 o7 R7 fun y H8 s8 o8 h8 => k7 y H8 s8 o8 ?_
      obtain ⟨hsub, he⟩ := h8
      obtain ⟨L8, sw, hs8⟩ : ∃ L', Swap D (.lst (F i)) (.lst (F i ++ [y])) s8.L L' ∧ List.Sublist ((D, HO.lst (F i ++ [y])) :: s.L) L' := by
        have aux : ∀ (L M : List (Addr × HO)), List.Sublist ((D, HO.lst (F i)) :: L) M → ∃ L', Swap D (.lst (F i)) (.lst (F i ++ [y])) M L' ∧ List.Sublist ((D, HO.lst (F i ++ [y])) :: L) L' := by
          intro L M h
          generalize hx : ((D, HO.lst (F i)) :: L) = X at h
          induction h with
          | slnil => cases hx
          | cons a h ih =>
            obtain ⟨L', h1, h2⟩ := ih hx
            exact ⟨_, .there h1, .cons _ h2⟩
          | cons_cons a h ih =>
            cases hx
            exact ⟨_, .here, .cons_cons _ h⟩
        exact aux s.L s8.L hsub.l
      exact ⟨F i, L8, ⟨(D, .lst (F (i + 1))) :: s.L, s.T⟩, sw, Nat.lt_of_le_of_lt (hFl i (Nat.le_of_lt hi)) (by omega), ⟨by rw [he]; exact hs8, hsub.t⟩, rfl⟩
    · obtain ⟨hsub, he⟩ := h6.2 hb
      exact ⟨_, hsub, (by show (⟨(D, .lst (F i)) :: s.L, s.T⟩ : Ld) = ⟨(D, .lst (F (i + 1))) :: s.L, s.T⟩; rw [he])⟩
theorem cp_list {a : Addr} {xs : List V} {tt : TT} {vs : List Nat} (F : Nat → List V) (hx : IsL K H0 s a xs) (hn : xs.length ≤ 90000) (hF0 : F 0 = []) (hFl : ∀ i, i ≤ xs.length → (F i).length ≤ i)
    (hs : ∀ D i x, i < xs.length → xs[i]? = some x → WG H0 g x (wipe σ vs) ⟨(D, .lst (F i)) :: s.L, s.T⟩ fun σ2 s2 => wipe σ2 vs = wipe σ vs ∧ WT H0 tt σ2 s2 fun b s3 =>
      (b = true → WE H0 te σ2 s3 fun y s4 => Sub ⟨(D, .lst (F i)) :: s.L, s.T⟩ s4 ∧ F (i + 1) = F i ++ [y]) ∧ (b = false → Sub ⟨(D, .lst (F i)) :: s.L, s.T⟩ s3 ∧ F (i + 1) = F i)) (hq : ∀ D, H0 D = none → Q (.ref D) ⟨(D, .lst (F xs.length)) :: s.L, s.T⟩) : CompOk H0 (Itl K a) g tt te σ vs s Q :=
  cp_core (walk_list (xs := xs)) hn F hF0 hFl (fun D x H o => hx H (o.dropL (.cons _ (.refl _)) fun _ h => h)) (fun D i x H H' hi o ⟨e, h⟩ => ⟨⟨(D, .lst (F i)) :: s.L, s.T⟩, by rw [e]; exact o, hs D i x hi h⟩) hq
theorem cp_T {r : List Bool} {tt : TT} {vs : List Nat} (F : Nat → List V) (hn : r.length ≤ 90000) (hF0 : F 0 = []) (hFl : ∀ i, i ≤ r.length → (F i).length ≤ i)
    (hs : ∀ D i b, i < r.length → r[i]? = some b → WG H0 g (.str (T [b])) (wipe σ vs) ⟨(D, .lst (F i)) :: s.L, s.T⟩ fun σ2 s2 => wipe σ2 vs = wipe σ vs ∧ WT H0 tt σ2 s2 fun b s3 =>
      (b = true → WE H0 te σ2 s3 fun y s4 => Sub ⟨(D, .lst (F i)) :: s.L, s.T⟩ s4 ∧ F (i + 1) = F i ++ [y]) ∧ (b = false → Sub ⟨(D, .lst (F i)) :: s.L, s.T⟩ s3 ∧ F (i + 1) = F i)) (hq : ∀ D, H0 D = none → Q (.ref D) ⟨(D, .lst (F r.length)) :: s.L, s.T⟩) : CompOk H0 (Its (T r)) g tt te σ vs s Q := by
  have e : (T r).cps.size = r.length := T_len r
  refine cp_core (n := r.length) (e ▸ walk_str (z := T r)) hn F hF0 hFl (fun D x H o => trivial) (fun D i x H H' hi o ⟨e, c, hc, ex⟩ => ⟨⟨(D, .lst (F i)) :: s.L, s.T⟩, by rw [e]; exact o, ?_⟩) hq
  obtain ⟨b, h, rfl⟩ := T_at hc
  rw [ex]
  exact hs D i b hi h
theorem cp_rng {lo : Int} {m : Nat} {tt : TT} {vs : List Nat} (F : Nat → List V) (hn : m ≤ 90000) (hF0 : F 0 = []) (hFl : ∀ i, i ≤ m → (F i).length ≤ i)
    (hs : ∀ D i, i < m → WG H0 g (.int (lo + (i : Int))) (wipe σ vs) ⟨(D, .lst (F i)) :: s.L, s.T⟩ fun σ2 s2 => wipe σ2 vs = wipe σ vs ∧ WT H0 tt σ2 s2 fun b s3 =>
      (b = true → WE H0 te σ2 s3 fun y s4 => Sub ⟨(D, .lst (F i)) :: s.L, s.T⟩ s4 ∧ F (i + 1) = F i ++ [y]) ∧ (b = false → Sub ⟨(D, .lst (F i)) :: s.L, s.T⟩ s3 ∧ F (i + 1) = F i)) (hq : ∀ D, H0 D = none → Q (.ref D) ⟨(D, .lst (F m)) :: s.L, s.T⟩) : CompOk H0 (Itr lo m) g tt te σ vs s Q :=
  cp_core walk_range hn F hF0 hFl (fun D x H o => trivial) (fun D i x H H' hi o ⟨e, ex⟩ => ⟨⟨(D, .lst (F i)) :: s.L, s.T⟩, by rw [e]; exact o, by rw [ex]; exact hs D i hi⟩) hq
end
end BM
namespace BM
open PySem L2 Evl PyProof.Rows
/-! ### enumerate(text) -/
def IteT (x : Str) : It := ⟨fun i _ => i < x.cps.size, fun i H v H' => ∃ T c, v = .ref T ∧ H T = none ∧ H' = upd H T (.tup [.int (i : Nat), .str ⟨#[c]⟩]) ∧ x.cps[i]? = some c, fun i _ => x.cps.size ≤ i⟩
theorem turn_enumT {P : Program} {w : World} {K : PySem.W.Frag} {elts : List Expr} {kk : Nat} {tpos : Pos} (e it : Addr) (x : Str) (t : Tok) (ty : String) (hty : ty = "str_ascii_iterator" ∨ ty = "str_iterator") :
    Turn P w K (.Tuple elts kk tpos) (IteT x) [e, it] e (fun i h => (∃ old, IsEnum h e it ((i : Nat) : Int) old) ∧ (h.IsStrIter it ty x t i ∧ i ≤ x.cps.size) ∧ e ≠ it) where
  mem := by simp
  obj := fun i h st b hb => by
    obtain ⟨⟨old, he⟩, ⟨⟨o, ho, hc, hd⟩, _⟩, _⟩ := st
    have e' : b = e ∨ b = it := by simpa using hb
    rcases e' with z | z
    · rw [z]; exact ⟨_, he, fun v q => nomatch q⟩
    · rw [z]; exact ⟨o, ho, fun v q => by rw [hd] at q; cases q⟩
  keep := fun i h h' st k => let ⟨⟨old, he⟩, ⟨⟨o, ho, r⟩, hl⟩, hne⟩ := st; ⟨⟨old, k e (by simp) _ he⟩, ⟨⟨o, k it (by simp) _ ho, r⟩, hl⟩, hne⟩
  item := by
    intro X hP hw hK hc i pins s σ H E I hf st hg
    subst hP hw hK
    obtain ⟨⟨old, he⟩, ⟨hit, hle⟩, hne⟩ := st
    have hh : X.A.in1.handled = none := I.ok.hd hc
    have D : Draws X.prog X.w X.A.in1 it [it] x.cps.size (fun i v => ∃ c u, x.cps[i]? = some c ∧ v = .str ⟨#[c]⟩ u) (fun i h => h.IsStrIter it ty x t i) := by
      rcases hty with e | e
      · rw [e]; exact Draws.strAscii hh it x t
      · rw [e]; exact Draws.strWide hh it x t
    have hel : e < s.heap.objs.size := Heap.lt_size he
    have hil : it < s.heap.objs.size := by obtain ⟨_, q, _⟩ := hit; exact Heap.lt_size q
    refine wpAny_pyNext_enum_itemD D he hit hg hne (by simpa using hne) fun u h' tk hP ho hit' hT hsz hk => ?_
    obtain ⟨c, tc, hcx, rfl⟩ := hP
    refine ⟨_, rfl, wpAny_letOwnedTupleGo_enum (s := { s with heap := h', toks := tk + 1 }) ho fun h'' he' sb => ?_⟩
    have hT2 : h''.get? s.heap.objs.size = some { cls := .type "tuple", data := .seq #[.int i tk, .str ⟨#[c]⟩ tc] } := (sb.2 _ (Nat.ne_of_gt hel)).trans hT
    have new : ObjOk X.prog X.w (upd H s.heap.objs.size (.tup [.int (i : Nat), .str ⟨#[c]⟩])) h'' s.heap.objs.size (.tup [.int (i : Nat), .str ⟨#[c]⟩]) :=
      ⟨by show 2 ≤ sizeLine; decide, [.int i tk, .str ⟨#[c]⟩ tc], .cons ⟨_, rfl⟩ (.cons ⟨_, rfl⟩ .nil), ⟨_, hT2, rfl, _, rfl⟩⟩
    have I1 : Inv X pins σ (upd H s.heap.objs.size (.tup [.int (i : Nat), .str ⟨#[c]⟩])) { s with heap := h'', toks := tk + 1 } :=
      I.turnedNew (ch := [e, it]) (fun b ob hb q => (sb.2 b (fun z => hb (by simp [z]))).trans (hk b ob (fun z => hb (by simp [z])) (fun z => hb (by simp [z])) q)) hf (Nat.le_refl _) new
    have hit2 : h''.IsStrIter it ty x t (i + 1) := by
      obtain ⟨o, ho, r⟩ := hit'
      exact ⟨o, (sb.2 it (Ne.symm hne)).trans ho, r⟩
    refine ⟨.ref s.heap.objs.size, _, I1, rfl, ⟨_, c, rfl, I.hok.fresh (Nat.le_refl _), rfl, hcx⟩, ⟨⟨.str ⟨#[c]⟩ tc, ?_⟩, ⟨hit2, hg⟩, hne⟩, fun b hb => ?_⟩
    · have e1 : ((i + 1 : Nat) : Int) = (i : Int) + 1 := by omega
      rw [e1]; exact he'
    · have hb' : b < s.heap.objs.size := by
        have e' : b = e ∨ b = it := by simpa using hb
        rcases e' with z | z
        · rw [z]; exact hel
        · rw [z]; exact hil
      rw [upd_ne (Nat.ne_of_lt hb')]
      exact (hf b hb).1
  done := by
    intro X hP hw hK hc i pins s σ H E I hf st hg
    subst hP hw hK
    obtain ⟨⟨old, he⟩, ⟨hit, hle⟩, hne⟩ := st
    have hh : X.A.in1.handled = none := I.ok.hd hc
    have D : Draws X.prog X.w X.A.in1 it [it] x.cps.size (fun i v => ∃ c u, x.cps[i]? = some c ∧ v = .str ⟨#[c]⟩ u) (fun i h => h.IsStrIter it ty x t i) := by
      rcases hty with e | e
      · rw [e]; exact Draws.strAscii hh it x t
      · rw [e]; exact Draws.strWide hh it x t
    obtain ⟨f0, f1, f2, f3, f4, f5⟩ := hf it (by simp)
    have ei : i = x.cps.size := Nat.le_antisymm hle hg
    subst ei
    exact wpAny_pyNext_enum_endD D he hit fun h' eb => ⟨rfl, I.turned (t' := s.toks) (fun b o hb q => eb b o hb q) f0 f1 f3 f4 f5⟩
  self := fun A i s Q E st h => let ⟨⟨_, he⟩, _⟩ := st; wpAny_pyIter_enum he h
def iEnumT (ta : TA) : TI := fun σ H R => ta σ H fun vs H1 => ∃ r : List Bool, vs = [.str (T r)] ∧ R (IteT (T r)) H1
theorem pi_enumT {X : Cx} {e : Expr} {ta : TA} {p pos tpos : Pos} {elts : List Expr} {kk : Nat} (hg : Gl X "enumerate") (hm : X.mg "enumerate" = none) (ha : PA X [e] ta) (hs : starEach [e] X.env = [(false, eval e X.env)] := by rfl) :
    PI X (.Tuple elts kk tpos) (.Call (.Name "enumerate" p) [e] [] pos) (iEnumT ta) := by
  refine ⟨fun pins s σ H R I h => ?_⟩
  refine Call_ (ld_blt I hg hm boot_enumerate (PyProof.Rows.callWith_type1 (thn (ha.run pos pins s σ H _ I h) fun us s1 ⟨vs, H1, I1, r1, q1⟩ => ?_) hs rfl))
  obtain ⟨r, ex, q⟩ := q1
  subst ex
  cases r1 with
  | cons r0 rr =>
    cases rr
    obtain ⟨t, rfl⟩ := r0
    refine call_enumerate_str fun h' he hit hsz hk => wpAny_pyIter_enum he ?_
    have I2 : Inv X pins σ H1 { s1 with heap := h' } := I1.kept (t' := s1.toks) hk
    have hty : strIterType (T r) = "str_ascii_iterator" ∨ strIterType (T r) = "str_iterator" := by
      unfold strIterType
      split
      · exact .inl rfl
      · exact .inr rfl
    refine ⟨s1.heap.objs.size + 1, [s1.heap.objs.size + 1, s1.heap.objs.size], _, _, H1, rfl, I2, turn_enumT (s1.heap.objs.size + 1) s1.heap.objs.size (T r) t _ hty, ⟨⟨.none, he⟩, ⟨hit, Nat.zero_le _⟩, Nat.succ_ne_self _⟩, fun b hb => ?_, q⟩
    have e' : b = s1.heap.objs.size + 1 ∨ b = s1.heap.objs.size := by simpa using hb
    have hle : s1.heap.objs.size ≤ b := by
      rcases e' with z | z
      · rw [z]; exact Nat.le_add_right _ _
      · rw [z]; exact Nat.le_refl _
    exact I1.fpOk hle (I1.hok.fresh hle)
/-! ### a < b < c < d -/
def tChain3 (r1 r2 r3 : R2) (ta tb tc td : TE) : TE := fun σ H Q => ta σ H fun x H1 => tb σ H1 fun y H2 => r1 x y H2 fun z H3 => ∃ k, z = .bl k ∧
  (if k = true then tc σ H3 fun w' H4 => r2 y w' H4 fun z2 H5 => ∃ k2, z2 = .bl k2 ∧ (if k2 = true then td σ H5 fun w2 H6 => r3 w' w2 H6 Q else Q (.bl false) H5) else Q (.bl false) H3)
/-! ### text[::-1] -/
def tRevT (te : TE) : TE := fun σ H Q => te σ H fun x H1 => ∃ r : List Bool, x = .str (T r) ∧ r.length ≤ 100000 ∧ Q (.str (T r.reverse)) H1
/-! ### list(text) -/
/-! ### xs.count(y) -/
def aCount (K : PySem.W.Frag) : V → List V → Hp → VK → Prop := fun x xs H Q => ∃ (p : Addr) (ys : List V) (y : V), x = .ref p ∧ xs = [y] ∧ SqL K H p ys ∧ flatV y = true ∧ ys.all flatV = true ∧ Q (.int ((ys.countP fun z => eqV z y : Nat) : Int)) H
theorem count_eqU {x : V} : ∀ {xs : List V} {us : List Value}, Vals xs us → xs.all flatV = true → us.countP (eqU x) = xs.countP fun y => eqV y x
  | _, _, .nil, _ => rfl
  | y :: xs, u :: us, .cons r t, f => by
    rw [List.all_cons, Bool.and_eq_true] at f
    rw [List.countP_cons, List.countP_cons, eqU_of r f.1, count_eqU t f.2]
theorem m_count {X : Cx} : MtR X "list.count" (aCount X.K) := by
  intro pins s σ H x xs v us Q I rx rxs h
  obtain ⟨p, ys, y, rfl, rfl, hs, fy, fa, q⟩ := h
  cases rx
  obtain ⟨u, rfl, ru⟩ := rxs.one
  obtain ⟨its, rv, ⟨⟨cls, dd, data, sl⟩, n, ho, hc, hdn, hd⟩, hlen⟩ := I.list hs
  simp only at hc hd
  subst hc hd
  refine call_meets PySem.F.slot_list_count ⟨_, ho, rfl⟩ PySem.F.entry_list_count (PySem.F.args_list_count_2 _ _)
    (SeqAt.list_countAt p its.toArray n dd sl u (eqU y)) ⟨ho, fun z hz => mem_eqAt ru fy rv fa z (by simpa using hz), ?_⟩
  refine ⟨.int ((ys.countP fun z => eqV z y : Nat) : Int), H, I.tok _, ⟨s.toks, ?_⟩, q⟩
  show Value.int ((its.toArray.toList.countP (eqU y) : Nat) : Int) s.toks = _
  rw [show its.toArray.toList = its from rfl, count_eqU rv fa]
/-! ### == of data -/
def DpL (K : PySem.W.Frag) (H0 : Hp) (s : Ld) (v : V) (d : PyData) : Prop := ∀ H, Own H0 H s → Dp K H v d
theorem dpAll_map {K : PySem.W.Frag} {H : Hp} {α : Type} {f : α → V} {g : α → PyData} (h : ∀ a, Dp K H (f a) (g a)) : ∀ xs : List α, DpAll K H (xs.map f) (xs.map g)
  | [] => .nil
  | a :: xs => .cons (h a) (dpAll_map h xs)
theorem eqvAll_map {α : Type} [DecidableEq α] {g : α → PyData} (h : ∀ a b, PyData.eqv (g a) (g b) = decide (a = b)) : ∀ xs ys : List α, PyData.eqvAll (xs.map g) (ys.map g) = decide (xs = ys)
  | [], [] => by simp [PyData.eqvAll]
  | [], y :: ys => by simp [PyData.eqvAll]
  | x :: xs, [] => by simp [PyData.eqvAll]
  | x :: xs, y :: ys => by
    simp only [List.map_cons, PyData.eqvAll, h, eqvAll_map h xs ys, List.cons.injEq]
    by_cases e : x = y <;> simp [e]
theorem eqv_intD (a b : Int) : PyData.eqv (.int a) (.int b) = decide (a = b) := by
  simp only [PyData.eqv]
  by_cases e : a = b
  · subst e; simp
  · simp [e]
theorem eqv_rowD (a b : List Bool) : PyData.eqv (.str (T a)) (.str (T b)) = decide (a = b) := by
  simp only [PyData.eqv]
  by_cases e : a = b
  · subst e; simp
  · have : ¬ T a = T b := fun h => e (T_inj h)
    simp [e, this]
def pairD (p : Int × Int) : PyData := .tuple [.int p.1, .int p.2]
theorem eqv_pairD (a b : Int × Int) : PyData.eqv (pairD a) (pairD b) = decide (a = b) := by
  obtain ⟨a1, a2⟩ := a
  obtain ⟨b1, b2⟩ := b
  simp only [pairD, PyData.eqv, PyData.eqvAll, Prod.mk.injEq]
  by_cases e1 : a1 = b1 <;> by_cases e2 : a2 = b2 <;> simp [e1, e2]
theorem all_canLay {α : Type} {g : α → PyData} (h : ∀ a, (g a).canLay0 = true) : ∀ xs : List α, PyData.canLayAll0 (xs.map g) = true
  | [] => rfl
  | a :: xs => by simp [PyData.canLayAll0, h a, all_canLay h xs]
theorem all_depth {α : Type} {g : α → PyData} {k : Nat} (h : ∀ a, (g a).depth ≤ k) : ∀ xs : List α, PyData.depthAll (xs.map g) ≤ k
  | [] => by simp [PyData.depthAll]
  | a :: xs => by
    have := h a
    have := all_depth h xs
    simp only [List.map_cons, PyData.depthAll]
    omega
theorem shaped_map {α : Type} {g : α → PyData} {k : Nat} (h : ∀ a, (g a).canLay0 = true) (hd : ∀ a, (g a).depth ≤ k) (hk : k ≤ 60) (xs : List α) : SeqAt.shaped (.list (xs.map g)) = true := by
  unfold SeqAt.shaped
  have h1 : PyData.canLay0 (.list (xs.map g)) = true := by
    simp only [PyData.canLay0]
    exact all_canLay h xs
  have h2 := all_depth hd xs
  have h3 : PyData.depth (.list (xs.map g)) ≤ 64 := by
    simp only [PyData.depth]
    omega
  simp [h1, h3]
section
variable {K : PySem.W.Frag} {H0 : Hp} {s : Ld} {Q : V → Ld → Prop} {x y : V}
theorem w2_neD {d e : PyData} {b : Bool} (h1 : DpL K H0 s x d) (h2 : DpL K H0 s y e) (s1 : SeqAt.shaped d = true) (s2 : SeqAt.shaped e = true) (hb : PyData.eqv d e = b) (q : Q (.bl (!b)) s) : W2 H0 (rNeD K) x y s Q := fun H o R k => ⟨d, e, h1 H o, h2 H o, s1, s2, k _ H s o (by rw [hb]; exact q)⟩
/-- a list of pairs -/
def PairsIn (K : PySem.W.Frag) (H : Hp) (xs : List V) (ps : List (Int × Int)) : Prop := Paired (fun x (p : Int × Int) => ∃ t, x = V.ref t ∧ SqT K H t [.int p.1, .int p.2]) xs ps
theorem PairsIn.mono {H H' : Hp} {xs : List V} {ps : List (Int × Int)} (h : PairsIn K H xs ps) (e : Ex H H') : PairsIn K H' xs ps := Paired.mapP h fun a b ⟨t, h1, h2⟩ => ⟨t, h1, ex_t e h2⟩
theorem dp_pairs {H : Hp} {a : Addr} {xs : List V} {ps : List (Int × Int)} (h : SqL K H a xs) (hp : PairsIn K H xs ps) : Dp K H (.ref a) (.list (ps.map pairD)) := by
  refine .lst h ?_
  clear h
  induction hp with
  | nil => exact .nil
  | cons r t ih =>
    obtain ⟨t, rfl, ht⟩ := r
    exact .cons (.tup ht (.cons (.int _) (.cons (.int _) .nil))) ih
variable {a b : Addr}
theorem dl_ints {ns : List Int} (h : IsL K H0 s a (ns.map V.int)) : DpL K H0 s (.ref a) (.list (ns.map PyData.int)) := fun H o => .lst (h H o) (dpAll_map (fun i => .int i) ns)
theorem dl_rows {rs : List (List Bool)} (h : IsL K H0 s a (rs.map fun r => .str (T r))) : DpL K H0 s (.ref a) (.list (rs.map fun r => PyData.str (T r))) := fun H o => .lst (h H o) (dpAll_map (fun r => .str (T r)) rs)
theorem strOk_T (r : List Bool) : (PyData.str (T r)).canLay0 = true := by
  show PyData.strOk (T r) = true
  unfold PyData.strOk
  rw [← Array.all_toList, T_list, List.all_map, List.all_eq_true]
  intro b _
  cases b <;> rfl
theorem w2_neLI {ns ms : List Int} (h1 : IsL K H0 s a (ns.map V.int)) (h2 : IsL K H0 s b (ms.map V.int)) (q : Q (.bl (!decide (ns = ms))) s) : W2 H0 (rNeD K) (.ref a) (.ref b) s Q :=
  w2_neD (dl_ints h1) (dl_ints h2) (shaped_map (k := 10) (fun _ => rfl) (fun _ => by simp [PyData.depth]) (by decide) _) (shaped_map (k := 10) (fun _ => rfl) (fun _ => by simp [PyData.depth]) (by decide) _) (by simp only [PyData.eqv]; exact eqvAll_map eqv_intD ns ms) q
theorem w2_neLR {ns ms : List (List Bool)} (h1 : IsL K H0 s a (ns.map fun r => .str (T r))) (h2 : IsL K H0 s b (ms.map fun r => .str (T r))) (q : Q (.bl (!decide (ns = ms))) s) : W2 H0 (rNeD K) (.ref a) (.ref b) s Q :=
  w2_neD (dl_rows h1) (dl_rows h2) (shaped_map (k := 10) (fun r => strOk_T r) (fun _ => by simp [PyData.depth]) (by decide) _) (shaped_map (k := 10) (fun r => strOk_T r) (fun _ => by simp [PyData.depth]) (by decide) _) (by simp only [PyData.eqv]; exact eqvAll_map eqv_rowD ns ms) q
theorem w2_neLP {ns ms : List (Int × Int)} {xs ys : List V} (h1 : IsL K H0 s a xs) (p1 : ∀ H, Own H0 H s → PairsIn K H xs ns) (h2 : IsL K H0 s b ys) (p2 : ∀ H, Own H0 H s → PairsIn K H ys ms) (q : Q (.bl (!decide (ns = ms))) s) : W2 H0 (rNeD K) (.ref a) (.ref b) s Q :=
  w2_neD (fun H o => dp_pairs (h1 H o) (p1 H o)) (fun H o => dp_pairs (h2 H o) (p2 H o)) (shaped_map (k := 10) (fun r => rfl) (fun _ => by simp [pairD, PyData.depth, PyData.depthAll]) (by decide) _) (shaped_map (k := 10) (fun r => rfl) (fun _ => by simp [pairD, PyData.depth, PyData.depthAll]) (by decide) _) (by simp only [PyData.eqv]; exact eqvAll_map eqv_pairD ns ms) q
end
section
variable {K : PySem.W.Frag} {H0 : Hp} {σ : L2.St} {s : Ld} {ta tb te tl tc td : TE} {t u : TT} {tr : TA} {x y z v : V} {r : R2} {Q : V → Ld → Prop} {D : Dl} {t1 t2 : TS} {g : TG} {i j : Int}
theorem we_chain3 {r1 r2 r3 : R2} (h : WE H0 ta σ s fun x s1 => WE H0 tb σ s1 fun y s2 => W2 H0 r1 x y s2 fun z s3 => ∃ c, z = .bl c ∧ (c = true → WE H0 tc σ s3 fun w s4 => W2 H0 r2 y w s4 fun z2 s5 => ∃ c2, z2 = .bl c2 ∧ (c2 = true → WE H0 td σ s5 fun w2 s6 => W2 H0 r3 w w2 s6 Q) ∧ (c2 = false → Q (.bl false) s5)) ∧ (c = false → Q (.bl false) s3)) : WE H0 (tChain3 r1 r2 r3 ta tb tc td) σ s Q := fun H o R k =>
  h H o _ fun x H1 s1 o1 h1 => h1 H1 o1 _ fun y H2 s2 o2 h2 => h2 H2 o2 _ fun z H3 s3 o3 ⟨c, e, h3, h4⟩ => ⟨c, e, by
    cases c with
    | false => exact k _ H3 s3 o3 (h4 rfl)
    | true => exact h3 rfl H3 o3 _ fun w H4 s4 o4 h5 => h5 H4 o4 _ fun z2 H5 s5 o5 ⟨c2, e2, h6, h7⟩ => ⟨c2, e2, by
        cases c2 with
        | false => exact k _ H5 s5 o5 (h7 rfl)
        | true => exact h6 rfl H5 o5 _ fun w2 H6 s6 o6 h8 => h8 H6 o6 R k⟩⟩
theorem we_revT (h : WE H0 te σ s fun x s1 => ∃ r : List Bool, x = .str (T r) ∧ r.length ≤ 100000 ∧ Q (.str (T r.reverse)) s1) : WE H0 (tRevT te) σ s Q := fun H o R k =>
  h H o _ fun x H1 s1 o1 ⟨r, e, hl, q⟩ => ⟨r, e, hl, k _ H1 s1 o1 q⟩
theorem we_revL (h : WE H0 te σ s fun x s1 => ∃ a xs, x = .ref a ∧ IsL K H0 s1 a xs ∧ ∀ p, H0 p = none → Q (.ref p) ⟨(p, .lst xs.reverse) :: s1.L, s1.T⟩) : WE H0 (tRevL K te) σ s Q := fun H o R k =>
  h H o _ fun x H1 s1 o1 ⟨a, xs, e, hx, q⟩ => ⟨a, xs, e, hx H1 o1, fun p hp => k _ _ _ (o1.new hp) (q p (fresh_back o1.ex hp))⟩
theorem wm_count {p : Addr} {ys : List V} (hx : IsL K H0 s p ys) (h1 : flatV y = true) (h2 : ys.all flatV = true) (q : Q (.int ((ys.countP fun z => eqV z y : Nat) : Int)) s) : WM H0 (aCount K) (.ref p) [y] s Q := fun H o R k => ⟨p, ys, y, rfl, rfl, hx H o, h1, h2, k _ H s o q⟩
theorem wi_enumT {R : It → Ld → Prop} (h : WA H0 tr σ s fun xs s1 => ∃ r : List Bool, xs = [.str (T r)] ∧ R (IteT (T r)) s1) : WI H0 (iEnumT tr) σ s R := fun H o R' k =>
  h H o _ fun x H1 s1 o1 ⟨r, e, q⟩ => ⟨r, e, k _ H1 s1 o1 q⟩
theorem walk_enumT {z : Str} : Walk (IteT z) z.cps.size (fun _ => True) (fun i H v H' => ∃ p c, v = .ref p ∧ H p = none ∧ H' = upd H p (.tup [.int (i : Nat), .str ⟨#[c]⟩]) ∧ z.cps[i]? = some c) :=
  ⟨fun _ _ hi _ => hi, fun _ _ => Nat.le_refl _, fun _ _ _ _ _ _ y => y⟩
theorem lp_enumT {r : List Bool} {n : Nat} (I : Nat → L2.St → Ld → Prop) (hn : r.length = n) (h0 : I 0 σ s)
    (hs : ∀ i b σ s p, i < n → r[i]? = some b → I i σ s → WG H0 g (.ref p) σ ⟨s.L, (p, [.int (i : Int), .str (T [b])]) :: s.T⟩ fun σ2 s2 => WS H0 t1 σ2 s2 (turnD D (I (i + 1)))) (hd : ∀ σ s, I n σ s → D.nx σ s) : LoopOk H0 (IteT (T r)) g t1 σ s D := by
  have e : (T r).cps.size = n := by rw [← hn]; exact T_len r
  subst e
  refine ⟨_, _, _, walk_enumT (z := T r), I, h0, fun i σ s H hi q o => trivial, fun i v σ s H H' hi q o ⟨p, c, ev, hp, e, hc⟩ => ?_, hd⟩
  obtain ⟨b, hb, rfl⟩ := T_at hc
  exact ⟨⟨s.L, (p, [.int (i : Int), .str (T [b])]) :: s.T⟩, by rw [e]; exact o.newT hp, by rw [ev]; exact hs i b σ s p hi hb q⟩
theorem wt_yes {Q : Bool → Ld → Prop} (q : Q true s) : WT H0 tYes σ s Q := fun H o R k => k true H s o q
end
end BM
/-! rows as lists of truths: depths, right, deeds -/
namespace BM
def sg (b : Bool) : Int := if b then 1 else -1
def hgt : List Bool → Int
  | [] => 0
  | b :: r => sg b + hgt r
theorem hgt_app : ∀ r u : List Bool, hgt (r ++ u) = hgt r + hgt u
  | [], u => by simp [hgt]
  | b :: r, u => by simp only [List.cons_append, hgt, hgt_app r u]; omega
def dps (r : List Bool) : List Int := (List.range (r.length + 1)).map fun j => hgt (r.take j)
theorem dps_len (r : List Bool) : (dps r).length = r.length + 1 := by simp [dps]
theorem dps_snoc (r : List Bool) (b : Bool) : dps (r ++ [b]) = dps r ++ [hgt r + sg b] := by
  unfold dps
  rw [List.length_append, List.range_succ, List.map_append]
  congr 1
  · have e : r.length + [b].length = r.length + 1 := rfl
    rw [e]
    apply List.map_congr_left
    intro j hj
    have := List.mem_range.mp hj
    rw [List.take_append_of_le_length (by omega)]
  · simp only [List.length_cons, List.length_nil, List.map_cons, List.map_nil]
    rw [List.take_of_length_le (by simp), hgt_app]
    simp [hgt]
theorem dps_get {r : List Bool} {j : Nat} (h : j ≤ r.length) : (dps r)[j]? = some (hgt (r.take j)) := by
  unfold dps
  rw [List.getElem?_map, List.getElem?_range (by omega)]
  rfl
theorem dps_last (r : List Bool) : (dps r)[r.length]? = some (hgt r) := by rw [dps_get (Nat.le_refl _), List.take_length]
theorem mem_dps {r : List Bool} {z : Int} : z ∈ dps r ↔ ∃ j, j ≤ r.length ∧ z = hgt (r.take j) := by
  unfold dps
  simp only [List.mem_map, List.mem_range]
  constructor
  · rintro ⟨j, h, rfl⟩
    exact ⟨j, by omega, rfl⟩
  · rintro ⟨j, h, rfl⟩
    exact ⟨j, by omega, rfl⟩
theorem take_snoc {α : Type} {l : List α} {i : Nat} {x : α} (h : l[i]? = some x) : l.take (i + 1) = l.take i ++ [x] := by
  rw [List.take_succ, h]
  rfl
/-- right -/
def isR (r : List Bool) : Bool := decide (hgt r = 0) && (dps r).all fun z => decide (0 ≤ z)
theorem isR_iff {r : List Bool} : isR r = true ↔ hgt r = 0 ∧ ∀ j, j ≤ r.length → 0 ≤ hgt (r.take j) := by
  unfold isR
  simp only [Bool.and_eq_true, decide_eq_true_eq, List.all_eq_true]
  constructor
  · rintro ⟨h1, h2⟩
    exact ⟨h1, fun j hj => h2 _ (mem_dps.mpr ⟨j, hj, rfl⟩)⟩
  · rintro ⟨h1, h2⟩
    refine ⟨h1, fun z hz => ?_⟩
    obtain ⟨j, hj, rfl⟩ := mem_dps.mp hz
    exact h2 j hj
def flp (ps : List Int) (r : List Bool) : List Bool := r.mapIdx fun i b => if ((i : Int) ∈ ps) then !b else b
theorem flp_len (ps : List Int) (r : List Bool) : (flp ps r).length = r.length := by simp [flp]
end BM
namespace BM
open PySem L2 Evl
/-- where the classes stand -/
structure CA where
  c_BracketError : Addr
  c_BadRow : Addr
  c_BadPlaces : Addr
  c_BadStretches : Addr
  c_BadNumber : Addr
  c_BadBracket : Addr
  c_NotSo : Addr
  c_TooMany : Addr
  c_Answer : Addr
  c_Uneven : Addr
  c_Odd : Addr
  c_Swapped : Addr
  c_Turned : Addr
  c_Rounded : Addr
  c_Growing : Addr
/-- a value is handed back that is so; all else stays -/
def spP (pre : List V → Hp → Prop) (post : List V → V → Prop) : Sp := fun vs H Q _ => pre vs H ∧ ∀ v H', post vs v → Ex H H' → Q v H'
theorem wc_P {H0 : Hp} {s : Ld} {Q : V → Ld → Prop} {pre : List V → Hp → Prop} {post : List V → V → Prop} {E : XK} {vs : List V} (h : ∀ H, Own H0 H s → pre vs H) (q : ∀ v, post vs v → Q v s) : WC H0 (spP pre post) E vs s Q := fun H o R' k => ⟨h H o, fun v H' p e => k _ _ _ (o.ext e) (q v p)⟩
theorem body_P {H : Hp} {t : TS} {N : List Str} {vs : List V} {Q : VK} {P : V → Prop} (h : WS H t (start N vs) ⟨[], []⟩ { nx := fun _ _ => P .non, rt := fun u _ => P u }) (k : ∀ v H', P v → Ex H H' → Q v H') : t { nx := fun _ H' => Q .non H', rt := Q } (start N vs) H :=
  h H (Own.start H) _ ⟨(fun σ H' s o e => k _ H' e o.ex), (fun u H' s o e => k u H' e o.ex), (fun _ _ _ _ q => q.elim), (fun _ _ _ _ q => q.elim)⟩
/-- raise C(..), nothing told but its class -/
def tRaiseX (cls : Addr) (E : XK) : TS := fun _ σ H => E (.ref cls) none H
theorem ws_raise {H0 : Hp} {σ : L2.St} {s : Ld} {D : Dl} {c : Addr} {E : XK} (h : ∀ H, Own H0 H s → E (.ref c) none H) : WS H0 (tRaiseX c E) σ s D := fun H o D' l => h H o
section
def sp_is_whole (K : PySem.W.Frag) (C : CA) : Sp := fun vs H Q _ => ∃ x t b1 b2, vs = [x] ∧ TyX K H x t ∧ PySem.W.kitOne K t (.type "int") = some b1 ∧ PySem.W.kitOne K t (.type "bool") = some b2 ∧ ∀ H', Ex H H' → Q (.bl (b1 && !b2)) H'
def sp_asked_row (K : PySem.W.Frag) (C : CA) : Sp := spV fun vs H v => ∃ r : List Bool, vs = [.str (T r)] ∧ r.length ≤ 40 ∧ v = .non
def sp_deepens (K : PySem.W.Frag) (C : CA) : Sp := spV fun vs H v => ∃ b : Bool, vs = [.str (T [b])] ∧ v = .int (sg b)
def sp_depths_of (K : PySem.W.Frag) (C : CA) : Sp := spL fun vs H xs => ∃ r : List Bool, vs = [.str (T r)] ∧ r.length ≤ 1000 ∧ xs = (dps r).map V.int
def sp_is_right_row (K : PySem.W.Frag) (C : CA) : Sp := spV fun vs H v => ∃ r : List Bool, vs = [.str (T r)] ∧ r.length ≤ 1000 ∧ v = .bl (isR r)
def sp_flipped (K : PySem.W.Frag) (C : CA) : Sp := spV fun vs H v => ∃ b : Bool, vs = [.str (T [b])] ∧ v = .str (T [!b])
def sp_depths (K : PySem.W.Frag) (C : CA) : Sp := spL fun vs H xs => ∃ r : List Bool, vs = [.str (T r)] ∧ r.length ≤ 40 ∧ xs = (dps r).map V.int
def sp_is_right (K : PySem.W.Frag) (C : CA) : Sp := spV fun vs H v => ∃ r : List Bool, vs = [.str (T r)] ∧ r.length ≤ 40 ∧ v = .bl (isR r)
/-! the law's own -/
def sp__law_number (K : PySem.W.Frag) (C : CA) : Sp := spP (fun vs H => ∃ c a w : Int, vs = [.int c, .int a, .int w] ∧ 0 ≤ a ∧ a ≤ 1000000) fun vs v => ∃ n : Int, v = .int n
def sp__law_row (K : PySem.W.Frag) (C : CA) : Sp := spP (fun vs H => ∃ (a : Addr) (ns : List Int) (k m : Int) (e : Bool), vs = [.ref a, .int k, .int m, .bl e] ∧ SqL K H a (ns.map V.int) ∧ ns.length ≤ 63 ∧ 0 ≤ k ∧ k ≤ 1000 ∧ 0 ≤ m ∧ m ≤ 40)
  fun vs v => ∃ (a : Addr) (k m : Int) (e : Bool) (r : List Bool), vs = [.ref a, .int k, .int m, .bl e] ∧ v = .str (T r) ∧ (r.length : Int) ≤ m ∧ (e = true → hgt r = 0)
def sp__law_depths (K : PySem.W.Frag) (C : CA) : Sp := spL fun vs H xs => ∃ r : List Bool, vs = [.str (T r)] ∧ r.length ≤ 1000 ∧ xs = (dps r).map V.int
def sp__law_good (K : PySem.W.Frag) (C : CA) : Sp := spV fun vs H v => ∃ r : List Bool, vs = [.str (T r)] ∧ r.length ≤ 1000 ∧ v = .bl (isR r)
end
end BM
namespace BM
open PySem L2 Evl PyProof.Rows
def N_is_whole : List Str := ["thing"]
def rd_is_whole (K : PySem.W.Frag) (C_ : CA) : TS :=
    (tRet (tAndV (tCB (aIsi K "int") (tCons (tVar 0) (tCons (tC (.ty "int")) tNil))) (tNotV (tCB (aIsi K "bool") (tCons (tVar 0) (tCons (tC (.ty "bool")) tNil))))))
def N_asked_row : List Str := ["row", "one"]
def rd_asked_row (K : PySem.W.Frag) (C_ : CA) : TS :=
    (tIfS (tOr (tNot (tB (tCB (aIsi K "str") (tCons (tVar 0) (tCons (tC (.ty "str")) tNil))))) (tOr (tTest (tOp aGt (tCB aLenT (tCons (tVar 0) tNil)) (tC (.int 40)))) (tNot (tB (tCB (aAll K) (tCons (tLc (iStr (tVar 0)) (gName 1) tYes (tOp aInT (tVar 1) (tC (.str (T [true, false])))) [1]) tNil)))))) tNever tNext)
def N_deepens : List Str := ["bracket"]
def rd_deepens (K : PySem.W.Frag) (C_ : CA) : TS :=
    (tRet (tIf (tTest (tOp rEq (tVar 0) (tC (.str (T [true]))))) (tC (.int 1)) (tUn aNeg (tC (.int 1)))))
def N_depths_of : List Str := ["row", "found", "bracket"]
def rd_depths_of (K : PySem.W.Frag) (C_ : CA) : TS :=
    (tSeq (tAsg (tLst (tCons (tC (.int 0)) tNil)) (gName 1))
    (tSeq (tFor (iStr (tVar 0)) (gName 2) (tDrop (tBM K "list" rAppend (tVar 1) (tCons (tOp aAdd (tOp (rIxL K) (tVar 1) (tUn aNeg (tC (.int 1)))) (tCall (sp_deepens K C_) [] E0 (tCons (tVar 2) tNil))) tNil))))
    (tRet (tVar 1))))
def N__law_number : List Str := ["_law_cell", "_law_at", "_law_whole", "_law_small", "_law_blend", "_law_more"]
def rd__law_number (K : PySem.W.Frag) (C_ : CA) : TS :=
    (tSeq (tIfS (tTest (tOp aGe (tVar 0) (tOp aPow (tC (.int 10)) (tC (.int 18))))) (tRet (tOp aDiv (tVar 0) (tOp aAdd (tC (.int 1)) (tOp aMod (tVar 1) (tC (.int 7)))))) tNext)
    (tSeq (tAsg (tOp aMod (tVar 0) (tOp aPow (tC (.int 10)) (tC (.int 18)))) (gName 3))
    (tSeq (tAsg (tOp aMod (tOp aAdd (tOp aMul (tOp aAdd (tVar 3) (tOp aMul (tC (.int 977)) (tVar 1))) (tC (.int 48271))) (tVar 2)) (tC (.int 2147483647))) (gName 4))
    (tSeq (tAsg (tOp aMul (tVar 4) (tOp aAdd (tOp aAdd (tVar 3) (tOp aMul (tC (.int 31)) (tVar 1))) (tC (.int 7)))) (gName 5))
    (tRet (tOp aDiv (tOp aMul (tOp aMul (tVar 5) (tOp aAdd (tOp aAdd (tVar 4) (tVar 3)) (tC (.int 5)))) (tOp aAdd (tOp aMul (tVar 4) (tVar 4)) (tC (.int 11)))) (tOp aAdd (tC (.int 1009)) (tVar 1))))))))
def N__law_row : List Str := ["_law_script", "_law_by", "_law_most", "_law_even", "_law_cells", "_law_wide", "_law_at", "_law_found", "_law_more", "_law_whole", "_law_spot", "_law_cell", "_law_number_here", "_law_mixed", "_law_kinds"]
def rd__law_row (K : PySem.W.Frag) (C_ : CA) : TS :=
    (tSeq (tAsg (tIf (tTest (tOp (rNeD K) (tVar 0) (tLst tNil))) (tSl (rSlL K) (tVar 0) tNoPart (tPart (tC (.int 63)))) (tLst (tCons (tC (.int 5)) tNil))) (gName 4))
    (tSeq (tPar 9 7 (tCons (tOp aAdd (tCB aAbs (tCons (tCB (rSum K) (tCons (tVar 4) tNil)) tNil)) (tOp aMul (tC (.int 7)) (tVar 1))) (tCons (tLst tNil) tNil)))
    (tSeq (tAsg (tOp aAdd (tC (.int 1)) (tOp aMod (tOp aDiv (tVar 9) (tC (.int 5))) (tC (.int 6)))) (gName 5))
    (tSeq (tFor (iRng1 (tCons (tOp aMod (tOp aDiv (tVar 9) (tC (.int 30))) (tOp aAdd (tVar 2) (tC (.int 1)))) tNil)) (gName 6) (tSeq (tAsg (tOp aDiv (tVar 6) (tVar 5)) (gName 10))
    (tSeq (tAsg (tOp aAdd (tOp (rIxL K) (tVar 4) (tOp aMod (tOp aAdd (tVar 10) (tVar 1)) (tCB (aLenL K) (tCons (tVar 4) tNil)))) (tOp aDiv (tVar 10) (tCB (aLenL K) (tCons (tVar 4) tNil)))) (gName 11))
    (tSeq (tAsg (tOp aDiv (tCB aAbs (tCons (tCall (sp__law_number K C_) [] E0 (tCons (tVar 11) (tCons (tOp aAdd (tVar 10) (tVar 1)) (tCons (tVar 9) tNil)))) tNil)) (tC (.int 3))) (gName 12))
    (tSeq (tAsg (tCB aIntB (tCons (tOrV (tOp aGt (tOp aMod (tVar 12) (tC (.int 3))) (tC (.int 0))) (tOp rEq (tOp aMod (tVar 6) (tC (.int 2))) (tC (.int 0)))) tNil)) (gName 13))
    (tSeq (tAsg (tTup (tCons (tOp aMod (tVar 12) (tC (.int 2))) (tCons (tOp aMod (tVar 6) (tC (.int 2))) (tCons (tOp aSub (tC (.int 1)) (tOp aMod (tVar 6) (tC (.int 2)))) (tCons (tVar 13) (tCons (tCB aIntB (tCons (tOp rEq (tOp aMod (tVar 10) (tC (.int 2))) (tC (.int 0))) tNil)) tNil)))))) (gName 14))
    (tDrop (tBM K "list" rAppend (tVar 7) (tCons (tOp aIxT (tC (.str (T [true, false]))) (tOp (rIxT K) (tVar 14) (tOp aMod (tVar 9) (tC (.int 5))))) tNil)))))))))
    (tSeq (tAsg (tIf (tB (tVar 3)) (tSl (rSlL K) (tVar 7) tNoPart (tPart (tOp aMul (tOp aDiv (tCB (aLenL K) (tCons (tVar 7) tNil)) (tC (.int 2))) (tC (.int 2))))) (tVar 7)) (gName 7))
    (tSeq (tAsg (tOp aSub (tBM K "list" (aCount K) (tVar 7) (tCons (tC (.str (T [true]))) tNil)) (tBM K "list" (aCount K) (tVar 7) (tCons (tC (.str (T [false]))) tNil))) (gName 8))
    (tSeq (tFor (iRng1 (tCons (tCB (aLenL K) (tCons (tVar 7) tNil)) tNil)) (gName 6) (tSeq (tAsg (tOp aMod (tOp aAdd (tVar 6) (tVar 9)) (tCB (aLenL K) (tCons (tVar 7) tNil))) (gName 10))
    (tIfS (tAnd (tB (tVar 3)) (tAnd (tTest (tOp rNe (tVar 8) (tC (.int 0)))) (tTest (tOp rEq (tOp (rIxL K) (tVar 7) (tVar 10)) (tOp aIxT (tC (.str (T [true, false]))) (tCB aIntB (tCons (tOp aLt (tVar 8) (tC (.int 0))) tNil))))))) (tSeq (tAsg (tOp aIxT (tC (.str (T [true, false]))) (tCB aIntB (tCons (tOp aGt (tVar 8) (tC (.int 0))) tNil))) (gSub (tVar 7) (tVar 10) rSetL))
    (tAsg (tIf (tTest (tOp aGt (tVar 8) (tC (.int 0)))) (tOp aSub (tVar 8) (tC (.int 2))) (tOp aAdd (tVar 8) (tC (.int 2)))) (gName 8))) tNext)))
    (tRet (tBM K "str" (aJoin K) (tC (.str (T []))) (tCons (tVar 7) tNil))))))))))
def N__law_good : List Str := ["_law_row_here", "_law_stack", "_law_bracket"]
def rd__law_good (K : PySem.W.Frag) (C_ : CA) : TS :=
    (tSeq (tAsg (tC (.int 0)) (gName 1))
    (tSeq (tFor (iStr (tVar 0)) (gName 2) (tSeq (tAsg (tIf (tTest (tOp rEq (tVar 2) (tC (.str (T [true]))))) (tOp aAdd (tVar 1) (tC (.int 1))) (tOp aSub (tVar 1) (tC (.int 1)))) (gName 1))
    (tIfS (tTest (tOp aLt (tVar 1) (tC (.int 0)))) (tRet (tC (.bl false))) tNext)))
    (tRet (tOp rEq (tVar 1) (tC (.int 0))))))
end BM
namespace BM
open PySem L2 Evl
local macro_rules | `(tactic| walk_at "mem") => `(tactic| first | exact List.mem_cons_self | (refine List.mem_cons_of_mem _ ?_; walk_at "mem"))
local macro_rules | `(tactic| walk_at "swap") => `(tactic| first | exact Swap.here | (refine Swap.there ?_; walk_at "swap"))
local macro_rules | `(tactic| walk_at "subl") => `(tactic| first | exact List.Sublist.refl _ | exact List.nil_sublist _ | (refine List.Sublist.cons_cons _ ?_; walk_at "subl") | (refine List.Sublist.cons _ ?_; walk_at "subl"))
local macro_rules | `(tactic| walk_at "sub") => `(tactic| first | exact Sub.refl _ | (refine ⟨?_, ?_⟩ <;> walk_at "subl"))
local macro_rules | `(tactic| walk_at "isl") => `(tactic| first | exact isL_own (by walk_at "mem") | exact isL_old (by assumption) | assumption)
local macro_rules | `(tactic| walk_at "ist") => `(tactic| first | exact isT_own (by walk_at "mem") | exact isT_old (by assumption) | assumption)
local macro_rules | `(tactic| walk_at "len") => `(tactic| first | omega | decide | (simp only [List.length_map, List.length_take, List.length_drop, List.length_append, List.length_cons, List.length_nil, List.length_reverse, dps_len, flp_len]; omega) | (simp [dps_len, flp_len]; omega) | simp)
local macro_rules | `(tactic| walk_at "b0") => `(tactic| first
  | with_reducible refine' ws_set ?_
  | with_reducible refine' ws_par ?_
  | with_reducible refine' ws_asg ?_
  | with_reducible refine' ws_drop ?_
  | with_reducible refine' ws_ret ?_
  | with_reducible refine' ws_if ?_
  | with_reducible refine' ws_next ?_
  | with_reducible refine' ws_brk ?_
  | with_reducible refine' ws_cont ?_
  | ((with_reducible refine' we_var ?hv ?_); case hv => rfl)
  | with_reducible refine' we_c ?_
  | with_reducible refine' we_op ?_
  | with_reducible refine' we_un ?_
  | with_reducible refine' we_if ?_
  | with_reducible refine' we_and ?_
  | with_reducible refine' we_or ?_
  | with_reducible refine' we_not ?_
  | with_reducible refine' wa_nil ?_
  | with_reducible refine' wa_cons ?_
  | (with_reducible refine' we_lst ?_)
  | (with_reducible refine' we_tup ?_)
  | with_reducible refine' we_cb ?_
  | with_reducible refine' we_call0 ?_
  | with_reducible refine' we_sl ?_
  | with_reducible refine' wo_none ?_
  | (with_reducible refine' wo_some ?_)
  | with_reducible refine' wt_test ?_
  | with_reducible refine' wt_B ?_
  | with_reducible refine' wt_and ?_
  | with_reducible refine' wt_or ?_
  | with_reducible refine' wt_not ?_
  | with_reducible refine' wt_yes ?_
  | with_reducible refine' we_chain ?_
  | with_reducible refine' we_chain3 ?_
  | with_reducible refine' we_revT ?_
  | with_reducible refine' we_revL ?_
  | with_reducible refine' we_bm ?_
  | with_reducible refine' we_bm0 ?_
  | with_reducible refine' ws_for ?_
  | with_reducible refine' we_lc ?_
  | with_reducible refine' wi_list ?_
  | with_reducible refine' wi_tup ?_
  | with_reducible refine' wi_T ?_
  | with_reducible refine' wi_rng1 ?_
  | with_reducible refine' wi_rng2 ?_
  | with_reducible refine' wi_rng3 ?_
  | with_reducible refine' wi_enum ?_
  | with_reducible refine' wi_enumT ?_
  | with_reducible refine' wi_zip ?_
  | with_reducible refine' wg_name ?_
  | with_reducible refine' wg_sub ?_
  | with_reducible refine' wgs_nil ?_
  | with_reducible refine' wgs_cons ?_
  | ((with_reducible refine' wg_tup ?ht ?hn ?_); (case ht => walk_at "ist"); (case hn => rfl))
  | with_reducible refine' w2_add ?_
  | with_reducible refine' w2_sub ?_
  | with_reducible refine' w2_lt ?_
  | with_reducible refine' w2_le ?_
  | with_reducible refine' w2_gt ?_
  | with_reducible refine' w2_ge ?_
  | with_reducible refine' w2_eqI ?_
  | with_reducible refine' w2_neI ?_
  | with_reducible refine' w2_eqT ?_
  | with_reducible refine' w2_neT ?_
  | with_reducible refine' w2_eqB ?_
  | with_reducible refine' w2_neB ?_
  | with_reducible refine' w2_isN ?_
  | with_reducible refine' w2_notN ?_
  | with_reducible refine' w2_isB ?_
  | with_reducible refine' w2_inT ?_
  | with_reducible refine' w1_neg ?_
  | with_reducible refine' wl_abs ?_
  | with_reducible refine' wl_max2 ?_
  | with_reducible refine' wl_min2 ?_
  | with_reducible refine' wl_intB ?_
  | ((with_reducible refine' w2_div ?h ?_); case h => first | omega | (constructor <;> omega))
  | ((with_reducible refine' w2_mod ?h ?_); case h => omega)
  | ((with_reducible refine' w2_catT ?h ?_); case h => walk_at "len")
  | ((with_reducible refine' wsl_T ?h ?_); case h => walk_at "len")
  | ((with_reducible refine' wl_lenT ?h ?_); case h => walk_at "len")
  | ((with_reducible refine' wl_len ?h ?_); case h => walk_at "isl")
  | ((with_reducible refine' wl_len ?h ?_); case h => walk_at "isl")
  | ((with_reducible refine' wm_append ?sw ?hl ?_); (case sw => walk_at "swap"); (case hl => walk_at "len")))
local macro_rules | `(tactic| walk_at "b1") => `(tactic| first | with_reducible refine' ws_seq ?_ | walk_at "b0")
local macro_rules | `(tactic| walk_at "bx") => `(tactic| first
  | refine ⟨_, rfl, ?_⟩
  | refine ⟨_, _, rfl, ?_⟩
  | refine ⟨ty_L (by walk_at "isl"), ?_⟩
  | refine ⟨ty_S, ?_⟩
  | refine spl_t (by rfl) ?_
  | refine spl_f (by rfl) ?_
  | exact rfl)
local macro_rules | `(tactic| walk_at "bm") => `(tactic| repeat (first | walk_at "b1" | walk_at "bx"))
local macro_rules | `(tactic| walk_at "bn") => `(tactic| repeat (first | walk_at "b0" | walk_at "bx"))
theorem atI_m1 {α : Type} {xs : List α} {v : α} (h : xs[xs.length - 1]? = some v) : atI xs (-1) = some v := by
  unfold atI ixN
  have hl : xs.length - 1 < xs.length := (List.getElem?_eq_some_iff.mp h).1
  rw [if_neg (by decide), if_pos (by omega)]
  have e : ((-1 : Int) + (xs.length : Int)).toNat = xs.length - 1 := by omega
  rw [e]
  exact h
theorem dps_m1 (r : List Bool) : atI ((dps r).map V.int) (-1) = some (.int (hgt r)) := by
  apply atI_m1
  rw [List.length_map, dps_len, List.getElem?_map]
  have : r.length + 1 - 1 = r.length := by omega
  rw [this, dps_last]
  rfl
theorem atI_of {α : Type} {xs : List α} {v : α} {i : Int} (h0 : 0 ≤ i) (h : xs[i.toNat]? = some v) : atI xs i = some v := by
  have e : i = (i.toNat : Int) := by omega
  rw [e]
  exact atI_nat h
theorem tyX_mono {K : PySem.W.Frag} {H H' : Hp} {x : V} {t : Value} (e : Ex H H') (h : TyX K H x t) : TyX K H' x t := by
  cases h with
  | base h =>
    cases h with
    | non => exact .base .non
    | bl b => exact .base (.bl b)
    | int i => exact .base (.int i)
    | str z => exact .base (.str z)
    | flt z => exact .base (.flt z)
    | lst h => exact .base (.lst (e _ _ h))
    | frz h => exact .base (.frz (e _ _ h))
    | tup h => exact .base (.tup (e _ _ h))
    | dK h => exact .base (.dK (e _ _ h))
    | dT h => exact .base (.dT (e _ _ h))
    | ins h cl ha hn ht hm => exact .base (.ins (e _ _ h) cl ha hn ht hm)
  | byt b => exact .byt b
  | set h => exact .set (e _ _ h)
  | kList h c => exact .kList h c
  | kTuple h c => exact .kTuple h c
  | kDict h c => exact .kDict h c
  | fTuple h => exact .fTuple (e _ _ h)
  | fDict h => exact .fDict (e _ _ h)
theorem ln_deepens {K : PySem.W.Frag} {C : CA} {vs : List V} {H : Hp} {Q : VK} {E : XK} (h : sp_deepens K C vs H Q E) : vs.length = 1 := by
  obtain ⟨v, ⟨b, rfl, _⟩, _⟩ := h
  rfl
theorem c_deepens {K : PySem.W.Frag} {C : CA} {H0 : Hp} {s : Ld} {Q : V → Ld → Prop} {E : XK} {b : Bool} (q : Q (.int (sg b)) s) : WC H0 (sp_deepens K C) E [.str (T [b])] s Q := wc_V (fun H o => ⟨b, rfl, rfl⟩) q
theorem pu_deepens {K : PySem.W.Frag} {C : CA} {vs : List V} {H : Hp} {Q : VK} {E : XK} (h : sp_deepens K C vs H Q E) : rd_deepens K C { nx := fun _ H' => Q .non H', rt := Q } (start N_deepens vs) H := by
  obtain ⟨v, ⟨b, rfl, rfl⟩, k⟩ := h
  refine body_V ?_ k
  unfold rd_deepens
  walk_at "bm"
  cases b
  · refine ⟨fun hc => absurd hc (by decide), fun hc => ?_⟩
    walk_at "bm"
  · refine ⟨fun hc => ?_, fun hc => absurd hc (by decide)⟩
    walk_at "bm"
local macro_rules | `(tactic| walk_at "b0") => `(tactic| with_reducible refine' c_deepens ?_)
theorem ln_depths_of {K : PySem.W.Frag} {C : CA} {vs : List V} {H : Hp} {Q : VK} {E : XK} (h : sp_depths_of K C vs H Q E) : vs.length = 1 := by
  obtain ⟨v, ⟨b, rfl, _⟩, _⟩ := h
  rfl
theorem pu_depths_of {K : PySem.W.Frag} {C : CA} {vs : List V} {H : Hp} {Q : VK} {E : XK} (h : sp_depths_of K C vs H Q E) : rd_depths_of K C { nx := fun _ H' => Q .non H', rt := Q } (start N_depths_of vs) H := by
  obtain ⟨v, ⟨r, rfl, hl, rfl⟩, k⟩ := h
  refine body_L ?_ k
  unfold rd_depths_of
  walk_at "bm"
  refine ⟨by decide, fun p hp => ?_⟩
  walk_at "bm"
  refine lp_T (fun i σ s => ∃ b, σ = [some (.str (T r)), some (.ref p), b] ∧ s = ⟨[(p, .lst ((dps (r.take i)).map V.int))], []⟩) rfl ⟨none, rfl, rfl⟩ ?_ ?_
  · rintro i b σ s hi hb ⟨b0, rfl, rfl⟩
    walk_at "bm"
    refine w2_ixL (by walk_at "isl") (dps_m1 _) ?_
    walk_at "bm"
    refine ⟨_, Sub.refl _, _, rfl, ?_⟩
    rw [take_snoc hb, dps_snoc, List.map_append]
    rfl
  · rintro σ s ⟨b0, rfl, rfl⟩
    walk_at "bm"
    rw [List.take_length]
    exact List.mem_cons_self
theorem c_depths_of {K : PySem.W.Frag} {C : CA} {H0 : Hp} {s : Ld} {Q : V → Ld → Prop} {E : XK} {r : List Bool} (hl : r.length ≤ 1000) (q : ∀ p, H0 p = none → Q (.ref p) ⟨(p, .lst ((dps r).map V.int)) :: s.L, s.T⟩) : WC H0 (sp_depths_of K C) E [.str (T r)] s Q := wc_L (fun H o => ⟨r, rfl, hl, rfl⟩) q
local macro_rules | `(tactic| walk_at "b0") => `(tactic| ((with_reducible refine' c_depths_of ?hl ?_); (case hl => walk_at "len")))
/-- is_whole of an int -/
theorem ln_is_whole {K : PySem.W.Frag} {C : CA} {vs : List V} {H : Hp} {Q : VK} {E : XK} (h : sp_is_whole K C vs H Q E) : vs.length = 1 := by
  obtain ⟨x, t, b1, b2, rfl, _⟩ := h
  rfl
theorem pu_is_whole {K : PySem.W.Frag} {C : CA} {vs : List V} {H : Hp} {Q : VK} {E : XK} (h : sp_is_whole K C vs H Q E) : rd_is_whole K C { nx := fun _ H' => Q .non H', rt := Q } (start N_is_whole vs) H := by
  obtain ⟨x, t, b1, b2, rfl, ty, h1, h2, k⟩ := h
  refine body_V (v := .bl (b1 && !b2)) ?_ k
  unfold rd_is_whole
  walk_at "bm"
  refine wl_isi (tv := t) (b := b1) ?_ h1 ?_
  · intro H' o
    exact tyX_mono o.ex ty
  refine ⟨_, rfl, fun hc => ?_, fun hc => ?_⟩
  · walk_at "bm"
    refine wl_isi (tv := t) (b := b2) ?_ h2 ?_
    · intro H' o
      exact tyX_mono o.ex ty
    refine ⟨_, rfl, ?_⟩
    rw [hc]
    rfl
  · rw [hc]
    rfl
theorem c_is_wholeI {K : PySem.W.Frag} {C : CA} {H0 : Hp} {s : Ld} {Q : V → Ld → Prop} {E : XK} {i : Int} (q : Q (.bl true) s) : WC H0 (sp_is_whole K C) E [.int i] s Q := fun H o R k =>
  ⟨.int i, _, true, false, rfl, .base (.int i), kit_ty (by decide +kernel), kit_ty (by decide +kernel), fun H' e => k _ _ _ (o.ext e) q⟩
local macro_rules | `(tactic| walk_at "b0") => `(tactic| with_reducible refine' c_is_wholeI ?_)
theorem c_flipped {K : PySem.W.Frag} {C : CA} {H0 : Hp} {s : Ld} {Q : V → Ld → Prop} {E : XK} {b : Bool} (q : Q (.str (T [!b])) s) : WC H0 (sp_flipped K C) E [.str (T [b])] s Q := wc_V (fun H o => ⟨b, rfl, rfl⟩) q
local macro_rules | `(tactic| walk_at "b0") => `(tactic| with_reducible refine' c_flipped ?_)
theorem c_is_right_row {K : PySem.W.Frag} {C : CA} {H0 : Hp} {s : Ld} {Q : V → Ld → Prop} {E : XK} {r : List Bool} (hl : r.length ≤ 1000) (q : Q (.bl (isR r)) s) : WC H0 (sp_is_right_row K C) E [.str (T r)] s Q := wc_V (fun H o => ⟨r, rfl, hl, rfl⟩) q
local macro_rules | `(tactic| walk_at "b0") => `(tactic| ((with_reducible refine' c_is_right_row ?hl ?_); (case hl => walk_at "len")))
end BM
namespace BM
open PySem L2 Evl
local macro_rules | `(tactic| walk_at "mem") => `(tactic| first | exact List.mem_cons_self | (refine List.mem_cons_of_mem _ ?_; walk_at "mem"))
local macro_rules | `(tactic| walk_at "swap") => `(tactic| first | exact Swap.here | (refine Swap.there ?_; walk_at "swap"))
local macro_rules | `(tactic| walk_at "subl") => `(tactic| first | exact List.Sublist.refl _ | exact List.nil_sublist _ | (refine List.Sublist.cons_cons _ ?_; walk_at "subl") | (refine List.Sublist.cons _ ?_; walk_at "subl"))
local macro_rules | `(tactic| walk_at "sub") => `(tactic| first | exact Sub.refl _ | (refine ⟨?_, ?_⟩ <;> walk_at "subl"))
local macro_rules | `(tactic| walk_at "isl") => `(tactic| first | exact isL_own (by walk_at "mem") | exact isL_old (by assumption) | assumption)
local macro_rules | `(tactic| walk_at "ist") => `(tactic| first | exact isT_own (by walk_at "mem") | exact isT_old (by assumption) | assumption)
local macro_rules | `(tactic| walk_at "len") => `(tactic| first | omega | decide | (simp only [List.length_map, List.length_take, List.length_drop, List.length_append, List.length_cons, List.length_nil, List.length_reverse, dps_len, flp_len]; omega) | (simp [dps_len, flp_len]; omega) | simp)
local macro_rules | `(tactic| walk_at "b0") => `(tactic| first
  | with_reducible refine' ws_set ?_
  | with_reducible refine' ws_par ?_
  | with_reducible refine' ws_asg ?_
  | with_reducible refine' ws_drop ?_
  | with_reducible refine' ws_ret ?_
  | with_reducible refine' ws_if ?_
  | with_reducible refine' ws_next ?_
  | with_reducible refine' ws_brk ?_
  | with_reducible refine' ws_cont ?_
  | ((with_reducible refine' we_var ?hv ?_); case hv => rfl)
  | with_reducible refine' we_c ?_
  | with_reducible refine' we_op ?_
  | with_reducible refine' we_un ?_
  | with_reducible refine' we_if ?_
  | with_reducible refine' we_and ?_
  | with_reducible refine' we_or ?_
  | with_reducible refine' we_not ?_
  | with_reducible refine' wa_nil ?_
  | with_reducible refine' wa_cons ?_
  | (with_reducible refine' we_lst ?_)
  | (with_reducible refine' we_tup ?_)
  | with_reducible refine' we_cb ?_
  | with_reducible refine' we_call0 ?_
  | with_reducible refine' we_sl ?_
  | with_reducible refine' wo_none ?_
  | (with_reducible refine' wo_some ?_)
  | with_reducible refine' wt_test ?_
  | with_reducible refine' wt_B ?_
  | with_reducible refine' wt_and ?_
  | with_reducible refine' wt_or ?_
  | with_reducible refine' wt_not ?_
  | with_reducible refine' wt_yes ?_
  | with_reducible refine' we_chain ?_
  | with_reducible refine' we_chain3 ?_
  | with_reducible refine' we_revT ?_
  | with_reducible refine' we_revL ?_
  | with_reducible refine' we_bm ?_
  | with_reducible refine' we_bm0 ?_
  | with_reducible refine' ws_for ?_
  | with_reducible refine' we_lc ?_
  | with_reducible refine' wi_list ?_
  | with_reducible refine' wi_tup ?_
  | with_reducible refine' wi_T ?_
  | with_reducible refine' wi_rng1 ?_
  | with_reducible refine' wi_rng2 ?_
  | with_reducible refine' wi_rng3 ?_
  | with_reducible refine' wi_enum ?_
  | with_reducible refine' wi_enumT ?_
  | with_reducible refine' wi_zip ?_
  | with_reducible refine' wg_name ?_
  | with_reducible refine' wg_sub ?_
  | with_reducible refine' wgs_nil ?_
  | with_reducible refine' wgs_cons ?_
  | ((with_reducible refine' wg_tup ?ht ?hn ?_); (case ht => walk_at "ist"); (case hn => rfl))
  | with_reducible refine' w2_add ?_
  | with_reducible refine' w2_sub ?_
  | with_reducible refine' w2_lt ?_
  | with_reducible refine' w2_le ?_
  | with_reducible refine' w2_gt ?_
  | with_reducible refine' w2_ge ?_
  | with_reducible refine' w2_eqI ?_
  | with_reducible refine' w2_neI ?_
  | with_reducible refine' w2_eqT ?_
  | with_reducible refine' w2_neT ?_
  | with_reducible refine' w2_eqB ?_
  | with_reducible refine' w2_neB ?_
  | with_reducible refine' w2_isN ?_
  | with_reducible refine' w2_notN ?_
  | with_reducible refine' w2_isB ?_
  | with_reducible refine' w2_inT ?_
  | with_reducible refine' w1_neg ?_
  | with_reducible refine' wl_abs ?_
  | with_reducible refine' wl_max2 ?_
  | with_reducible refine' wl_min2 ?_
  | with_reducible refine' wl_intB ?_
  | ((with_reducible refine' w2_div ?h ?_); case h => first | omega | (constructor <;> omega))
  | ((with_reducible refine' w2_mod ?h ?_); case h => omega)
  | ((with_reducible refine' w2_catT ?h ?_); case h => walk_at "len")
  | ((with_reducible refine' wsl_T ?h ?_); case h => walk_at "len")
  | ((with_reducible refine' wl_lenT ?h ?_); case h => walk_at "len")
  | ((with_reducible refine' wl_len ?h ?_); case h => walk_at "isl")
  | ((with_reducible refine' wl_len ?h ?_); case h => walk_at "isl")
  | ((with_reducible refine' wm_append ?sw ?hl ?_); (case sw => walk_at "swap"); (case hl => walk_at "len")))
local macro_rules | `(tactic| walk_at "b1") => `(tactic| first | with_reducible refine' ws_seq ?_ | walk_at "b0")
local macro_rules | `(tactic| walk_at "bx") => `(tactic| first
  | refine ⟨_, rfl, ?_⟩
  | refine ⟨_, _, rfl, ?_⟩
  | refine ⟨ty_L (by walk_at "isl"), ?_⟩
  | refine ⟨ty_S, ?_⟩
  | refine spl_t (by rfl) ?_
  | refine spl_f (by rfl) ?_
  | exact rfl)
local macro_rules | `(tactic| walk_at "bm") => `(tactic| repeat (first | walk_at "b1" | walk_at "bx"))
local macro_rules | `(tactic| walk_at "bn") => `(tactic| repeat (first | walk_at "b0" | walk_at "bx"))
local macro_rules | `(tactic| walk_at "b0") => `(tactic| with_reducible refine' c_deepens ?_)
local macro_rules | `(tactic| walk_at "b0") => `(tactic| ((with_reducible refine' c_depths_of ?hl ?_); (case hl => walk_at "len")))
local macro_rules | `(tactic| walk_at "b0") => `(tactic| with_reducible refine' c_is_wholeI ?_)
local macro_rules | `(tactic| walk_at "b0") => `(tactic| with_reducible refine' c_flipped ?_)
local macro_rules | `(tactic| walk_at "b0") => `(tactic| ((with_reducible refine' c_is_right_row ?hl ?_); (case hl => walk_at "len")))
theorem sIx_some {n d : Nat} {v : Int} (h : 0 ≤ v) : HT.sIx n d (some v) = min v.toNat n := by
  unfold HT.sIx
  simp only
  rw [if_neg (by omega)]
theorem cut_hi {α : Type} {r : List α} {p : Int} (h : 0 ≤ p) : cutL r none (some p) = r.take p.toNat := by
  unfold cutL
  rw [sIx_some h, HT.sIx_none, List.drop_zero, Nat.sub_zero]
  rcases Nat.le_total p.toNat r.length with h1 | h1
  · rw [Nat.min_eq_left h1]
  · rw [Nat.min_eq_right h1, List.take_of_length_le h1, List.take_of_length_le (Nat.le_refl _)]
theorem cut_lo {α : Type} {r : List α} {p : Int} (h : 0 ≤ p) : cutL r (some p) none = r.drop p.toNat := by
  unfold cutL
  rw [sIx_some h, HT.sIx_none, List.take_of_length_le (by simp)]
  rcases Nat.le_total p.toNat r.length with h1 | h1
  · rw [Nat.min_eq_left h1]
  · rw [Nat.min_eq_right h1, List.drop_of_length_le h1, List.drop_of_length_le (Nat.le_refl _)]
theorem get_some {α : Type} {r : List α} {i : Nat} (h : i < r.length) : ∃ x, r[i]? = some x := ⟨r[i], List.getElem?_eq_getElem h⟩
theorem ln_asked_row {K : PySem.W.Frag} {C : CA} {vs : List V} {H : Hp} {Q : VK} {E : XK} (h : sp_asked_row K C vs H Q E) : vs.length = 1 := by
  obtain ⟨v, ⟨b, rfl, _⟩, _⟩ := h
  rfl
theorem mem_tf (b : Bool) : decide (b ∈ [true, false]) = true := by cases b <;> decide
theorem rep_true (n : Nat) : (List.replicate n true).all id = true := by
  rw [List.all_eq_true]
  intro x hx
  exact (List.eq_of_mem_replicate hx)
theorem rep_map {α : Type} (x : α) (n : Nat) {β : Type} (f : α → β) : (List.replicate n x).map f = List.replicate n (f x) := List.map_replicate
theorem pu_asked_row {K : PySem.W.Frag} {C : CA} {vs : List V} {H : Hp} {Q : VK} {E : XK} (h : sp_asked_row K C vs H Q E) : rd_asked_row K C { nx := fun _ H' => Q .non H', rt := Q } (start N_asked_row vs) H := by
  obtain ⟨v, ⟨r, rfl, hl, rfl⟩, k⟩ := h
  refine body_V ?_ k
  unfold rd_asked_row
  walk_at "bm"
  refine wl_isi (tv := .type "str") (b := true) (fun H' o => .base (.str _)) (kit_ty (by decide +kernel)) ?_
  walk_at "bm"
  refine ⟨fun hc => absurd (of_decide_eq_true hc) (by omega), fun _ => ?_⟩
  walk_at "bm"
  refine cp_T (fun i => List.replicate i (.bl true)) (by omega) rfl (fun i _ => by simp) ?_ ?_
  · intro D i b hi hb
    walk_at "bm"
    refine ⟨rfl, ?_⟩
    walk_at "bm"
    refine ⟨Sub.refl _, ?_⟩
    rw [mem_tf, List.replicate_succ']
  · intro D hD
    walk_at "bm"
    refine wl_all (bs := List.replicate r.length true) (by rw [rep_map]; walk_at "isl") ?_
    walk_at "bm"
    rw [rep_true]
    walk_at "bm"
theorem c_asked_row {K : PySem.W.Frag} {C : CA} {H0 : Hp} {s : Ld} {Q : V → Ld → Prop} {E : XK} {r : List Bool} (hl : r.length ≤ 40) (q : Q .non s) : WC H0 (sp_asked_row K C) E [.str (T r)] s Q := wc_V (fun H o => ⟨r, rfl, hl, rfl⟩) q
local macro_rules | `(tactic| walk_at "b0") => `(tactic| ((with_reducible refine' c_asked_row ?hl ?_); (case hl => walk_at "len")))
theorem c_depths {K : PySem.W.Frag} {C : CA} {H0 : Hp} {s : Ld} {Q : V → Ld → Prop} {E : XK} {r : List Bool} (hl : r.length ≤ 40) (q : ∀ p, H0 p = none → Q (.ref p) ⟨(p, .lst ((dps r).map V.int)) :: s.L, s.T⟩) : WC H0 (sp_depths K C) E [.str (T r)] s Q := wc_L (fun H o => ⟨r, rfl, hl, rfl⟩) q
local macro_rules | `(tactic| walk_at "b0") => `(tactic| ((with_reducible refine' c_depths ?hl ?_); (case hl => walk_at "len")))
theorem c_is_right {K : PySem.W.Frag} {C : CA} {H0 : Hp} {s : Ld} {Q : V → Ld → Prop} {E : XK} {r : List Bool} (hl : r.length ≤ 40) (q : Q (.bl (isR r)) s) : WC H0 (sp_is_right K C) E [.str (T r)] s Q := wc_V (fun H o => ⟨r, rfl, hl, rfl⟩) q
local macro_rules | `(tactic| walk_at "b0") => `(tactic| ((with_reducible refine' c_is_right ?hl ?_); (case hl => walk_at "len")))
theorem flat_one (r : List Bool) : (r.map fun b => [b]).flatten = r := by
  induction r with
  | nil => rfl
  | cons b r ih => rw [List.map_cons, List.flatten_cons, ih]; rfl
theorem sum_one (r : List Bool) : ((r.map fun b => [b]).map (·.length)).sum = r.length := by
  induction r with
  | nil => rfl
  | cons b r ih =>
    rw [List.map_cons, List.map_cons, List.sum_cons, ih]
    simp
    omega
theorem ones_map (r : List Bool) : (r.map fun b => V.str (T [b])) = (r.map fun b => [b]).map fun u => V.str (T u) := by
  rw [List.map_map]
  rfl
theorem wm_join1 {K : PySem.W.Frag} {H0 : Hp} {s : Ld} {Q : V → Ld → Prop} {p : Addr} {r : List Bool} (hx : IsL K H0 s p (r.map fun b => .str (T [b]))) (hl : r.length ≤ 100000) (q : Q (.str (T r)) s) : WM H0 (aJoin K) (.str (T [])) [.ref p] s Q :=
  wm_join (rs := r.map fun b => [b]) (by rw [← ones_map]; exact hx) (by rw [sum_one]; exact hl) (by rw [flat_one]; exact q)
end BM
namespace BM
open PySem L2 Evl
local macro_rules | `(tactic| walk_at "mem") => `(tactic| first | exact List.mem_cons_self | (refine List.mem_cons_of_mem _ ?_; walk_at "mem"))
local macro_rules | `(tactic| walk_at "swap") => `(tactic| first | exact Swap.here | (refine Swap.there ?_; walk_at "swap"))
local macro_rules | `(tactic| walk_at "subl") => `(tactic| first | exact List.Sublist.refl _ | exact List.nil_sublist _ | (refine List.Sublist.cons_cons _ ?_; walk_at "subl") | (refine List.Sublist.cons _ ?_; walk_at "subl"))
local macro_rules | `(tactic| walk_at "sub") => `(tactic| first | exact Sub.refl _ | (refine ⟨?_, ?_⟩ <;> walk_at "subl"))
local macro_rules | `(tactic| walk_at "isl") => `(tactic| first | exact isL_own (by walk_at "mem") | exact isL_old (by assumption) | assumption)
local macro_rules | `(tactic| walk_at "ist") => `(tactic| first | exact isT_own (by walk_at "mem") | exact isT_old (by assumption) | assumption)
local macro_rules | `(tactic| walk_at "len") => `(tactic| first | omega | decide | (simp only [List.length_map, List.length_take, List.length_drop, List.length_append, List.length_cons, List.length_nil, List.length_reverse, dps_len, flp_len]; omega) | (simp [dps_len, flp_len]; omega) | simp)
local macro_rules | `(tactic| walk_at "b0") => `(tactic| first
  | with_reducible refine' ws_set ?_
  | with_reducible refine' ws_par ?_
  | with_reducible refine' ws_asg ?_
  | with_reducible refine' ws_drop ?_
  | with_reducible refine' ws_ret ?_
  | with_reducible refine' ws_if ?_
  | with_reducible refine' ws_next ?_
  | with_reducible refine' ws_brk ?_
  | with_reducible refine' ws_cont ?_
  | ((with_reducible refine' we_var ?hv ?_); case hv => rfl)
  | with_reducible refine' we_c ?_
  | with_reducible refine' we_op ?_
  | with_reducible refine' we_un ?_
  | with_reducible refine' we_if ?_
  | with_reducible refine' we_and ?_
  | with_reducible refine' we_or ?_
  | with_reducible refine' we_not ?_
  | with_reducible refine' wa_nil ?_
  | with_reducible refine' wa_cons ?_
  | (with_reducible refine' we_lst ?_)
  | (with_reducible refine' we_tup ?_)
  | with_reducible refine' we_cb ?_
  | with_reducible refine' we_call0 ?_
  | with_reducible refine' we_sl ?_
  | with_reducible refine' wo_none ?_
  | (with_reducible refine' wo_some ?_)
  | with_reducible refine' wt_test ?_
  | with_reducible refine' wt_B ?_
  | with_reducible refine' wt_and ?_
  | with_reducible refine' wt_or ?_
  | with_reducible refine' wt_not ?_
  | with_reducible refine' wt_yes ?_
  | with_reducible refine' we_chain ?_
  | with_reducible refine' we_chain3 ?_
  | with_reducible refine' we_revT ?_
  | with_reducible refine' we_revL ?_
  | with_reducible refine' we_bm ?_
  | with_reducible refine' we_bm0 ?_
  | with_reducible refine' ws_for ?_
  | with_reducible refine' we_lc ?_
  | with_reducible refine' wi_list ?_
  | with_reducible refine' wi_tup ?_
  | with_reducible refine' wi_T ?_
  | with_reducible refine' wi_rng1 ?_
  | with_reducible refine' wi_rng2 ?_
  | with_reducible refine' wi_rng3 ?_
  | with_reducible refine' wi_enum ?_
  | with_reducible refine' wi_enumT ?_
  | with_reducible refine' wi_zip ?_
  | with_reducible refine' wg_name ?_
  | with_reducible refine' wg_sub ?_
  | with_reducible refine' wgs_nil ?_
  | with_reducible refine' wgs_cons ?_
  | ((with_reducible refine' wg_tup ?ht ?hn ?_); (case ht => walk_at "ist"); (case hn => rfl))
  | with_reducible refine' w2_add ?_
  | with_reducible refine' w2_sub ?_
  | with_reducible refine' w2_lt ?_
  | with_reducible refine' w2_le ?_
  | with_reducible refine' w2_gt ?_
  | with_reducible refine' w2_ge ?_
  | with_reducible refine' w2_eqI ?_
  | with_reducible refine' w2_neI ?_
  | with_reducible refine' w2_eqT ?_
  | with_reducible refine' w2_neT ?_
  | with_reducible refine' w2_eqB ?_
  | with_reducible refine' w2_neB ?_
  | with_reducible refine' w2_isN ?_
  | with_reducible refine' w2_notN ?_
  | with_reducible refine' w2_isB ?_
  | with_reducible refine' w2_inT ?_
  | with_reducible refine' w1_neg ?_
  | with_reducible refine' wl_abs ?_
  | with_reducible refine' wl_max2 ?_
  | with_reducible refine' wl_min2 ?_
  | with_reducible refine' wl_intB ?_
  | ((with_reducible refine' w2_div ?h ?_); case h => first | omega | (constructor <;> omega))
  | ((with_reducible refine' w2_mod ?h ?_); case h => omega)
  | ((with_reducible refine' w2_catT ?h ?_); case h => walk_at "len")
  | ((with_reducible refine' wsl_T ?h ?_); case h => walk_at "len")
  | ((with_reducible refine' wl_lenT ?h ?_); case h => walk_at "len")
  | ((with_reducible refine' wl_len ?h ?_); case h => walk_at "isl")
  | ((with_reducible refine' wl_len ?h ?_); case h => walk_at "isl")
  | ((with_reducible refine' wm_append ?sw ?hl ?_); (case sw => walk_at "swap"); (case hl => walk_at "len")))
local macro_rules | `(tactic| walk_at "b1") => `(tactic| first | with_reducible refine' ws_seq ?_ | walk_at "b0")
local macro_rules | `(tactic| walk_at "bx") => `(tactic| first
  | refine ⟨_, rfl, ?_⟩
  | refine ⟨_, _, rfl, ?_⟩
  | refine ⟨ty_L (by walk_at "isl"), ?_⟩
  | refine ⟨ty_S, ?_⟩
  | refine spl_t (by rfl) ?_
  | refine spl_f (by rfl) ?_
  | exact rfl)
local macro_rules | `(tactic| walk_at "bm") => `(tactic| repeat (first | walk_at "b1" | walk_at "bx"))
local macro_rules | `(tactic| walk_at "bn") => `(tactic| repeat (first | walk_at "b0" | walk_at "bx"))
local macro_rules | `(tactic| walk_at "b0") => `(tactic| with_reducible refine' c_deepens ?_)
local macro_rules | `(tactic| walk_at "b0") => `(tactic| ((with_reducible refine' c_depths_of ?hl ?_); (case hl => walk_at "len")))
local macro_rules | `(tactic| walk_at "b0") => `(tactic| with_reducible refine' c_is_wholeI ?_)
local macro_rules | `(tactic| walk_at "b0") => `(tactic| with_reducible refine' c_flipped ?_)
local macro_rules | `(tactic| walk_at "b0") => `(tactic| ((with_reducible refine' c_is_right_row ?hl ?_); (case hl => walk_at "len")))
local macro_rules | `(tactic| walk_at "b0") => `(tactic| ((with_reducible refine' c_asked_row ?hl ?_); (case hl => walk_at "len")))
local macro_rules | `(tactic| walk_at "b0") => `(tactic| ((with_reducible refine' c_depths ?hl ?_); (case hl => walk_at "len")))
local macro_rules | `(tactic| walk_at "b0") => `(tactic| ((with_reducible refine' c_is_right ?hl ?_); (case hl => walk_at "len")))
theorem getI {ps : List Int} {i : Nat} {y : V} (hy : (ps.map V.int)[i]? = some y) : ∃ z, ps[i]? = some z ∧ y = V.int z := by
  rw [List.getElem?_map] at hy
  cases e : ps[i]? with
  | none => rw [e] at hy; cases hy
  | some z => rw [e] at hy; exact ⟨z, rfl, (Option.some.inj hy).symm⟩
end BM
/-! how a law's row is made even -/
namespace BM
theorem hgt_count (r : List Bool) : hgt r = (r.count true : Int) - (r.count false : Int) := by
  induction r with
  | nil => simp [hgt]
  | cons b r ih =>
    simp only [hgt, ih, List.count_cons]
    cases b <;> simp [sg] <;> omega
theorem hgt_set {r : List Bool} {j : Nat} {a : Bool} (h : r[j]? = some a) (b : Bool) : hgt (r.set j b) = hgt r - sg a + sg b := by
  induction r generalizing j with
  | nil => simp at h
  | cons c r ih =>
    cases j with
    | zero =>
      have e : c = a := by simpa using h
      subst e
      simp only [List.set_cons_zero, hgt]
      omega
    | succ j =>
      have h' : r[j]? = some a := by simpa using h
      simp only [List.set_cons_succ, hgt, ih h']
      omega
theorem hgt_all {r : List Bool} {b : Bool} (h : ∀ x ∈ r, x = b) : hgt r = sg b * r.length := by
  induction r with
  | nil => simp [hgt]
  | cons c r ih =>
    have h1 := h c List.mem_cons_self
    have h2 := ih fun x hx => h x (List.mem_cons_of_mem _ hx)
    simp only [hgt, h2, h1, List.length_cons]
    cases b <;> simp [sg] <;> omega
theorem hgt_par (r : List Bool) : (hgt r + r.length) % 2 = 0 := by
  induction r with
  | nil => simp [hgt]
  | cons c r ih =>
    simp only [hgt, List.length_cons]
    cases c <;> simp [sg] <;> omega
/-- what holds behind i turns of the evening loop -/
structure EvenUp (w : Int) (n i : Nat) (r : List Bool) (m : Int) : Prop where
  len : r.length = n
  hg : hgt r = m
  par : n % 2 = 0
  vis : m = 0 ∨ (0 < m ∧ ∀ j, j < i → r[(((j : Int) + w) % (n : Int)).toNat]? = some false) ∨ (m < 0 ∧ ∀ j, j < i → r[(((j : Int) + w) % (n : Int)).toNat]? = some true)
theorem EvenUp.start {w : Int} {r : List Bool} (hp : r.length % 2 = 0) : EvenUp w r.length 0 r (hgt r) :=
  ⟨rfl, rfl, hp, by
    rcases Int.lt_trichotomy (hgt r) 0 with h | h | h
    · exact .inr (.inr ⟨h, fun j hj => absurd hj (Nat.not_lt_zero _)⟩)
    · exact .inl h
    · exact .inr (.inl ⟨h, fun j hj => absurd hj (Nat.not_lt_zero _)⟩)⟩
theorem set_get {r : List Bool} {j k : Nat} {b : Bool} (hj : j < r.length) (h : r[k]? = some b) : (r.set j b)[k]? = some b := by
  by_cases e : j = k
  · subst e
    rw [List.getElem?_set_self hj]
  · rw [List.getElem?_set_ne e]
    exact h
theorem EvenUp.turn {w m : Int} {n i : Nat} {r : List Bool} {a : Bool} (E : EvenUp w n i r m) (hm : m ≠ 0) (h : r[(((i : Int) + w) % (n : Int)).toNat]? = some a) (ha : a = decide (0 < m)) :
    EvenUp w n (i + 1) (r.set (((i : Int) + w) % (n : Int)).toNat (!a)) (if 0 < m then m - 2 else m + 2) := by
  have hj : (((i : Int) + w) % (n : Int)).toNat < r.length := (List.getElem?_eq_some_iff.mp h).1
  have hg := hgt_set h (!a)
  have hpar := hgt_par r
  have e1 := E.hg
  have e2 := E.len
  have e3 := E.par
  refine ⟨by rw [List.length_set]; exact E.len, ?_, E.par, ?_⟩
  · rw [hg, E.hg, ha]
    by_cases h0 : 0 < m
    · simp [h0, sg]; omega
    · simp [h0, sg]; omega
  · rcases E.vis with v | ⟨v, hv⟩ | ⟨v, hv⟩
    · exact absurd v hm
    · have ea : a = true := by rw [ha]; exact decide_eq_true v
      subst ea
      rw [if_pos v]
      by_cases h2 : m - 2 = 0
      · exact .inl h2
      · refine .inr (.inl ⟨by omega, fun j hj' => ?_⟩)
        rcases Nat.lt_succ_iff_lt_or_eq.mp hj' with h3 | h3
        · exact set_get hj (hv j h3)
        · subst h3
          exact List.getElem?_set_self hj
    · have ea : a = false := by rw [ha]; exact decide_eq_false (by omega)
      subst ea
      rw [if_neg (by omega)]
      by_cases h2 : m + 2 = 0
      · exact .inl h2
      · refine .inr (.inr ⟨by omega, fun j hj' => ?_⟩)
        rcases Nat.lt_succ_iff_lt_or_eq.mp hj' with h3 | h3
        · exact set_get hj (hv j h3)
        · subst h3
          exact List.getElem?_set_self hj
theorem EvenUp.stay {w m : Int} {n i : Nat} {r : List Bool} {a : Bool} (E : EvenUp w n i r m) (h : r[(((i : Int) + w) % (n : Int)).toNat]? = some a) (ha : m ≠ 0 → a ≠ decide (0 < m)) : EvenUp w n (i + 1) r m := by
  refine ⟨E.len, E.hg, E.par, ?_⟩
  rcases E.vis with v | ⟨v, hv⟩ | ⟨v, hv⟩
  · exact .inl v
  · refine .inr (.inl ⟨v, fun j hj => ?_⟩)
    rcases Nat.lt_succ_iff_lt_or_eq.mp hj with h3 | h3
    · exact hv j h3
    · subst h3
      rw [h]
      have := ha (by omega)
      rw [decide_eq_true v] at this
      cases a
      · rfl
      · exact absurd rfl this
  · refine .inr (.inr ⟨v, fun j hj => ?_⟩)
    rcases Nat.lt_succ_iff_lt_or_eq.mp hj with h3 | h3
    · exact hv j h3
    · subst h3
      rw [h]
      have := ha (by omega)
      rw [decide_eq_false (by omega)] at this
      cases a
      · exact absurd rfl this
      · rfl
theorem EvenUp.done {w m : Int} {n : Nat} {r : List Bool} (E : EvenUp w n n r m) : hgt r = 0 := by
  have hall : ∀ b, (∀ j, j < n → r[(((j : Int) + w) % (n : Int)).toNat]? = some b) → ∀ x ∈ r, x = b := by
    intro b hb x hx
    obtain ⟨k, hk, e⟩ := List.getElem_of_mem hx
    have hn : 0 < n := by rw [← E.len]; omega
    have hlen := E.len
    have h1 := Int.emod_nonneg ((k : Int) - w) (b := (n : Int)) (by omega)
    have h2 := Int.emod_lt_of_pos ((k : Int) - w) (b := (n : Int)) (by omega)
    have h3 := hb (((k : Int) - w) % (n : Int)).toNat (by omega)
    have h4 : ((((((k : Int) - w) % (n : Int)).toNat : Nat) : Int) + w) % (n : Int) = (k : Int) := by
      rw [Int.toNat_of_nonneg h1, Int.emod_add_emod]
      have : (k : Int) - w + w = k := by omega
      rw [this]
      exact Int.emod_eq_of_lt (by omega) (by omega)
    rw [h4, Int.toNat_natCast, List.getElem?_eq_getElem hk, e] at h3
    exact Option.some.inj h3
  have e1 := E.hg
  rcases E.vis with v | ⟨v, hv⟩ | ⟨v, hv⟩
  · omega
  · have := hgt_all (hall false hv)
    simp [sg] at this
    omega
  · have := hgt_all (hall true hv)
    simp [sg] at this
    omega
end BM
namespace BM
open PySem L2 Evl
local macro_rules | `(tactic| walk_at "mem") => `(tactic| first | exact List.mem_cons_self | (refine List.mem_cons_of_mem _ ?_; walk_at "mem"))
local macro_rules | `(tactic| walk_at "swap") => `(tactic| first | exact Swap.here | (refine Swap.there ?_; walk_at "swap"))
local macro_rules | `(tactic| walk_at "subl") => `(tactic| first | exact List.Sublist.refl _ | exact List.nil_sublist _ | (refine List.Sublist.cons_cons _ ?_; walk_at "subl") | (refine List.Sublist.cons _ ?_; walk_at "subl"))
local macro_rules | `(tactic| walk_at "sub") => `(tactic| first | exact Sub.refl _ | (refine ⟨?_, ?_⟩ <;> walk_at "subl"))
local macro_rules | `(tactic| walk_at "isl") => `(tactic| first | exact isL_own (by walk_at "mem") | exact isL_old (by assumption) | assumption)
local macro_rules | `(tactic| walk_at "ist") => `(tactic| first | exact isT_own (by walk_at "mem") | exact isT_old (by assumption) | assumption)
local macro_rules | `(tactic| walk_at "len") => `(tactic| first | omega | decide | (simp only [List.length_map, List.length_take, List.length_drop, List.length_append, List.length_cons, List.length_nil, List.length_reverse, dps_len, flp_len]; omega) | (simp [dps_len, flp_len]; omega) | simp)
local macro_rules | `(tactic| walk_at "b0") => `(tactic| first
  | with_reducible refine' ws_set ?_
  | with_reducible refine' ws_par ?_
  | with_reducible refine' ws_asg ?_
  | with_reducible refine' ws_drop ?_
  | with_reducible refine' ws_ret ?_
  | with_reducible refine' ws_if ?_
  | with_reducible refine' ws_next ?_
  | with_reducible refine' ws_brk ?_
  | with_reducible refine' ws_cont ?_
  | ((with_reducible refine' we_var ?hv ?_); case hv => rfl)
  | with_reducible refine' we_c ?_
  | with_reducible refine' we_op ?_
  | with_reducible refine' we_un ?_
  | with_reducible refine' we_if ?_
  | with_reducible refine' we_and ?_
  | with_reducible refine' we_or ?_
  | with_reducible refine' we_not ?_
  | with_reducible refine' wa_nil ?_
  | with_reducible refine' wa_cons ?_
  | (with_reducible refine' we_lst ?_)
  | (with_reducible refine' we_tup ?_)
  | with_reducible refine' we_cb ?_
  | with_reducible refine' we_call0 ?_
  | with_reducible refine' we_sl ?_
  | with_reducible refine' wo_none ?_
  | (with_reducible refine' wo_some ?_)
  | with_reducible refine' wt_test ?_
  | with_reducible refine' wt_B ?_
  | with_reducible refine' wt_and ?_
  | with_reducible refine' wt_or ?_
  | with_reducible refine' wt_not ?_
  | with_reducible refine' wt_yes ?_
  | with_reducible refine' we_chain ?_
  | with_reducible refine' we_chain3 ?_
  | with_reducible refine' we_revT ?_
  | with_reducible refine' we_revL ?_
  | with_reducible refine' we_bm ?_
  | with_reducible refine' we_bm0 ?_
  | with_reducible refine' ws_for ?_
  | with_reducible refine' we_lc ?_
  | with_reducible refine' wi_list ?_
  | with_reducible refine' wi_tup ?_
  | with_reducible refine' wi_T ?_
  | with_reducible refine' wi_rng1 ?_
  | with_reducible refine' wi_rng2 ?_
  | with_reducible refine' wi_rng3 ?_
  | with_reducible refine' wi_enum ?_
  | with_reducible refine' wi_enumT ?_
  | with_reducible refine' wi_zip ?_
  | with_reducible refine' wg_name ?_
  | with_reducible refine' wg_sub ?_
  | with_reducible refine' wgs_nil ?_
  | with_reducible refine' wgs_cons ?_
  | ((with_reducible refine' wg_tup ?ht ?hn ?_); (case ht => walk_at "ist"); (case hn => rfl))
  | with_reducible refine' w2_add ?_
  | with_reducible refine' w2_sub ?_
  | with_reducible refine' w2_lt ?_
  | with_reducible refine' w2_le ?_
  | with_reducible refine' w2_gt ?_
  | with_reducible refine' w2_ge ?_
  | with_reducible refine' w2_eqI ?_
  | with_reducible refine' w2_neI ?_
  | with_reducible refine' w2_eqT ?_
  | with_reducible refine' w2_neT ?_
  | with_reducible refine' w2_eqB ?_
  | with_reducible refine' w2_neB ?_
  | with_reducible refine' w2_isN ?_
  | with_reducible refine' w2_notN ?_
  | with_reducible refine' w2_isB ?_
  | with_reducible refine' w2_inT ?_
  | with_reducible refine' w1_neg ?_
  | with_reducible refine' wl_abs ?_
  | with_reducible refine' wl_max2 ?_
  | with_reducible refine' wl_min2 ?_
  | with_reducible refine' wl_intB ?_
  | ((with_reducible refine' w2_div ?h ?_); case h => first | omega | (constructor <;> omega))
  | ((with_reducible refine' w2_mod ?h ?_); case h => omega)
  | ((with_reducible refine' w2_catT ?h ?_); case h => walk_at "len")
  | ((with_reducible refine' wsl_T ?h ?_); case h => walk_at "len")
  | ((with_reducible refine' wl_lenT ?h ?_); case h => walk_at "len")
  | ((with_reducible refine' wl_len ?h ?_); case h => walk_at "isl")
  | ((with_reducible refine' wl_len ?h ?_); case h => walk_at "isl")
  | ((with_reducible refine' wm_append ?sw ?hl ?_); (case sw => walk_at "swap"); (case hl => walk_at "len")))
local macro_rules | `(tactic| walk_at "b1") => `(tactic| first | with_reducible refine' ws_seq ?_ | walk_at "b0")
local macro_rules | `(tactic| walk_at "bx") => `(tactic| first
  | refine ⟨_, rfl, ?_⟩
  | refine ⟨_, _, rfl, ?_⟩
  | refine ⟨ty_L (by walk_at "isl"), ?_⟩
  | refine ⟨ty_S, ?_⟩
  | refine spl_t (by rfl) ?_
  | refine spl_f (by rfl) ?_
  | exact rfl)
local macro_rules | `(tactic| walk_at "bm") => `(tactic| repeat (first | walk_at "b1" | walk_at "bx"))
local macro_rules | `(tactic| walk_at "bn") => `(tactic| repeat (first | walk_at "b0" | walk_at "bx"))
local macro_rules | `(tactic| walk_at "b0") => `(tactic| with_reducible refine' c_deepens ?_)
local macro_rules | `(tactic| walk_at "b0") => `(tactic| ((with_reducible refine' c_depths_of ?hl ?_); (case hl => walk_at "len")))
local macro_rules | `(tactic| walk_at "b0") => `(tactic| with_reducible refine' c_is_wholeI ?_)
local macro_rules | `(tactic| walk_at "b0") => `(tactic| with_reducible refine' c_flipped ?_)
local macro_rules | `(tactic| walk_at "b0") => `(tactic| ((with_reducible refine' c_is_right_row ?hl ?_); (case hl => walk_at "len")))
local macro_rules | `(tactic| walk_at "b0") => `(tactic| ((with_reducible refine' c_asked_row ?hl ?_); (case hl => walk_at "len")))
local macro_rules | `(tactic| walk_at "b0") => `(tactic| ((with_reducible refine' c_depths ?hl ?_); (case hl => walk_at "len")))
local macro_rules | `(tactic| walk_at "b0") => `(tactic| ((with_reducible refine' c_is_right ?hl ?_); (case hl => walk_at "len")))
theorem cmul_l {i j : Int} (h1 : -18446744073709551616 < i) (h2 : i < 18446744073709551616) : CMul i j := Or.inl ⟨by omega, by omega⟩
theorem cmul_r {i j : Int} (h1 : -18446744073709551616 < j) (h2 : j < 18446744073709551616) : CMul i j := Or.inr ⟨by omega, by omega⟩
theorem ln__law_number {K : PySem.W.Frag} {C : CA} {vs : List V} {H : Hp} {Q : VK} {E : XK} (h : sp__law_number K C vs H Q E) : vs.length = 3 := by
  obtain ⟨⟨c, a, w, rfl, _⟩, _⟩ := h
  rfl
theorem pu__law_number {K : PySem.W.Frag} {C : CA} {vs : List V} {H : Hp} {Q : VK} {E : XK} (h : sp__law_number K C vs H Q E) : rd__law_number K C { nx := fun _ H' => Q .non H', rt := Q } (start N__law_number vs) H := by
  obtain ⟨⟨c, a, w, rfl, h0, h1⟩, k⟩ := h
  refine body_P (P := fun v => ∃ n : Int, v = .int n) ?_ k
  have ep : (10 : Int) ^ (18 : Int).toNat = 1000000000000000000 := by decide
  have cp : CPow 10 18 := ⟨by decide, by decide, by decide⟩
  unfold rd__law_number
  walk_at "bm"
  refine w2_pow cp ?_
  rw [ep]
  walk_at "bm"
  refine ⟨fun _ => ?_, fun _ => ?_⟩
  · walk_at "bm"
    exact ⟨_, rfl⟩
  · walk_at "bm"
    refine w2_pow cp ?_
    rw [ep]
    walk_at "bm"
    generalize hs : c % 1000000000000000000 = sm
    walk_at "bm"
    refine w2_mul (cmul_l (by decide) (by decide)) ?_
    walk_at "bm"
    refine w2_mul (cmul_r (by decide) (by decide)) ?_
    walk_at "bm"
    generalize hb : ((sm + 977 * a) * 48271 + w) % 2147483647 = b
    walk_at "bm"
    refine w2_mul (cmul_l (by decide) (by decide)) ?_
    walk_at "bm"
    refine w2_mul (cmul_l (by omega) (by omega)) ?_
    walk_at "bm"
    refine w2_mul (cmul_r (by omega) (by omega)) ?_
    walk_at "bm"
    refine w2_mul (cmul_l (by omega) (by omega)) ?_
    walk_at "bm"
    have hbb : b * b < 4611686014132420610 := by
      have h2 : b * b ≤ 2147483646 * 2147483646 := Int.mul_le_mul (by omega) (by omega) (by omega) (by decide)
      omega
    have hb0 : 0 ≤ b * b := Int.mul_nonneg (by omega) (by omega)
    refine w2_mul (cmul_r (by omega) (by omega)) ?_
    walk_at "bm"
    exact ⟨_, rfl⟩
theorem c__law_number {K : PySem.W.Frag} {C : CA} {H0 : Hp} {s : Ld} {Q : V → Ld → Prop} {E : XK} {c a w : Int} (h0 : 0 ≤ a ∧ a ≤ 1000000) (q : ∀ n : Int, Q (.int n) s) : WC H0 (sp__law_number K C) E [.int c, .int a, .int w] s Q :=
  wc_P (fun H o => ⟨c, a, w, rfl, h0.1, h0.2⟩) (fun v ⟨n, e⟩ => by rw [e]; exact q n)
theorem c__law_depths {K : PySem.W.Frag} {C : CA} {H0 : Hp} {s : Ld} {Q : V → Ld → Prop} {E : XK} {r : List Bool} (hl : r.length ≤ 1000) (q : ∀ p, H0 p = none → Q (.ref p) ⟨(p, .lst ((dps r).map V.int)) :: s.L, s.T⟩) : WC H0 (sp__law_depths K C) E [.str (T r)] s Q := wc_L (fun H o => ⟨r, rfl, hl, rfl⟩) q
local macro_rules | `(tactic| walk_at "b0") => `(tactic| ((with_reducible refine' c__law_depths ?hl ?_); (case hl => walk_at "len")))
theorem ln__law_good {K : PySem.W.Frag} {C : CA} {vs : List V} {H : Hp} {Q : VK} {E : XK} (h : sp__law_good K C vs H Q E) : vs.length = 1 := by
  obtain ⟨v, ⟨b, rfl, _⟩, _⟩ := h
  rfl
theorem isR_bad {r : List Bool} {i : Nat} (hi : i ≤ r.length) (h : hgt (r.take i) < 0) : isR r = false := by
  cases e : isR r with
  | false => rfl
  | true =>
    have := (isR_iff.mp e).2 i hi
    omega
theorem pu__law_good {K : PySem.W.Frag} {C : CA} {vs : List V} {H : Hp} {Q : VK} {E : XK} (h : sp__law_good K C vs H Q E) : rd__law_good K C { nx := fun _ H' => Q .non H', rt := Q } (start N__law_good vs) H := by
  obtain ⟨v, ⟨r, rfl, hl, rfl⟩, k⟩ := h
  refine body_V ?_ k
  unfold rd__law_good
  walk_at "bm"
  refine lp_T (fun i σ s => ∃ b, σ = [some (.str (T r)), some (.int (hgt (r.take i))), b] ∧ s = ⟨[], []⟩ ∧ ∀ j, j ≤ i → 0 ≤ hgt (r.take j)) rfl ⟨none, rfl, rfl, fun j hj => by rw [show j = 0 by omega]; exact Int.le_refl 0⟩ ?_ ?_
  · rintro i b σ s hi hb ⟨b0, rfl, rfl, hn⟩
    have e : hgt (r.take (i + 1)) = hgt (r.take i) + sg b := by rw [take_snoc hb, hgt_app]; simp [hgt]
    have fin : ∀ z : Int, z = hgt (r.take (i + 1)) → (decide (z < 0) = true → WS H (tRet (tC (V.bl false))) [some (.str (T r)), some (.int z), some (.str (T [b]))] ⟨[], []⟩ (turnD { nx := fun σ' s' => WS H (tRet (tOp rEq (tVar 1) (tC (V.int 0)))) σ' s' (retV (.bl (isR r))), rt := (retV (.bl (isR r))).rt, bk := (retV (.bl (isR r))).bk, ct := (retV (.bl (isR r))).ct } fun σ s => ∃ b, σ = [some (.str (T r)), some (.int (hgt (r.take (i + 1)))), b] ∧ s = ⟨[], []⟩ ∧ ∀ j, j ≤ i + 1 → 0 ≤ hgt (r.take j))) ∧
        (decide (z < 0) = false → WS H tNext [some (.str (T r)), some (.int z), some (.str (T [b]))] ⟨[], []⟩ (turnD { nx := fun σ' s' => WS H (tRet (tOp rEq (tVar 1) (tC (V.int 0)))) σ' s' (retV (.bl (isR r))), rt := (retV (.bl (isR r))).rt, bk := (retV (.bl (isR r))).bk, ct := (retV (.bl (isR r))).ct } fun σ s => ∃ b, σ = [some (.str (T r)), some (.int (hgt (r.take (i + 1)))), b] ∧ s = ⟨[], []⟩ ∧ ∀ j, j ≤ i + 1 → 0 ≤ hgt (r.take j))) := by
      rintro z rfl
      refine ⟨fun hc => ?_, fun hc => ?_⟩
      · walk_at "bm"
        show V.bl false = V.bl (isR r)
        rw [isR_bad (i := i + 1) (by omega) (of_decide_eq_true hc)]
      · walk_at "bm"
        refine ⟨_, Sub.refl _, _, rfl, rfl, fun j hj => ?_⟩
        rcases Nat.lt_succ_iff_lt_or_eq.mp (Nat.lt_succ_of_le hj) with h1 | h1
        · exact hn j (by omega)
        · rw [h1]
          have := of_decide_eq_false hc
          omega
    walk_at "bm"
    cases b
    · refine ⟨fun hc => absurd hc (by decide), fun hc => ?_⟩
      walk_at "bm"
      exact fin _ (by rw [e]; simp [sg]; omega)
    · refine ⟨fun hc => ?_, fun hc => absurd hc (by decide)⟩
      walk_at "bm"
      exact fin _ (by rw [e]; simp [sg])
  · rintro σ s ⟨b0, rfl, rfl, hn⟩
    walk_at "bm"
    rw [List.take_length]
    show V.bl _ = V.bl _
    congr 1
    unfold isR
    have : ((dps r).all fun z => decide (0 ≤ z)) = true := by
      rw [List.all_eq_true]
      intro z hz
      obtain ⟨j, hj, rfl⟩ := mem_dps.mp hz
      exact decide_eq_true (hn j hj)
    rw [this, Bool.and_true]
theorem c__law_good {K : PySem.W.Frag} {C : CA} {H0 : Hp} {s : Ld} {Q : V → Ld → Prop} {E : XK} {r : List Bool} (hl : r.length ≤ 1000) (q : Q (.bl (isR r)) s) : WC H0 (sp__law_good K C) E [.str (T r)] s Q := wc_V (fun H o => ⟨r, rfl, hl, rfl⟩) q
local macro_rules | `(tactic| walk_at "b0") => `(tactic| ((with_reducible refine' c__law_good ?hl ?_); (case hl => walk_at "len")))
end BM
namespace BM
open PySem L2 Evl
local macro_rules | `(tactic| walk_at "mem") => `(tactic| first | exact List.mem_cons_self | (refine List.mem_cons_of_mem _ ?_; walk_at "mem"))
local macro_rules | `(tactic| walk_at "swap") => `(tactic| first | exact Swap.here | (refine Swap.there ?_; walk_at "swap"))
local macro_rules | `(tactic| walk_at "subl") => `(tactic| first | exact List.Sublist.refl _ | exact List.nil_sublist _ | (refine List.Sublist.cons_cons _ ?_; walk_at "subl") | (refine List.Sublist.cons _ ?_; walk_at "subl"))
local macro_rules | `(tactic| walk_at "sub") => `(tactic| first | exact Sub.refl _ | (refine ⟨?_, ?_⟩ <;> walk_at "subl"))
local macro_rules | `(tactic| walk_at "isl") => `(tactic| first | exact isL_own (by walk_at "mem") | exact isL_old (by assumption) | assumption)
local macro_rules | `(tactic| walk_at "ist") => `(tactic| first | exact isT_own (by walk_at "mem") | exact isT_old (by assumption) | assumption)
local macro_rules | `(tactic| walk_at "len") => `(tactic| first | omega | decide | (simp only [List.length_map, List.length_take, List.length_drop, List.length_append, List.length_cons, List.length_nil, List.length_reverse, dps_len, flp_len]; omega) | (simp [dps_len, flp_len]; omega) | simp)
local macro_rules | `(tactic| walk_at "b0") => `(tactic| first
  | with_reducible refine' ws_set ?_
  | with_reducible refine' ws_par ?_
  | with_reducible refine' ws_asg ?_
  | with_reducible refine' ws_drop ?_
  | with_reducible refine' ws_ret ?_
  | with_reducible refine' ws_if ?_
  | with_reducible refine' ws_next ?_
  | with_reducible refine' ws_brk ?_
  | with_reducible refine' ws_cont ?_
  | ((with_reducible refine' we_var ?hv ?_); case hv => rfl)
  | with_reducible refine' we_c ?_
  | with_reducible refine' we_op ?_
  | with_reducible refine' we_un ?_
  | with_reducible refine' we_if ?_
  | with_reducible refine' we_and ?_
  | with_reducible refine' we_or ?_
  | with_reducible refine' we_not ?_
  | with_reducible refine' wa_nil ?_
  | with_reducible refine' wa_cons ?_
  | (with_reducible refine' we_lst ?_)
  | (with_reducible refine' we_tup ?_)
  | with_reducible refine' we_cb ?_
  | with_reducible refine' we_call0 ?_
  | with_reducible refine' we_sl ?_
  | with_reducible refine' wo_none ?_
  | (with_reducible refine' wo_some ?_)
  | with_reducible refine' wt_test ?_
  | with_reducible refine' wt_B ?_
  | with_reducible refine' wt_and ?_
  | with_reducible refine' wt_or ?_
  | with_reducible refine' wt_not ?_
  | with_reducible refine' wt_yes ?_
  | with_reducible refine' we_chain ?_
  | with_reducible refine' we_chain3 ?_
  | with_reducible refine' we_revT ?_
  | with_reducible refine' we_revL ?_
  | with_reducible refine' we_bm ?_
  | with_reducible refine' we_bm0 ?_
  | with_reducible refine' ws_for ?_
  | with_reducible refine' we_lc ?_
  | with_reducible refine' wi_list ?_
  | with_reducible refine' wi_tup ?_
  | with_reducible refine' wi_T ?_
  | with_reducible refine' wi_rng1 ?_
  | with_reducible refine' wi_rng2 ?_
  | with_reducible refine' wi_rng3 ?_
  | with_reducible refine' wi_enum ?_
  | with_reducible refine' wi_enumT ?_
  | with_reducible refine' wi_zip ?_
  | with_reducible refine' wg_name ?_
  | with_reducible refine' wg_sub ?_
  | with_reducible refine' wgs_nil ?_
  | with_reducible refine' wgs_cons ?_
  | ((with_reducible refine' wg_tup ?ht ?hn ?_); (case ht => walk_at "ist"); (case hn => rfl))
  | with_reducible refine' w2_add ?_
  | with_reducible refine' w2_sub ?_
  | with_reducible refine' w2_lt ?_
  | with_reducible refine' w2_le ?_
  | with_reducible refine' w2_gt ?_
  | with_reducible refine' w2_ge ?_
  | with_reducible refine' w2_eqI ?_
  | with_reducible refine' w2_neI ?_
  | with_reducible refine' w2_eqT ?_
  | with_reducible refine' w2_neT ?_
  | with_reducible refine' w2_eqB ?_
  | with_reducible refine' w2_neB ?_
  | with_reducible refine' w2_isN ?_
  | with_reducible refine' w2_notN ?_
  | with_reducible refine' w2_isB ?_
  | with_reducible refine' w2_inT ?_
  | with_reducible refine' w1_neg ?_
  | with_reducible refine' wl_abs ?_
  | with_reducible refine' wl_max2 ?_
  | with_reducible refine' wl_min2 ?_
  | with_reducible refine' wl_intB ?_
  | ((with_reducible refine' w2_div ?h ?_); case h => first | omega | (constructor <;> omega))
  | ((with_reducible refine' w2_mod ?h ?_); case h => omega)
  | ((with_reducible refine' w2_catT ?h ?_); case h => walk_at "len")
  | ((with_reducible refine' wsl_T ?h ?_); case h => walk_at "len")
  | ((with_reducible refine' wl_lenT ?h ?_); case h => walk_at "len")
  | ((with_reducible refine' wl_len ?h ?_); case h => walk_at "isl")
  | ((with_reducible refine' wl_len ?h ?_); case h => walk_at "isl")
  | ((with_reducible refine' wm_append ?sw ?hl ?_); (case sw => walk_at "swap"); (case hl => walk_at "len")))
local macro_rules | `(tactic| walk_at "b1") => `(tactic| first | with_reducible refine' ws_seq ?_ | walk_at "b0")
local macro_rules | `(tactic| walk_at "bx") => `(tactic| first
  | refine ⟨_, rfl, ?_⟩
  | refine ⟨_, _, rfl, ?_⟩
  | refine ⟨ty_L (by walk_at "isl"), ?_⟩
  | refine ⟨ty_S, ?_⟩
  | refine spl_t (by rfl) ?_
  | refine spl_f (by rfl) ?_
  | exact rfl)
local macro_rules | `(tactic| walk_at "bm") => `(tactic| repeat (first | walk_at "b1" | walk_at "bx"))
local macro_rules | `(tactic| walk_at "bn") => `(tactic| repeat (first | walk_at "b0" | walk_at "bx"))
local macro_rules | `(tactic| walk_at "b0") => `(tactic| with_reducible refine' c_deepens ?_)
local macro_rules | `(tactic| walk_at "b0") => `(tactic| ((with_reducible refine' c_depths_of ?hl ?_); (case hl => walk_at "len")))
local macro_rules | `(tactic| walk_at "b0") => `(tactic| with_reducible refine' c_is_wholeI ?_)
local macro_rules | `(tactic| walk_at "b0") => `(tactic| with_reducible refine' c_flipped ?_)
local macro_rules | `(tactic| walk_at "b0") => `(tactic| ((with_reducible refine' c_is_right_row ?hl ?_); (case hl => walk_at "len")))
local macro_rules | `(tactic| walk_at "b0") => `(tactic| ((with_reducible refine' c_asked_row ?hl ?_); (case hl => walk_at "len")))
local macro_rules | `(tactic| walk_at "b0") => `(tactic| ((with_reducible refine' c_depths ?hl ?_); (case hl => walk_at "len")))
local macro_rules | `(tactic| walk_at "b0") => `(tactic| ((with_reducible refine' c_is_right ?hl ?_); (case hl => walk_at "len")))
local macro_rules | `(tactic| walk_at "b0") => `(tactic| ((with_reducible refine' c__law_depths ?hl ?_); (case hl => walk_at "len")))
local macro_rules | `(tactic| walk_at "b0") => `(tactic| ((with_reducible refine' c__law_good ?hl ?_); (case hl => walk_at "len")))
theorem mapset {α β : Type} (f : α → β) (l : List α) (j : Nat) (a : α) : (l.map f).set j (f a) = (l.set j a).map f := by rw [List.map_set]
theorem ixN_of {n : Nat} {i : Int} (h0 : 0 ≤ i) (h1 : i < n) : ixN n i = some i.toNat := by
  unfold ixN
  rw [if_pos h0, if_pos h1]
end BM
namespace BM
open PySem L2 Evl
local macro_rules | `(tactic| walk_at "mem") => `(tactic| first | exact List.mem_cons_self | (refine List.mem_cons_of_mem _ ?_; walk_at "mem"))
local macro_rules | `(tactic| walk_at "swap") => `(tactic| first | exact Swap.here | (refine Swap.there ?_; walk_at "swap"))
local macro_rules | `(tactic| walk_at "subl") => `(tactic| first | exact List.Sublist.refl _ | exact List.nil_sublist _ | (refine List.Sublist.cons_cons _ ?_; walk_at "subl") | (refine List.Sublist.cons _ ?_; walk_at "subl"))
local macro_rules | `(tactic| walk_at "sub") => `(tactic| first | exact Sub.refl _ | (refine ⟨?_, ?_⟩ <;> walk_at "subl"))
local macro_rules | `(tactic| walk_at "isl") => `(tactic| first | exact isL_own (by walk_at "mem") | exact isL_old (by assumption) | assumption)
local macro_rules | `(tactic| walk_at "ist") => `(tactic| first | exact isT_own (by walk_at "mem") | exact isT_old (by assumption) | assumption)
local macro_rules | `(tactic| walk_at "len") => `(tactic| first | omega | decide | (simp only [List.length_map, List.length_take, List.length_drop, List.length_append, List.length_cons, List.length_nil, List.length_reverse, dps_len, flp_len]; omega) | (simp [dps_len, flp_len]; omega) | simp)
local macro_rules | `(tactic| walk_at "b0") => `(tactic| first
  | with_reducible refine' ws_set ?_
  | with_reducible refine' ws_par ?_
  | with_reducible refine' ws_asg ?_
  | with_reducible refine' ws_drop ?_
  | with_reducible refine' ws_ret ?_
  | with_reducible refine' ws_if ?_
  | with_reducible refine' ws_next ?_
  | with_reducible refine' ws_brk ?_
  | with_reducible refine' ws_cont ?_
  | ((with_reducible refine' we_var ?hv ?_); case hv => rfl)
  | with_reducible refine' we_c ?_
  | with_reducible refine' we_op ?_
  | with_reducible refine' we_un ?_
  | with_reducible refine' we_if ?_
  | with_reducible refine' we_and ?_
  | with_reducible refine' we_or ?_
  | with_reducible refine' we_not ?_
  | with_reducible refine' wa_nil ?_
  | with_reducible refine' wa_cons ?_
  | (with_reducible refine' we_lst ?_)
  | (with_reducible refine' we_tup ?_)
  | with_reducible refine' we_cb ?_
  | with_reducible refine' we_call0 ?_
  | with_reducible refine' we_sl ?_
  | with_reducible refine' wo_none ?_
  | (with_reducible refine' wo_some ?_)
  | with_reducible refine' wt_test ?_
  | with_reducible refine' wt_B ?_
  | with_reducible refine' wt_and ?_
  | with_reducible refine' wt_or ?_
  | with_reducible refine' wt_not ?_
  | with_reducible refine' wt_yes ?_
  | with_reducible refine' we_chain ?_
  | with_reducible refine' we_chain3 ?_
  | with_reducible refine' we_revT ?_
  | with_reducible refine' we_revL ?_
  | with_reducible refine' we_bm ?_
  | with_reducible refine' we_bm0 ?_
  | with_reducible refine' ws_for ?_
  | with_reducible refine' we_lc ?_
  | with_reducible refine' wi_list ?_
  | with_reducible refine' wi_tup ?_
  | with_reducible refine' wi_T ?_
  | with_reducible refine' wi_rng1 ?_
  | with_reducible refine' wi_rng2 ?_
  | with_reducible refine' wi_rng3 ?_
  | with_reducible refine' wi_enum ?_
  | with_reducible refine' wi_enumT ?_
  | with_reducible refine' wi_zip ?_
  | with_reducible refine' wg_name ?_
  | with_reducible refine' wg_sub ?_
  | with_reducible refine' wgs_nil ?_
  | with_reducible refine' wgs_cons ?_
  | ((with_reducible refine' wg_tup ?ht ?hn ?_); (case ht => walk_at "ist"); (case hn => rfl))
  | with_reducible refine' w2_add ?_
  | with_reducible refine' w2_sub ?_
  | with_reducible refine' w2_lt ?_
  | with_reducible refine' w2_le ?_
  | with_reducible refine' w2_gt ?_
  | with_reducible refine' w2_ge ?_
  | with_reducible refine' w2_eqI ?_
  | with_reducible refine' w2_neI ?_
  | with_reducible refine' w2_eqT ?_
  | with_reducible refine' w2_neT ?_
  | with_reducible refine' w2_eqB ?_
  | with_reducible refine' w2_neB ?_
  | with_reducible refine' w2_isN ?_
  | with_reducible refine' w2_notN ?_
  | with_reducible refine' w2_isB ?_
  | with_reducible refine' w2_inT ?_
  | with_reducible refine' w1_neg ?_
  | with_reducible refine' wl_abs ?_
  | with_reducible refine' wl_max2 ?_
  | with_reducible refine' wl_min2 ?_
  | with_reducible refine' wl_intB ?_
  | ((with_reducible refine' w2_div ?h ?_); case h => first | omega | (constructor <;> omega))
  | ((with_reducible refine' w2_mod ?h ?_); case h => omega)
  | ((with_reducible refine' w2_catT ?h ?_); case h => walk_at "len")
  | ((with_reducible refine' wsl_T ?h ?_); case h => walk_at "len")
  | ((with_reducible refine' wl_lenT ?h ?_); case h => walk_at "len")
  | ((with_reducible refine' wl_len ?h ?_); case h => walk_at "isl")
  | ((with_reducible refine' wl_len ?h ?_); case h => walk_at "isl")
  | ((with_reducible refine' wm_append ?sw ?hl ?_); (case sw => walk_at "swap"); (case hl => walk_at "len")))
local macro_rules | `(tactic| walk_at "b1") => `(tactic| first | with_reducible refine' ws_seq ?_ | walk_at "b0")
local macro_rules | `(tactic| walk_at "bx") => `(tactic| first
  | refine ⟨_, rfl, ?_⟩
  | refine ⟨_, _, rfl, ?_⟩
  | refine ⟨ty_L (by walk_at "isl"), ?_⟩
  | refine ⟨ty_S, ?_⟩
  | refine spl_t (by rfl) ?_
  | refine spl_f (by rfl) ?_
  | exact rfl)
local macro_rules | `(tactic| walk_at "bm") => `(tactic| repeat (first | walk_at "b1" | walk_at "bx"))
local macro_rules | `(tactic| walk_at "bn") => `(tactic| repeat (first | walk_at "b0" | walk_at "bx"))
local macro_rules | `(tactic| walk_at "b0") => `(tactic| with_reducible refine' c_deepens ?_)
local macro_rules | `(tactic| walk_at "b0") => `(tactic| ((with_reducible refine' c_depths_of ?hl ?_); (case hl => walk_at "len")))
local macro_rules | `(tactic| walk_at "b0") => `(tactic| with_reducible refine' c_is_wholeI ?_)
local macro_rules | `(tactic| walk_at "b0") => `(tactic| with_reducible refine' c_flipped ?_)
local macro_rules | `(tactic| walk_at "b0") => `(tactic| ((with_reducible refine' c_is_right_row ?hl ?_); (case hl => walk_at "len")))
local macro_rules | `(tactic| walk_at "b0") => `(tactic| ((with_reducible refine' c_asked_row ?hl ?_); (case hl => walk_at "len")))
local macro_rules | `(tactic| walk_at "b0") => `(tactic| ((with_reducible refine' c_depths ?hl ?_); (case hl => walk_at "len")))
local macro_rules | `(tactic| walk_at "b0") => `(tactic| ((with_reducible refine' c_is_right ?hl ?_); (case hl => walk_at "len")))
local macro_rules | `(tactic| walk_at "b0") => `(tactic| ((with_reducible refine' c__law_depths ?hl ?_); (case hl => walk_at "len")))
local macro_rules | `(tactic| walk_at "b0") => `(tactic| ((with_reducible refine' c__law_good ?hl ?_); (case hl => walk_at "len")))
theorem ln__law_row {K : PySem.W.Frag} {C : CA} {vs : List V} {H : Hp} {Q : VK} {E : XK} (h : sp__law_row K C vs H Q E) : vs.length = 4 := by
  obtain ⟨⟨a, ns, k, m, e, rfl, _⟩, _⟩ := h
  rfl
abbrev ch (b : Bool) : V := .str (T [b])
theorem flat_ch (r : List Bool) : (r.map ch).all flatV = true := by
  rw [List.all_map, List.all_eq_true]
  intro x _
  rfl
theorem count_ch (r : List Bool) (b : Bool) : (r.map ch).countP (fun z => eqV z (ch b)) = r.count b := by
  rw [List.countP_map]
  unfold List.count
  apply List.countP_congr
  intro c _
  show (T [c] == T [b]) = true ↔ (c == b) = true
  simp only [beq_iff_eq, T_eq, List.cons.injEq, and_true]
theorem atI_small {z : Int} (h : z = 0 ∨ z = 1) : ∃ b, atI [true, false] z = some b := by
  rcases h with rfl | rfl
  · exact ⟨true, rfl⟩
  · exact ⟨false, rfl⟩
theorem five_at {w a b c d e : Int} (ha : a = 0 ∨ a = 1) (hb : b = 0 ∨ b = 1) (hc : c = 0 ∨ c = 1) (hd : d = 0 ∨ d = 1) (he : e = 0 ∨ e = 1) : ∃ z : Int, (z = 0 ∨ z = 1) ∧ atI [V.int a, .int b, .int c, .int d, .int e] (w % 5) = some (.int z) := by
  have h : w % 5 = 0 ∨ w % 5 = 1 ∨ w % 5 = 2 ∨ w % 5 = 3 ∨ w % 5 = 4 := by omega
  rcases h with h | h | h | h | h <;> rw [h]
  · exact ⟨a, ha, rfl⟩
  · exact ⟨b, hb, rfl⟩
  · exact ⟨c, hc, rfl⟩
  · exact ⟨d, hd, rfl⟩
  · exact ⟨e, he, rfl⟩
theorem int01 {p : Prop} [Decidable p] : ((if decide p = true then (1 : Int) else 0) = 0) ∨ ((if decide p = true then (1 : Int) else 0) = 1) := by
  by_cases h : p
  · exact .inr (by simp [h])
  · exact .inl (by simp [h])
/-- where the row's making stands -/
def LRow (a p q : Addr) (k m wd W : Int) (e : Bool) (cs : List Int) (P : List Bool → Option V → Prop) (σ : L2.St) (s : Ld) : Prop :=
  ∃ (x6 x8 x10 x11 x12 x13 x14 : Option V) (r : List Bool), σ = [some (.ref a), some (.int k), some (.int m), some (.bl e), some (.ref p), some (.int wd), x6, some (.ref q), x8, some (.int W), x10, x11, x12, x13, x14] ∧ s = ⟨[(q, .lst (r.map ch)), (p, .lst (cs.map V.int))], []⟩ ∧ P r x8
theorem pu__law_row {K : PySem.W.Frag} {C : CA} {vs : List V} {H : Hp} {Q : VK} {E : XK} (h : sp__law_row K C vs H Q E) : rd__law_row K C { nx := fun _ H' => Q .non H', rt := Q } (start N__law_row vs) H := by
  obtain ⟨⟨a, ns, k, m, e, rfl, hs, hns, hk0, hk1, hm0, hm1⟩, kk⟩ := h
  refine body_P (P := fun v => ∃ r : List Bool, v = .str (T r) ∧ (r.length : Int) ≤ m ∧ (e = true → hgt r = 0)) ?_ (fun v H' ⟨r, h1, h2, h3⟩ x => kk v H' ⟨a, k, m, e, r, rfl, h1, h2, h3⟩ x)
  unfold rd__law_row
  refine ws_cut (fun σ s => ∃ (p : Addr) (cs : List Int), σ = [some (.ref a), some (.int k), some (.int m), some (.bl e), some (.ref p), none, none, none, none, none, none, none, none, none, none] ∧ s = ⟨[(p, .lst (cs.map V.int))], []⟩ ∧ 0 < cs.length ∧ cs.length ≤ 63) ?_ ?_
  · walk_at "bm"
    refine ⟨by decide, fun p0 hp0 => ?_⟩
    refine w2_neLI (ns := ns) (ms := []) (isL_old hs) (by walk_at "isl") ?_
    walk_at "bm"
    refine ⟨fun hc => ?_, fun hc => ?_⟩
    · walk_at "bm"
      refine wsl_L (isL_old hs) fun p hp => ?_
      refine ⟨⟨[(p, .lst (ns.map V.int))], []⟩, ?_, p, ns, rfl, rfl, ?_, hns⟩
      · rw [cut_hi (by omega), List.take_of_length_le (by rw [List.length_map]; omega)]
        walk_at "sub"
      · cases ns with
        | nil => simp at hc
        | cons x y => simp
    · walk_at "bm"
      refine ⟨by decide, fun p hp => ?_⟩
      exact ⟨⟨[(p, .lst ([5].map V.int))], []⟩, by walk_at "sub", p, [5], rfl, rfl, by decide, by decide⟩
  · rintro σ s ⟨p, cs, rfl, rfl, hc0, hc1⟩
    have hcl : (cs.map V.int).length = cs.length := List.length_map ..
    walk_at "bm"
    refine wl_sum (by walk_at "isl") ?_
    walk_at "bm"
    refine w2_mul (cmul_l (by decide) (by decide)) ?_
    walk_at "bm"
    refine ⟨by decide, fun q hq => ?_⟩
    walk_at "bn"
    obtain ⟨W, hW, hW0⟩ : ∃ W : Int, (if cs.sum < 0 then -cs.sum else cs.sum) + 7 * k = W ∧ 0 ≤ W := ⟨_, rfl, by split <;> omega⟩
    rw [hW]
    refine ws_seq ?_
    walk_at "bn"
    obtain ⟨wd, hwd, hwd0⟩ : ∃ wd : Int, 1 + W / 5 % 6 = wd ∧ 1 ≤ wd ∧ wd ≤ 6 := ⟨_, rfl, by omega⟩
    rw [hwd]
    refine ws_cut (LRow a p q k m wd W e cs fun r _ => (r.length : Int) ≤ m) ?_ ?_
    · have hb1 : W / 30 % (m + 1) < m + 1 := Int.emod_lt_of_pos _ (by omega)
      have hb0 : 0 ≤ W / 30 % (m + 1) := Int.emod_nonneg _ (by omega)
      walk_at "bm"
      refine ⟨by omega, ?_⟩
      refine lp_rng (fun i => LRow a p q k m wd W e cs fun r _ => r.length = i) ⟨none, none, none, none, none, none, none, [], rfl, rfl, rfl⟩ ?_ ?_
      · rintro i σ s hi ⟨x6, x8, x10, x11, x12, x13, x14, r, rfl, rfl, hr⟩
        have hiz : (i : Int) ≤ 40 := by omega
        refine wg_name ?_
        refine ws_seq ?_
        walk_at "bn"
        obtain ⟨sp, hsp, hsp0, hsp1⟩ : ∃ sp : Int, (0 + (i : Int)) / wd = sp ∧ 0 ≤ sp ∧ sp ≤ 40 := ⟨_, rfl, Int.ediv_nonneg (by omega) (by omega), by
          have := Int.ediv_le_self (a := (0 + (i : Int))) wd (by omega)
          omega⟩
        rw [hsp]
        walk_at "bm"
        have hm1' := Int.emod_nonneg (sp + k) (b := ((cs.map V.int).length : Int)) (by omega)
        have hm2' := Int.emod_lt_of_pos (sp + k) (b := ((cs.map V.int).length : Int)) (by omega)
        obtain ⟨z, hz⟩ := get_some (r := cs) (i := ((sp + k) % ((cs.map V.int).length : Int)).toNat) (by omega)
        refine w2_ixL (v := .int z) (by walk_at "isl") (atI_of hm1' (by rw [List.getElem?_map, hz]; rfl)) ?_
        walk_at "bm"
        refine c__law_number (by omega) fun n => ?_
        walk_at "bn"
        generalize hnh : (if n < 0 then -n else n) / 3 = nh
        refine ws_seq (ws_set (we_cb (wa_cons (we_or_val (b1 := decide (0 < nh % 3)) (b2 := decide ((0 + (i : Int)) % 2 = 0)) (fun Q q => by walk_at "bm"; exact q) (fun Q q => by walk_at "bm"; exact q) ?_))))
        walk_at "bn"
        obtain ⟨mx, hmx, hmx01⟩ : ∃ mx : Int, (if (decide (0 < nh % 3) || decide ((0 + (i : Int)) % 2 = 0)) = true then (1 : Int) else 0) = mx ∧ (mx = 0 ∨ mx = 1) := ⟨_, rfl, by split <;> simp⟩
        rw [hmx]
        walk_at "bm"
        refine ⟨by simp, fun tt htt => ?_⟩
        walk_at "bm"
        obtain ⟨y, hy, hat⟩ := five_at (w := W) (a := nh % 2) (b := (0 + (i : Int)) % 2) (c := 1 - (0 + (i : Int)) % 2) (d := mx) (e := if decide (sp % 2 = 0) = true then 1 else 0) (by omega) (by omega) (by omega) hmx01 int01
        refine w2_ixU (v := .int y) (by walk_at "ist") hat ?_
        obtain ⟨b, hb⟩ := atI_small hy
        refine w2_ixT (b := b) (by simp) hb ?_
        walk_at "bm"
        refine ⟨⟨[(q, .lst (r.map ch ++ [ch b])), (p, .lst (cs.map V.int))], []⟩, by walk_at "sub", some (.int (0 + (i : Int))), x8, some (.int sp), some (.int (z + sp / ((cs.map V.int).length : Int))), some (.int nh), some (.int mx), some (.ref tt), r ++ [b], rfl, ?_, by simp [hr]⟩
        rw [List.map_append]
        rfl
      · rintro σ s ⟨x6, x8, x10, x11, x12, x13, x14, r, rfl, rfl, hr⟩
        exact ⟨_, Sub.refl _, x6, x8, x10, x11, x12, x13, x14, r, rfl, rfl, by omega⟩
    · rintro σ s ⟨x6, x8, x10, x11, x12, x13, x14, r, rfl, rfl, hr⟩
      refine ws_cut (fun σ s => ∃ (q : Addr), LRow a p q k m wd W e cs (fun r _ => (r.length : Int) ≤ m ∧ (e = true → r.length % 2 = 0)) σ s) ?_ ?_
      · walk_at "bm"
        refine ⟨fun he => ?_, fun he => ?_⟩
        · walk_at "bm"
          refine w2_mul (cmul_r (by decide) (by decide)) ?_
          walk_at "bm"
          refine wsl_L (by walk_at "isl") fun q2 hq2 => ?_
          refine ⟨⟨[(q2, .lst ((r.take (r.length / 2 * 2)).map ch)), (p, .lst (cs.map V.int))], []⟩, ?_, q2, x6, x8, x10, x11, x12, x13, x14, r.take (r.length / 2 * 2), rfl, rfl, by simp; omega, fun _ => by simp; omega⟩
          rw [cut_hi (by omega), List.length_map, show ((r.length : Int) / 2 * 2).toNat = r.length / 2 * 2 by omega, List.map_take]
          walk_at "sub"
        · walk_at "bm"
          exact ⟨_, Sub.refl _, q, x6, x8, x10, x11, x12, x13, x14, r, rfl, rfl, hr, fun h => by rw [he] at h; cases h⟩
      · rintro σ s ⟨q, x6, x8, x10, x11, x12, x13, x14, r, rfl, rfl, hr, hev⟩
        have hrl : (r.map ch).length = r.length := List.length_map ..
        walk_at "bm"
        refine wm_count (by walk_at "isl") rfl (flat_ch r) ?_
        walk_at "bm"
        refine wm_count (by walk_at "isl") rfl (flat_ch r) ?_
        rw [count_ch r true, count_ch r false]
        refine w2_sub ?_
        rw [← hgt_count]
        walk_at "bm"
        refine ⟨by omega, ?_⟩
        refine lp_rng (fun i => LRow a p q k m wd W e cs fun r' x8 => r'.length = r.length ∧ (if e = true then ∃ mo, x8 = some (.int mo) ∧ EvenUp W r.length i r' mo else ∃ mo, x8 = some (.int mo))) ⟨x6, some (.int (hgt r)), x10, x11, x12, x13, x14, r, rfl, rfl, rfl, ?_⟩ ?_ ?_
        · cases e with
          | true => exact ⟨_, rfl, EvenUp.start (hev rfl)⟩
          | false => exact ⟨_, rfl⟩
        · rintro i σ s hi ⟨x6, x8, x10, x11, x12, x13, x14, r', rfl, rfl, hr', hx⟩
          rw [hrl] at hi
          have hrl' : (r'.map ch).length = r'.length := List.length_map ..
          obtain ⟨mo, rfl⟩ : ∃ mo, x8 = some (.int mo) := by
            cases e with
            | true => obtain ⟨mo, h, _⟩ := hx; exact ⟨mo, h⟩
            | false => exact hx
          walk_at "bm"
          have hm1' := Int.emod_nonneg (0 + (i : Int) + W) (b := ((r'.map ch).length : Int)) (by omega)
          have hm2' := Int.emod_lt_of_pos (0 + (i : Int) + W) (b := ((r'.map ch).length : Int)) (by omega)
          have hsp : (0 + (i : Int) + W) % ((r'.map ch).length : Int) = ((i : Int) + W) % (r.length : Int) := by
            rw [hrl', hr', show (0 + (i : Int) + W) = (i : Int) + W by omega]
          obtain ⟨y, hy⟩ := get_some (r := r') (i := ((0 + (i : Int) + W) % ((r'.map ch).length : Int)).toNat) (by omega)
          have hy2 : r'[(((i : Int) + W) % (r.length : Int)).toNat]? = some y := by rw [← hsp]; exact hy
          cases e with
          | false =>
            walk_at "bm"
            exact ⟨_, Sub.refl _, _, _, _, x11, x12, x13, x14, r', rfl, rfl, hr', mo, rfl⟩
          | true =>
            obtain ⟨mo', hmo, EU⟩ := hx
            cases hmo
            walk_at "bm"
            refine ⟨fun hne => ?_, fun hne => ?_⟩
            · have hne' : mo ≠ 0 := by simpa using hne
              walk_at "bm"
              refine w2_ixL (v := ch y) (by walk_at "isl") (atI_of hm1' (by rw [List.getElem?_map, hy]; rfl)) ?_
              walk_at "bm"
              have hd : atI [true, false] (if decide (mo < 0) = true then 1 else 0) = some (decide (0 < mo)) := by
                by_cases h : mo < 0
                · simp [h, show ¬ 0 < mo by omega]
                  rfl
                · simp [h, show 0 < mo by omega]
                  rfl
              refine w2_ixT (b := decide (0 < mo)) (by simp) hd ?_
              walk_at "bm"
              refine ⟨fun hyc => ?_, fun hyc => ?_⟩
              · have hya : y = decide (0 < mo) := by simpa using hyc
                have EU2 := EU.turn hne' hy2 hya
                walk_at "bm"
                have hd2 : atI [true, false] (if decide (0 < mo) = true then 1 else 0) = some (!y) := by
                  rw [hya]
                  by_cases h : 0 < mo
                  · simp [h]
                    rfl
                  · simp [h]
                    rfl
                refine w2_ixT (b := !y) (by simp) hd2 ?_
                walk_at "bm"
                refine wset_list (xs := r'.map ch) (j := ((0 + (i : Int) + W) % ((r'.map ch).length : Int)).toNat) (ixN_of hm1' hm2') (by walk_at "swap") ?_
                walk_at "bm"
                have fin : ∀ mo2, mo2 = (if 0 < mo then mo - 2 else mo + 2) → ∃ s0, Sub s0 ⟨[(q, HO.lst ((r'.map ch).set ((0 + (i : Int) + W) % ((r'.map ch).length : Int)).toNat (ch (!y)))), (p, .lst (cs.map V.int))], []⟩ ∧ LRow a p q k m wd W true cs (fun r' x8 => r'.length = r.length ∧ (if true = true then ∃ mo, x8 = some (.int mo) ∧ EvenUp W r.length (i + 1) r' mo else ∃ mo, x8 = some (.int mo))) [some (.ref a), some (.int k), some (.int m), some (.bl true), some (.ref p), some (.int wd), some (.int (0 + (i : Int))), some (.ref q), some (.int mo2), some (.int W), some (.int ((0 + (i : Int) + W) % ((r'.map ch).length : Int))), x11, x12, x13, x14] s0 := by
                  rintro mo2 rfl
                  refine ⟨_, Sub.refl _, _, _, _, x11, x12, x13, x14, r'.set (((i : Int) + W) % (r.length : Int)).toNat (!y), rfl, ?_, by rw [List.length_set]; exact hr', _, rfl, EU2⟩
                  rw [mapset ch, hsp]
                refine ⟨fun h => ?_, fun h => ?_⟩
                · walk_at "bm"
                  exact fin _ (by rw [if_pos (of_decide_eq_true h)])
                · walk_at "bm"
                  exact fin _ (by rw [if_neg (of_decide_eq_false h)])
              · have hya : y ≠ decide (0 < mo) := by simpa using hyc
                walk_at "bm"
                exact ⟨_, Sub.refl _, _, _, _, x11, x12, x13, x14, r', rfl, rfl, hr', mo, rfl, EU.stay hy2 fun _ => hya⟩
            · have hne' : mo = 0 := by simpa using hne
              walk_at "bm"
              exact ⟨_, Sub.refl _, _, _, _, x11, x12, x13, x14, r', rfl, rfl, hr', mo, rfl, EU.stay hy2 fun h => absurd hne' h⟩
        · rintro σ s ⟨x6, x8, x10, x11, x12, x13, x14, r', rfl, rfl, hr', hx⟩
          walk_at "bm"
          refine wm_join1 (by walk_at "isl") (by omega) ?_
          refine ⟨r', rfl, by omega, fun he => ?_⟩
          subst he
          obtain ⟨mo, _, EU⟩ := hx
          rw [hrl] at EU
          exact EU.done
theorem c__law_row {K : PySem.W.Frag} {C : CA} {H0 : Hp} {s : Ld} {Q : V → Ld → Prop} {E : XK} {a : Addr} {ns : List Int} {k m : Int} {e : Bool} (hx : IsL K H0 s a (ns.map V.int)) (hn : ns.length ≤ 63) (hk : 0 ≤ k ∧ k ≤ 1000 ∧ 0 ≤ m ∧ m ≤ 40) (q : ∀ r : List Bool, (r.length : Int) ≤ m → (e = true → hgt r = 0) → Q (.str (T r)) s) : WC H0 (sp__law_row K C) E [.ref a, .int k, .int m, .bl e] s Q :=
  wc_P (fun H o => ⟨a, ns, k, m, e, rfl, hx H o, hn, hk.1, hk.2.1, hk.2.2.1, hk.2.2.2⟩) (fun v ⟨a', k', m', e', r, h1, h2, h3, h4⟩ => by
    cases h1
    rw [h2]
    exact q r h3 h4)
end BM
namespace BM
open PySem L2 Evl
/-- a suite that speaks of an error of an own class -/
def tExc (K : PySem.W.Frag) (cls : Value) (d : Option Addr) (t : Addr → TS) : TS := fun D σ H => ∃ D0, cls = .ref D0 ∧ d = none ∧ ExcC K D0 ∧ t D0 D σ H
theorem pss_exc {X : Cx} {sts : List Stmt} {cls : Value} {d : Option Addr} {t : Addr → TS} (h : ∀ D0, cls = .ref D0 → d = none → ExcC X.K D0 → PSs X sts (t D0)) : PSs X sts (tExc X.K cls d t) :=
  ⟨fun pins s σ H D I ⟨D0, e1, e2, hC, q⟩ => (h D0 e1 e2 hC).run pins s σ H D I q⟩
/-- try: .. except c as (slot i): .. -/
def tTry (K : PySem.W.Frag) (c : Value) (i : Nat) (tb : WX → TS) (ts : Addr → Value → Option Addr → TS) : TS := fun D σ H => tb (wAs K c i ts (fun _ _ _ _ => False) D) D σ H
/-- what follows a suite -/
def suiteD (D : Dl) (i : Nat) : Dl := { nx := fun σ s => D.nx (σ.set i none) s, rt := D.rt, bk := fun σ s => D.bk (σ.set i none) s, ct := fun σ s => D.ct (σ.set i none) s }
section
variable {K : PySem.W.Frag} {H0 : Hp} {σ : L2.St} {s : Ld} {ta : TA} {te : TE} {Q : V → Ld → Prop} {D : Dl}
/-- the error caught: its suite -/
def Caught (K : PySem.W.Frag) (H0 : Hp) (c : Value) (i : Nat) (ts : Addr → Value → Option Addr → TS) (σ : L2.St) (D : Dl) (cls : Value) (d : Option Addr) (s : Ld) : Prop :=
  PySem.W.exmOne K cls c = some true ∧ ∀ a, H0 a = none → WS H0 (ts a cls d) (σ.set i (some (.ref a))) s (suiteD D i)
theorem caught_low {c : Value} {i : Nat} {ts : Addr → Value → Option Addr → TS} {cls : Value} {d : Option Addr} {H : Hp} {E : Ends} (h : Caught K H0 c i ts σ D cls d s) (o : Own H0 H s) (l : Low H0 D E) : wAs K c i ts (fun _ _ _ _ => False) E cls d σ H := by
  refine ⟨true, h.1, fun _ a ha => ?_, fun z => nomatch z⟩
  refine h.2 a (fresh_back o.ex ha) H o _ ⟨?_, l.rt, ?_, ?_⟩
  · intro σ' H' s' o' q
    exact l.nx _ H' s' o' q
  · intro σ' H' s' o' q
    exact l.bk _ H' s' o' q
  · intro σ' H' s' o' q
    exact l.ct _ H' s' o' q
/-- the body is one call, its value dropped -/
theorem ws_try_drop {c : Value} {i : Nat} {sp : Sp} {ts : Addr → Value → Option Addr → TS} (h : WA H0 ta σ s fun vs s1 => ∀ H, Own H0 H s1 → ∀ (R : VK) (E : XK), (∀ v H' s', Own H0 H' s' → D.nx σ s' → R v H') → (∀ cls d H' s', Own H0 H' s' → Caught K H0 c i ts σ D cls d s' → E cls d H') → sp vs H R E) :
    WS H0 (tTry K c i (fun W => tDrop (tCallS sp (L2.WE W) ta)) ts) σ s D := fun H o E l =>
  h H o _ fun vs H1 s1 o1 h1 => h1 H1 o1 _ _ (fun v H' s' o' q => l.nx σ H' s' o' q) (fun cls d H' s' o' q => caught_low q o' l)
theorem ws_exc {cls : Value} {d : Option Addr} {t : Addr → TS} {D0 : Addr} (e1 : cls = .ref D0) (e2 : d = none) (hC : ExcC K D0) (h : WS H0 (t D0) σ s D) : WS H0 (tExc K cls d t) σ s D := fun H o E l => ⟨D0, e1, e2, hC, h H o E l⟩
theorem wl_isE {D0 a c : Addr} {b : Bool} (hk : PySem.W.kitOne K (.ref D0) (.ref c) = some b) (q : Q (.bl b) s) : WL H0 (rIsE K D0 a) [.ref a, .ref c] s Q := fun H o R k => ⟨.ref c, .ref c, b, rfl, (fun u h => h), hk, k _ H s o q⟩
end
theorem kit_self (K : PySem.W.Frag) (D : Addr) : PySem.W.kitOne K (.ref D) (.ref D) = some true := by
  unfold PySem.W.kitOne
  rw [if_pos (by simp)]
/-- an own class as it stands -/
structure ClsK (K : PySem.W.Frag) (C : Addr) : Prop where
  hd : PySem.W.hasDictIn K C = true
  ty : PySem.W.typeIn K (.ref C) = some (.type "type")
theorem kitCls_of {K : PySem.W.Frag} {D c : Addr} {b : Bool} (hc : ClsK K c) (h : PySem.W.subIn K (.ref D) (.ref c) = some b) : PySem.W.kitCls K (.ref D) (.ref c) = some b := by
  obtain ⟨cd, e, _⟩ := PySem.W.any_some hc.hd
  unfold PySem.W.kitCls
  have e2 : ((PySem.W.clsIn K c).isSome && PySem.W.typeIn K (.ref c) == some (.type "type")) = true := by rw [e, hc.ty] <;> rfl
  show (if ((PySem.W.clsIn K c).isSome && PySem.W.typeIn K (.ref c) == some (.type "type")) = true then PySem.W.subIn K (.ref D) (.ref c) else none) = some b
  rw [if_pos e2]
  exact h
theorem kit_no {K : PySem.W.Frag} {D c : Addr} (hc : ClsK K c) (h : PySem.W.subIn K (.ref D) (.ref c) = some false) (hs : PySem.W.subIn K (.ref c) (.ref c) = some true) : PySem.W.kitOne K (.ref D) (.ref c) = some false := by
  unfold PySem.W.kitOne
  rw [if_neg]
  · exact kitCls_of hc h
  · intro e
    have e' : (Value.ref D) = Value.ref c := by simpa using e
    cases e'
    rw [h] at hs
    cases hs
theorem kit_yes {K : PySem.W.Frag} {D c : Addr} (hc : ClsK K c) (h : PySem.W.subIn K (.ref D) (.ref c) = some true) : PySem.W.kitOne K (.ref D) (.ref c) = some true := by
  unfold PySem.W.kitOne
  split
  · rfl
  · exact kitCls_of hc h
end BM
namespace BM
open PySem PySem.Spec PyProof.Rows L2
/-! set(l) of a list that may be long, but has few different numbers -/
theorem nodup_few : ∀ {l ms : List Int}, l.Nodup → (∀ x ∈ l, x ∈ ms) → l.length ≤ ms.length
  | [], _, _, _ => Nat.zero_le _
  | a :: l, ms, nd, h => by
    have hm := h a List.mem_cons_self
    have nd' := List.nodup_cons.mp nd
    have h2 : ∀ x ∈ l, x ∈ ms.erase a := fun x hx => (List.mem_erase_of_ne (fun e : x = a => nd'.1 (by rw [← e]; exact hx))).mpr (h x (List.mem_cons_of_mem _ hx))
    have ih := nodup_few nd'.2 h2
    rw [List.length_erase_of_mem hm] at ih
    have : 0 < ms.length := List.length_pos_of_mem hm
    rw [List.length_cons]
    omega
theorem setR_few {w : World} {h : Heap} {a : Addr} {S : Int → Bool} {c : Nat} {ms : List Int} (R : SetR w h a S c) (hS : ∀ z, S z = true → z ∈ ms) : c ≤ ms.length := by
  obtain ⟨_, es, _, _, _, _, _, _, nd, hk, _, _, hn, _⟩ := R
  have := nodup_few nd fun z hz => hS z ((hk z).mpr hz)
  rw [List.length_map, Array.length_toList] at this
  omega
section
variable {P : Program} {w : World} {A : Around}
theorem set_update_few {it : Addr} {foot wrote : List Addr} {Gn : Array GenState → Array GenState → Prop} {m : Nat} {Pw : Nat → Value → Prop} {Sw : Nat → Shared → Prop} {Z : Result → Shared → Prop}
    (Wk : WalksS P w A.in1 it foot wrote Gn m Pw Sw) (at_ : Addr) (out_ : at_ ∉ foot) (ns ms : List Int) (em : m = ns.length) (sub_ : ∀ x ∈ ns, x ∈ ms) (room : ms.length + 1 < scanBound) (isInt : ∀ i v, Pw i v → ∃ z t, ns[i]? = some z ∧ v = .int z t) :
    ∀ (left i : Nat) (u : Shared), m - i = left → i ≤ m → Sw i u → (∃ c, c ≤ i ∧ SetR w u.heap at_ (fun j => decide (j ∈ ns.take i)) c) →
      (∀ u' c, Moved (at_ :: wrote) Gn u u' → c ≤ m → SetR w u'.heap at_ (fun j => decide (j ∈ ns)) c → Z (.ok (.ret .none)) u') →
      codeAny (model P w) A (.builtin "set.update.loop" ⟨[.ref at_, .ref it], []⟩) Z u := by
  have outW : at_ ∉ wrote := fun hx => out_ (Wk.sub _ hx)
  have wsub : ∀ b ∈ wrote, b ∈ at_ :: wrote := fun b hx => List.mem_cons_of_mem _ hx
  intro left
  induction left with
  | zero =>
    rintro i u el hi hst ⟨c, hc, hS⟩ fin
    obtain rfl : i = m := by omega
    refine codeAny_builtin F.entry_set_update_loop ?_
    rw [Around.under_plainId F.plain_set_update_loop _]
    refine wpAny_bind (Wk.done u _ _ hst fun u' mv => ?_)
    have et : ns.take i = ns := List.take_of_length_le (by omega)
    rw [et] at hS
    exact wpAny_pure (fin u' c (mv.mono wsub) hc (hS.at fun o e => mv.heap at_ o outW e))
  | succ left again =>
    rintro i u el hi hst ⟨c, hc, hS⟩ fin
    have more : i < m := by omega
    refine codeAny_builtin F.entry_set_update_loop ?_
    rw [Around.under_plainId F.plain_set_update_loop _]
    refine wpAny_bind (Wk.item i u _ _ more hst fun v u' hP hst' mv => ?_)
    obtain ⟨z, t, hz, rfl⟩ := isInt i v hP
    have hS1 : SetR w u'.heap at_ (fun j => decide (j ∈ ns.take i)) c := hS.at fun o e => mv.heap at_ o outW e
    have hcm : c ≤ ms.length := setR_few hS1 fun y hy => sub_ y (List.mem_of_mem_take (of_decide_eq_true hy))
    refine wpAny_bind (wpAny_holding ?_)
    unfold setAdd
    refine wpAny_holding (wpAny_bind ((intKind P w).pyHash (k := z) (intKind_is _ _ _ _) ?_))
    refine setR_add_hashed (s := { u' with toks := u'.toks + 1 }) hS1 (by omega) fun hp but hS2 => ?_
    have hS3 : SetR w hp at_ (fun j => decide (j ∈ ns.take (i + 1))) (if decide (z ∈ ns.take i) = true then c else c + 1) := hS2.congr fun j => by
      rw [List.take_add_one, hz]
      simp [List.mem_append]
    have hc3 : (if decide (z ∈ ns.take i) = true then c else c + 1) ≤ i + 1 := by
      split <;> omega
    refine wpAny_pure ⟨plainId_quiet F.plain_set_update_loop _, again (i + 1) _ (by omega) more (Wk.frame _ u' _ _ hst' (Nat.le_succ _) fun b hx o e => ?_) ⟨_, hc3, hS3⟩ fun u2 c2 mv2 hc2 hS4 => ?_⟩
    · rw [but.2 b (fun e2 => out_ (e2 ▸ hx))]
      exact e
    · refine fin u2 c2 (Moved.trans Wk.gtrans ((mv.mono wsub).then_heap (Nat.le_succ _) fun b o hx e => ?_) mv2) hc2 hS4
      rw [but.2 b (fun e2 => hx (e2 ▸ List.mem_cons_self))]
      exact e
end
end BM
namespace BM
open PySem PySem.Spec PyProof.Rows L2
section
variable {P : Program} {w : World} {A : Around} {E : Value → Shared → Prop} {s : Shared}
/-- set(l), l a list of ints: what stands in it, and at most how many -/
theorem call_set_lstI {l : Addr} {xs : Array Value} (ns ms : List Int) {Q : Value → Shared → Prop} (hh : A.handled = none) (hl : s.heap.IsList l xs) (hit : IntsAre xs.toList ns) (hms : ∀ x ∈ ns, x ∈ ms) (hb : ms.length + 1 < scanBound)
    (h : ∀ (h2 : Heap) (k c : Nat), SetR w h2 s.heap.objs.size (fun j => decide (j ∈ ns)) c → c ≤ ns.length → (∀ b o, s.heap.get? b = some o → h2.get? b = some o) → Q (.ref s.heap.objs.size) { s with heap := h2, toks := k }) :
    wpAny (model P w) A (call (.type "set") [.ref l]) Q E s := by
  have hzz : xs.size = ns.length := by rw [← Array.length_toList]; exact IntsAre.length hit
  obtain ⟨c, tl, m1⟩ := F.called_set.mro
  have m2 := F.called_set.made
  have m3 := F.called_set.sub
  have m4 := F.called_set.notType
  have m5 := F.called_set.canCreate
  have m6 := F.typeCall_set_1 (.ref l)
  refine wpAny_call (codeAny_of_tree (?_ : wpAny _ _ (callAny (.type "set") _) _ _ _))
  refine wpAny_pure ⟨Code.quiet_builtin _ (by decide +kernel), codeAny_builtin F.entry_type_call (?_ : _)⟩
  rw [(Around.under_plain (weight_type_call_type "set" [.ref l] []) rfl : _)]
  repeat (any_goals (first | assumption | wp_step))
  refine codeAny_mono (code_set_led1 (.ref l) (E := E) (Q₁ := fun ob s1 => ob = .ref s.heap.objs.size ∧ s1 = { s with heap := s.heap.push ({ cls := Value.type "set", dict := none, data := Data.set #[] 0 (.fresh 0 0 (!w.params.followText "set-order")) } : Obj) }) ⟨rfl, rfl⟩) fun r s1 hr => ?_
  cases r with
  | error e => exact hr
  | ok fl =>
    cases fl with
    | ret ob =>
      obtain ⟨rfl, rfl⟩ := hr
      have g1 : (s.heap.push ({ cls := Value.type "set", dict := none, data := Data.set #[] 0 (.fresh 0 0 (!w.params.followText "set-order")) } : Obj)).get? s.heap.objs.size = some ({ cls := Value.type "set", dict := none, data := Data.set #[] 0 (.fresh 0 0 (!w.params.followText "set-order")) } : Obj) := Heap.get?_push_size _ rfl
      have g2 : Shared.TypeIs { s with heap := s.heap.push ({ cls := Value.type "set", dict := none, data := Data.set #[] 0 (.fresh 0 0 (!w.params.followText "set-order")) } : Obj) } (.ref s.heap.objs.size) "set" := ⟨_, g1, rfl⟩
      have m7 := F.called_set.init.lookup
      have m8 := F.called_set.init.bind (.ref s.heap.objs.size)
      repeat (any_goals (first | assumption | wp_step))
      refine codeAny_mono (codeAny_call_builtin (R := wants (fun r s2 => r = .none ∧ ∃ h2 k c, s2 = { s with heap := h2, toks := k } ∧ SetR w h2 s.heap.objs.size (fun j => decide (j ∈ ns)) c ∧ c ≤ ns.length ∧ ∀ b o, s.heap.get? b = some o → h2.get? b = some o) E)
        F.called_set.init.plain F.entry_set_init (check_set_init_1 g2 ?_)) fun r2 s2 hr2 => ?_
      · obtain ⟨⟨oc, od, odt, osl⟩, hol, hc1, nl, hd1⟩ := hl
        simp only at hc1 hd1
        subst hc1 hd1
        have lt : l < s.heap.objs.size := Heap.lt_size hol
        have g3 : (s.heap.push ({ cls := Value.type "set", dict := none, data := Data.set #[] 0 (.fresh 0 0 (!w.params.followText "set-order")) } : Obj)).get? l = some { cls := .type "list", dict := od, data := .seq xs nl, slots := osl } := Heap.get?_push_of_some _ hol
        have m9 := F.sub_list_set
        have m10 := F.sub_list_frozenset
        have m11 : (Value.type "list" == Value.type "dict") = false := by decide
        have g4 : (s.heap.push ({ cls := Value.type "set", dict := none, data := Data.set #[] 0 (.fresh 0 0 (!w.params.followText "set-order")) } : Obj)).IsList l xs := ⟨_, g3, rfl, nl, rfl⟩
        unfold Builtin.«set.__init__» noKeywords Builtin.Frozenset.updateFrom
        generalize hPy : pyIter = PY
        wp_walk
        subst hPy
        refine wpAny_pyIter_list g4 (wpAny_bind (wpAny_runValue ?_))
        have hd : A.in1.in1.in1.handled = none := by simp [hh]
        have n1 : l ≠ (s.heap.push ({ cls := Value.type "set", dict := none, data := Data.set #[] 0 (.fresh 0 0 (!w.params.followText "set-order")) } : Obj)).objs.size := by
          rw [Heap.size_push]
          exact Nat.ne_of_lt (Nat.lt_succ_of_lt lt)
        have n2 : s.heap.objs.size ∉ [(s.heap.push ({ cls := Value.type "set", dict := none, data := Data.set #[] 0 (.fresh 0 0 (!w.params.followText "set-order")) } : Obj)).objs.size, l] := by
          rw [Heap.size_push]
          intro z
          rcases List.mem_cons.mp z with z | z
          · exact Nat.ne_of_lt (Nat.lt_succ_self _) z
          · exact Nat.ne_of_gt lt (List.mem_singleton.mp z)
        have vals : ∀ (i : Nat) (v : Value), xs[i]? = some v → ∃ k t, ns[i]? = some k ∧ v = .int k t := fun i v hv => by
          have lt : i < ns.length := hzz ▸ (Array.getElem?_eq_some_iff.mp hv).1
          obtain ⟨t, e⟩ := IntsAre.int_at hit i v (by rw [Array.getElem?_toList]; exact hv)
          refine ⟨ns[i], t, List.getElem?_eq_getElem lt, e.trans ?_⟩
          rw [List.getD_eq_getElem?_getD, List.getElem?_eq_getElem lt] <;> rfl
        refine set_update_few ((Walks.list hd _ l n1 xs).toS) s.heap.objs.size n2 ns ms hzz hms hb vals (xs.size - 0) 0 _ (by omega) (Nat.zero_le _) ⟨⟨_, Heap.get?_push_size _ rfl, rfl, rfl⟩, g4.push _⟩ ?hz0 ?hzR
        case hz0 => exact ⟨0, Nat.le_refl 0, setR_new_at (Heap.get?_push_of_some _ g1)⟩
        case hzR =>
          intro s3 c3 hm hc3 hS3
          obtain ⟨h4, a4, b4, k4, o4⟩ := s3
          have e1 : a4 = s.gens := hm.gens
          have e2 : b4 = s.drawn := hm.drawn
          have e3 : o4 = s.os := hm.os
          subst e1 e2 e3
          change wpAny _ _ _ _ _ _
          apply wpAny_pure
          change wpAny _ _ (ret Value.none) _ _ _
          refine wpAny_pure ⟨rfl, h4, k4, c3, rfl, hS3, hzz ▸ hc3, fun b o e => ?_⟩
          have lb : b < s.heap.objs.size := Heap.lt_size e
          refine hm.heap b o (fun z => ?_) (Heap.get?_push_of_some _ (Heap.get?_push_of_some _ e))
          rcases List.mem_cons.mp z with z | z
          · exact Nat.ne_of_lt lb z
          · have z1 := List.mem_singleton.mp z
            rw [Heap.size_push] at z1
            exact Nat.ne_of_lt (Nat.lt_succ_of_lt lb) z1
      · cases r2 with
        | error e => exact hr2
        | ok fl2 =>
          cases fl2 with
          | ret r =>
            obtain ⟨rfl, h2, k, c2, rfl, q1, q2, q3⟩ := hr2
            repeat (any_goals (first | assumption | wp_step))
            exact h _ _ _ q1 q2 q3
          | _ => exact hr2.elim
    | _ => exact hr.elim
end
end BM
namespace BM
open PySem PySem.Spec PyProof.Rows L2
/-- sorted(set(l)), fewer than 64 ints -/
def tSortedSet (K : PySem.W.Frag) (te : TE) : TE := fun σ H Q => te σ H fun x H1 => ∃ (l : Addr) (ns : List Int), x = .ref l ∧ SqL K H1 l (ns.map V.int) ∧ ns.length < 64 ∧
  ∀ (out : List Int) (p : Addr), out.Pairwise (· < ·) → (∀ k, k ∈ out ↔ k ∈ ns) → out.length ≤ ns.length → H1 p = none → Q (.ref p) (upd H1 p (.lst (out.map V.int)))
theorem pe_sortedSet {X : Cx} {a : Expr} {te : TE} {p p2 q pos : Pos} (hc : X.calm = true) (hg : Gl X "sorted") (hm : X.mg "sorted" = none) (hg2 : Gl X "set") (hm2 : X.mg "set" = none) (ha : PE X a te)
    (na : starEach [a] X.env = (false, eval a X.env) :: starEach [] X.env := by rfl) : PE X (.Call (.Name "sorted" p) [.Call (.Name "set" p2) [a] [] q] [] pos) (tSortedSet X.K te) := by
  refine ⟨fun pins s σ H Q I h => ?_⟩
  refine Call_ (ld_blt I hg hm boot_sorted (callWith_builtin1 (args_cons ?_ rfl) rfl rfl))
  refine Call_ (ld_blt I hg2 hm2 boot_set (callWith_type1 (args_cons (L2.thn (ha.run pins s σ H _ I h) fun v s1 ⟨x, H1, I1, r1, q1⟩ => args_nil ?_) na) na rfl))
  obtain ⟨l, ns, rfl, hq, hl, q1⟩ := q1
  cases r1
  obtain ⟨its, r, pl, hz⟩ := I1.list hq
  have hd := I1.ok.hd hc
  refine call_set_lstI ns ns hd pl.isList (ints_of_vals r) (fun _ h => h) (by unfold scanBound; omega) fun h2 tk c R1 hcn k => args_nil ?_
  refine sorted_set (s := { s1 with heap := h2, toks := tk }) R1 hd (by omega) fun s2 p out c2 ms k2 g o hp hg3 hi hs hm3 hl2 => ?_
  have kall : ∀ b u, s1.heap.get? b = some u → s2.heap.get? b = some u := fun b u e => k2 b u (k b u e)
  have hlt : s1.heap.objs.size ≤ p := by
    refine Nat.le_trans ?_ hp
    obtain ⟨o9, es, ep, t, ho, _⟩ := R1
    exact Nat.le_of_lt (Heap.lt_size ho)
  have hn : H1 p = none := I1.hok.fresh hlt
  have hlen : (ms.map V.int).length ≤ sizeLine := by rw [List.length_map, hl2, sizeLine_eq]; omega
  have J : Inv X pins σ (upd H1 p (.lst (ms.map V.int))) { s1 with heap := s2.heap, gens := s2.gens, drawn := s2.drawn, toks := s2.toks } :=
    I1.call (ch := []) (Un.laid kall hlt hn) (I1.hok.laid kall hlt ⟨hlen, out.toList, c2, vals_of_ints hi, hg3⟩) (by rw [g]; exact I1.bare) (fun _ z => nomatch z)
  have e : s2 = { s1 with heap := s2.heap, gens := s2.gens, drawn := s2.drawn, toks := s2.toks } := by
    cases s2
    cases s1
    cases o
    rfl
  rw [e]
  exact ⟨.ref p, _, J, rfl, q1 ms p hs (fun k => by rw [hm3 k, decide_eq_true_eq]) (by omega) hn⟩
open Evl in
theorem we_sortedSet {K : PySem.W.Frag} {H0 : Hp} {σ : L2.St} {s : Ld} {te : TE} {Q : V → Ld → Prop} (h : WE H0 te σ s fun x s1 => ∃ (l : Addr) (ns : List Int), x = .ref l ∧ IsL K H0 s1 l (ns.map V.int) ∧ ns.length < 64 ∧
    ∀ (out : List Int) (p : Addr), H0 p = none → out.Pairwise (· < ·) → (∀ k, k ∈ out ↔ k ∈ ns) → out.length ≤ ns.length → Q (.ref p) ⟨(p, .lst (out.map V.int)) :: s1.L, s1.T⟩) : WE H0 (tSortedSet K te) σ s Q := fun H o R k =>
  h H o _ fun x H1 s1 o1 ⟨l, ns, e, h1, h2, q⟩ => ⟨l, ns, e, h1 H1 o1, h2, fun out p hs hm hl hn => k _ _ _ (o1.new hn) (q out p (fresh_back o1.ex hn) hs hm hl)⟩
end BM
namespace BM
open PySem L2 Evl
def aNotB : R2 := fun x y H Q => ∃ a b : Bool, x = .bl a ∧ y = .bl b ∧ Q (.bl (!decide (a = b))) H
section
variable {K : PySem.W.Frag} {H0 : Hp} {σ : L2.St} {s : Ld} {Q : V → Ld → Prop} {t : TT}
theorem w2_notB {a b : Bool} (q : Q (.bl (!decide (a = b))) s) : W2 H0 aNotB (.bl a) (.bl b) s Q := fun H o R k => ⟨a, b, rfl, rfl, k _ H s o q⟩
end
end BM
namespace BM
open PySem L2 Evl
local macro_rules | `(tactic| walk_at "mem") => `(tactic| first | exact List.mem_cons_self | (refine List.mem_cons_of_mem _ ?_; walk_at "mem"))
local macro_rules | `(tactic| walk_at "swap") => `(tactic| first | exact Swap.here | (refine Swap.there ?_; walk_at "swap"))
local macro_rules | `(tactic| walk_at "subl") => `(tactic| first | exact List.Sublist.refl _ | exact List.nil_sublist _ | (refine List.Sublist.cons_cons _ ?_; walk_at "subl") | (refine List.Sublist.cons _ ?_; walk_at "subl"))
local macro_rules | `(tactic| walk_at "sub") => `(tactic| first | exact Sub.refl _ | (refine ⟨?_, ?_⟩ <;> walk_at "subl"))
local macro_rules | `(tactic| walk_at "isl") => `(tactic| first | exact isL_own (by walk_at "mem") | exact isL_old (by assumption) | assumption)
local macro_rules | `(tactic| walk_at "ist") => `(tactic| first | exact isT_own (by walk_at "mem") | exact isT_old (by assumption) | assumption)
local macro_rules | `(tactic| walk_at "len") => `(tactic| first | omega | decide | (simp only [List.length_map, List.length_take, List.length_drop, List.length_append, List.length_cons, List.length_nil, List.length_reverse, dps_len, flp_len]; omega) | (simp [dps_len, flp_len]; omega) | simp)
local macro_rules | `(tactic| walk_at "b0") => `(tactic| first
  | with_reducible refine' ws_set ?_
  | with_reducible refine' ws_par ?_
  | with_reducible refine' ws_asg ?_
  | with_reducible refine' ws_drop ?_
  | with_reducible refine' ws_ret ?_
  | with_reducible refine' ws_if ?_
  | with_reducible refine' ws_next ?_
  | with_reducible refine' ws_brk ?_
  | with_reducible refine' ws_cont ?_
  | ((with_reducible refine' we_var ?hv ?_); case hv => rfl)
  | with_reducible refine' we_c ?_
  | with_reducible refine' we_op ?_
  | with_reducible refine' we_un ?_
  | with_reducible refine' we_if ?_
  | with_reducible refine' we_and ?_
  | with_reducible refine' we_or ?_
  | with_reducible refine' we_not ?_
  | with_reducible refine' wa_nil ?_
  | with_reducible refine' wa_cons ?_
  | (with_reducible refine' we_lst ?_)
  | (with_reducible refine' we_tup ?_)
  | with_reducible refine' we_cb ?_
  | with_reducible refine' we_call0 ?_
  | with_reducible refine' we_sl ?_
  | with_reducible refine' wo_none ?_
  | (with_reducible refine' wo_some ?_)
  | with_reducible refine' wt_test ?_
  | with_reducible refine' wt_B ?_
  | with_reducible refine' wt_and ?_
  | with_reducible refine' wt_or ?_
  | with_reducible refine' wt_not ?_
  | with_reducible refine' wt_yes ?_
  | with_reducible refine' we_chain ?_
  | with_reducible refine' we_chain3 ?_
  | with_reducible refine' we_revT ?_
  | with_reducible refine' we_revL ?_
  | with_reducible refine' we_bm ?_
  | with_reducible refine' we_bm0 ?_
  | with_reducible refine' ws_for ?_
  | with_reducible refine' we_lc ?_
  | with_reducible refine' wi_list ?_
  | with_reducible refine' wi_tup ?_
  | with_reducible refine' wi_T ?_
  | with_reducible refine' wi_rng1 ?_
  | with_reducible refine' wi_rng2 ?_
  | with_reducible refine' wi_rng3 ?_
  | with_reducible refine' wi_enum ?_
  | with_reducible refine' wi_enumT ?_
  | with_reducible refine' wi_zip ?_
  | with_reducible refine' wg_name ?_
  | with_reducible refine' wg_sub ?_
  | with_reducible refine' wgs_nil ?_
  | with_reducible refine' wgs_cons ?_
  | ((with_reducible refine' wg_tup ?ht ?hn ?_); (case ht => walk_at "ist"); (case hn => rfl))
  | with_reducible refine' w2_add ?_
  | with_reducible refine' w2_sub ?_
  | with_reducible refine' w2_lt ?_
  | with_reducible refine' w2_le ?_
  | with_reducible refine' w2_gt ?_
  | with_reducible refine' w2_ge ?_
  | with_reducible refine' w2_eqI ?_
  | with_reducible refine' w2_neI ?_
  | with_reducible refine' w2_eqT ?_
  | with_reducible refine' w2_neT ?_
  | with_reducible refine' w2_eqB ?_
  | with_reducible refine' w2_neB ?_
  | with_reducible refine' w2_isN ?_
  | with_reducible refine' w2_notN ?_
  | with_reducible refine' w2_isB ?_
  | with_reducible refine' w2_inT ?_
  | with_reducible refine' w1_neg ?_
  | with_reducible refine' wl_abs ?_
  | with_reducible refine' wl_max2 ?_
  | with_reducible refine' wl_min2 ?_
  | with_reducible refine' wl_intB ?_
  | ((with_reducible refine' w2_div ?h ?_); case h => first | omega | (constructor <;> omega))
  | ((with_reducible refine' w2_mod ?h ?_); case h => omega)
  | ((with_reducible refine' w2_catT ?h ?_); case h => walk_at "len")
  | ((with_reducible refine' wsl_T ?h ?_); case h => walk_at "len")
  | ((with_reducible refine' wl_lenT ?h ?_); case h => walk_at "len")
  | ((with_reducible refine' wl_len ?h ?_); case h => walk_at "isl")
  | ((with_reducible refine' wl_len ?h ?_); case h => walk_at "isl")
  | ((with_reducible refine' wm_append ?sw ?hl ?_); (case sw => walk_at "swap"); (case hl => walk_at "len")))
local macro_rules | `(tactic| walk_at "b1") => `(tactic| first | with_reducible refine' ws_seq ?_ | walk_at "b0")
local macro_rules | `(tactic| walk_at "bx") => `(tactic| first
  | refine ⟨_, rfl, ?_⟩
  | refine ⟨_, _, rfl, ?_⟩
  | refine ⟨ty_L (by walk_at "isl"), ?_⟩
  | refine ⟨ty_S, ?_⟩
  | refine spl_t (by rfl) ?_
  | refine spl_f (by rfl) ?_
  | exact rfl)
local macro_rules | `(tactic| walk_at "bm") => `(tactic| repeat (first | walk_at "b1" | walk_at "bx"))
local macro_rules | `(tactic| walk_at "bn") => `(tactic| repeat (first | walk_at "b0" | walk_at "bx"))
local macro_rules | `(tactic| walk_at "b0") => `(tactic| with_reducible refine' c_deepens ?_)
local macro_rules | `(tactic| walk_at "b0") => `(tactic| ((with_reducible refine' c_depths_of ?hl ?_); (case hl => walk_at "len")))
local macro_rules | `(tactic| walk_at "b0") => `(tactic| with_reducible refine' c_is_wholeI ?_)
local macro_rules | `(tactic| walk_at "b0") => `(tactic| with_reducible refine' c_flipped ?_)
local macro_rules | `(tactic| walk_at "b0") => `(tactic| ((with_reducible refine' c_is_right_row ?hl ?_); (case hl => walk_at "len")))
local macro_rules | `(tactic| walk_at "b0") => `(tactic| ((with_reducible refine' c_asked_row ?hl ?_); (case hl => walk_at "len")))
local macro_rules | `(tactic| walk_at "b0") => `(tactic| ((with_reducible refine' c_depths ?hl ?_); (case hl => walk_at "len")))
local macro_rules | `(tactic| walk_at "b0") => `(tactic| ((with_reducible refine' c_is_right ?hl ?_); (case hl => walk_at "len")))
local macro_rules | `(tactic| walk_at "b0") => `(tactic| ((with_reducible refine' c__law_depths ?hl ?_); (case hl => walk_at "len")))
local macro_rules | `(tactic| walk_at "b0") => `(tactic| ((with_reducible refine' c__law_good ?hl ?_); (case hl => walk_at "len")))
end BM
namespace BM
open PySem L2 Evl
local macro_rules | `(tactic| walk_at "mem") => `(tactic| first | exact List.mem_cons_self | (refine List.mem_cons_of_mem _ ?_; walk_at "mem"))
local macro_rules | `(tactic| walk_at "swap") => `(tactic| first | exact Swap.here | (refine Swap.there ?_; walk_at "swap"))
local macro_rules | `(tactic| walk_at "subl") => `(tactic| first | exact List.Sublist.refl _ | exact List.nil_sublist _ | (refine List.Sublist.cons_cons _ ?_; walk_at "subl") | (refine List.Sublist.cons _ ?_; walk_at "subl"))
local macro_rules | `(tactic| walk_at "sub") => `(tactic| first | exact Sub.refl _ | (refine ⟨?_, ?_⟩ <;> walk_at "subl"))
local macro_rules | `(tactic| walk_at "isl") => `(tactic| first | exact isL_own (by walk_at "mem") | exact isL_old (by assumption) | assumption)
local macro_rules | `(tactic| walk_at "ist") => `(tactic| first | exact isT_own (by walk_at "mem") | exact isT_old (by assumption) | assumption)
local macro_rules | `(tactic| walk_at "len") => `(tactic| first | omega | decide | (simp only [List.length_map, List.length_take, List.length_drop, List.length_append, List.length_cons, List.length_nil, List.length_reverse, dps_len, flp_len]; omega) | (simp [dps_len, flp_len]; omega) | simp)
local macro_rules | `(tactic| walk_at "b0") => `(tactic| first
  | with_reducible refine' ws_set ?_
  | with_reducible refine' ws_par ?_
  | with_reducible refine' ws_asg ?_
  | with_reducible refine' ws_drop ?_
  | with_reducible refine' ws_ret ?_
  | with_reducible refine' ws_if ?_
  | with_reducible refine' ws_next ?_
  | with_reducible refine' ws_brk ?_
  | with_reducible refine' ws_cont ?_
  | ((with_reducible refine' we_var ?hv ?_); case hv => rfl)
  | with_reducible refine' we_c ?_
  | with_reducible refine' we_op ?_
  | with_reducible refine' we_un ?_
  | with_reducible refine' we_if ?_
  | with_reducible refine' we_and ?_
  | with_reducible refine' we_or ?_
  | with_reducible refine' we_not ?_
  | with_reducible refine' wa_nil ?_
  | with_reducible refine' wa_cons ?_
  | (with_reducible refine' we_lst ?_)
  | (with_reducible refine' we_tup ?_)
  | with_reducible refine' we_cb ?_
  | with_reducible refine' we_call0 ?_
  | with_reducible refine' we_sl ?_
  | with_reducible refine' wo_none ?_
  | (with_reducible refine' wo_some ?_)
  | with_reducible refine' wt_test ?_
  | with_reducible refine' wt_B ?_
  | with_reducible refine' wt_and ?_
  | with_reducible refine' wt_or ?_
  | with_reducible refine' wt_not ?_
  | with_reducible refine' wt_yes ?_
  | with_reducible refine' we_chain ?_
  | with_reducible refine' we_chain3 ?_
  | with_reducible refine' we_revT ?_
  | with_reducible refine' we_revL ?_
  | with_reducible refine' we_bm ?_
  | with_reducible refine' we_bm0 ?_
  | with_reducible refine' ws_for ?_
  | with_reducible refine' we_lc ?_
  | with_reducible refine' wi_list ?_
  | with_reducible refine' wi_tup ?_
  | with_reducible refine' wi_T ?_
  | with_reducible refine' wi_rng1 ?_
  | with_reducible refine' wi_rng2 ?_
  | with_reducible refine' wi_rng3 ?_
  | with_reducible refine' wi_enum ?_
  | with_reducible refine' wi_enumT ?_
  | with_reducible refine' wi_zip ?_
  | with_reducible refine' wg_name ?_
  | with_reducible refine' wg_sub ?_
  | with_reducible refine' wgs_nil ?_
  | with_reducible refine' wgs_cons ?_
  | ((with_reducible refine' wg_tup ?ht ?hn ?_); (case ht => walk_at "ist"); (case hn => rfl))
  | with_reducible refine' w2_add ?_
  | with_reducible refine' w2_sub ?_
  | with_reducible refine' w2_lt ?_
  | with_reducible refine' w2_le ?_
  | with_reducible refine' w2_gt ?_
  | with_reducible refine' w2_ge ?_
  | with_reducible refine' w2_eqI ?_
  | with_reducible refine' w2_neI ?_
  | with_reducible refine' w2_eqT ?_
  | with_reducible refine' w2_neT ?_
  | with_reducible refine' w2_eqB ?_
  | with_reducible refine' w2_neB ?_
  | with_reducible refine' w2_isN ?_
  | with_reducible refine' w2_notN ?_
  | with_reducible refine' w2_isB ?_
  | with_reducible refine' w2_inT ?_
  | with_reducible refine' w1_neg ?_
  | with_reducible refine' wl_abs ?_
  | with_reducible refine' wl_max2 ?_
  | with_reducible refine' wl_min2 ?_
  | with_reducible refine' wl_intB ?_
  | ((with_reducible refine' w2_div ?h ?_); case h => first | omega | (constructor <;> omega))
  | ((with_reducible refine' w2_mod ?h ?_); case h => omega)
  | ((with_reducible refine' w2_catT ?h ?_); case h => walk_at "len")
  | ((with_reducible refine' wsl_T ?h ?_); case h => walk_at "len")
  | ((with_reducible refine' wl_lenT ?h ?_); case h => walk_at "len")
  | ((with_reducible refine' wl_len ?h ?_); case h => walk_at "isl")
  | ((with_reducible refine' wl_len ?h ?_); case h => walk_at "isl")
  | ((with_reducible refine' wm_append ?sw ?hl ?_); (case sw => walk_at "swap"); (case hl => walk_at "len")))
local macro_rules | `(tactic| walk_at "b1") => `(tactic| first | with_reducible refine' ws_seq ?_ | walk_at "b0")
local macro_rules | `(tactic| walk_at "bx") => `(tactic| first
  | refine ⟨_, rfl, ?_⟩
  | refine ⟨_, _, rfl, ?_⟩
  | refine ⟨ty_L (by walk_at "isl"), ?_⟩
  | refine ⟨ty_S, ?_⟩
  | refine spl_t (by rfl) ?_
  | refine spl_f (by rfl) ?_
  | exact rfl)
local macro_rules | `(tactic| walk_at "bm") => `(tactic| repeat (first | walk_at "b1" | walk_at "bx"))
local macro_rules | `(tactic| walk_at "bn") => `(tactic| repeat (first | walk_at "b0" | walk_at "bx"))
local macro_rules | `(tactic| walk_at "b0") => `(tactic| with_reducible refine' c_deepens ?_)
local macro_rules | `(tactic| walk_at "b0") => `(tactic| ((with_reducible refine' c_depths_of ?hl ?_); (case hl => walk_at "len")))
local macro_rules | `(tactic| walk_at "b0") => `(tactic| with_reducible refine' c_is_wholeI ?_)
local macro_rules | `(tactic| walk_at "b0") => `(tactic| with_reducible refine' c_flipped ?_)
local macro_rules | `(tactic| walk_at "b0") => `(tactic| ((with_reducible refine' c_is_right_row ?hl ?_); (case hl => walk_at "len")))
local macro_rules | `(tactic| walk_at "b0") => `(tactic| ((with_reducible refine' c_asked_row ?hl ?_); (case hl => walk_at "len")))
local macro_rules | `(tactic| walk_at "b0") => `(tactic| ((with_reducible refine' c_depths ?hl ?_); (case hl => walk_at "len")))
local macro_rules | `(tactic| walk_at "b0") => `(tactic| ((with_reducible refine' c_is_right ?hl ?_); (case hl => walk_at "len")))
local macro_rules | `(tactic| walk_at "b0") => `(tactic| ((with_reducible refine' c__law_depths ?hl ?_); (case hl => walk_at "len")))
local macro_rules | `(tactic| walk_at "b0") => `(tactic| ((with_reducible refine' c__law_good ?hl ?_); (case hl => walk_at "len")))
local macro_rules | `(tactic| walk_at "b0") => `(tactic| ((with_reducible refine' wl_listOf ?hx ?_); (case hx => walk_at "isl")))
local macro_rules | `(tactic| walk_at "b0") => `(tactic| with_reducible refine' w2_notB ?_)
theorem own_l {H0 : Hp} {s : Ld} {p : Addr} {o : HO} (h : (p, o) ∈ s.L) : ∀ H, Own H0 H s → H p = some o := fun H w => (w.own _ h).2
local macro_rules | `(tactic| walk_at "own") => `(tactic| exact own_l (by walk_at "mem"))
end BM
namespace BM
open PySem L2 Evl
local macro_rules | `(tactic| walk_at "mem") => `(tactic| first | exact List.mem_cons_self | (refine List.mem_cons_of_mem _ ?_; walk_at "mem"))
local macro_rules | `(tactic| walk_at "swap") => `(tactic| first | exact Swap.here | (apply Swap.there; walk_at "swap"))
local macro_rules | `(tactic| walk_at "subl") => `(tactic| first | exact List.Sublist.refl _ | exact List.nil_sublist _ | (refine List.Sublist.cons_cons _ ?_; walk_at "subl") | (refine List.Sublist.cons _ ?_; walk_at "subl"))
local macro_rules | `(tactic| walk_at "sub") => `(tactic| first | exact Sub.refl _ | (refine ⟨?_, ?_⟩ <;> walk_at "subl"))
local macro_rules | `(tactic| walk_at "isl") => `(tactic| first | exact isL_own (by walk_at "mem") | exact isL_old (by assumption) | assumption)
local macro_rules | `(tactic| walk_at "ist") => `(tactic| first | exact isT_own (by walk_at "mem") | exact isT_old (by assumption) | assumption)
local macro_rules | `(tactic| walk_at "len") => `(tactic| first | omega | decide | (simp only [List.length_map, List.length_take, List.length_drop, List.length_append, List.length_cons, List.length_nil, List.length_reverse, dps_len, flp_len]; omega) | (simp [dps_len, flp_len]; omega) | simp)
local macro_rules | `(tactic| walk_at "b0") => `(tactic| first
  | with_reducible refine' ws_set ?_
  | with_reducible refine' ws_par ?_
  | with_reducible refine' ws_asg ?_
  | with_reducible refine' ws_drop ?_
  | with_reducible refine' ws_ret ?_
  | with_reducible refine' ws_if ?_
  | with_reducible refine' ws_next ?_
  | with_reducible refine' ws_brk ?_
  | with_reducible refine' ws_cont ?_
  | ((with_reducible refine' we_var ?hv ?_); case hv => rfl)
  | with_reducible refine' we_c ?_
  | with_reducible refine' we_op ?_
  | with_reducible refine' we_un ?_
  | with_reducible refine' we_if ?_
  | with_reducible refine' we_and ?_
  | with_reducible refine' we_or ?_
  | with_reducible refine' we_not ?_
  | with_reducible refine' wa_nil ?_
  | with_reducible refine' wa_cons ?_
  | (with_reducible refine' we_lst ?_)
  | (with_reducible refine' we_tup ?_)
  | with_reducible refine' we_cb ?_
  | with_reducible refine' we_call0 ?_
  | with_reducible refine' we_sl ?_
  | with_reducible refine' wo_none ?_
  | (with_reducible refine' wo_some ?_)
  | with_reducible refine' wt_test ?_
  | with_reducible refine' wt_B ?_
  | with_reducible refine' wt_and ?_
  | with_reducible refine' wt_or ?_
  | with_reducible refine' wt_not ?_
  | with_reducible refine' wt_yes ?_
  | with_reducible refine' we_chain ?_
  | with_reducible refine' we_chain3 ?_
  | with_reducible refine' we_revT ?_
  | with_reducible refine' we_revL ?_
  | with_reducible refine' we_bm ?_
  | with_reducible refine' we_bm0 ?_
  | with_reducible refine' ws_for ?_
  | with_reducible refine' we_lc ?_
  | with_reducible refine' wi_list ?_
  | with_reducible refine' wi_tup ?_
  | with_reducible refine' wi_T ?_
  | with_reducible refine' wi_rng1 ?_
  | with_reducible refine' wi_rng2 ?_
  | with_reducible refine' wi_rng3 ?_
  | with_reducible refine' wi_enum ?_
  | with_reducible refine' wi_enumT ?_
  | with_reducible refine' wi_zip ?_
  | with_reducible refine' wg_name ?_
  | with_reducible refine' wg_sub ?_
  | with_reducible refine' wgs_nil ?_
  | with_reducible refine' wgs_cons ?_
  | ((with_reducible refine' wg_tup ?ht ?hn ?_); (case ht => walk_at "ist"); (case hn => rfl))
  | with_reducible refine' w2_add ?_
  | with_reducible refine' w2_sub ?_
  | with_reducible refine' w2_lt ?_
  | with_reducible refine' w2_le ?_
  | with_reducible refine' w2_gt ?_
  | with_reducible refine' w2_ge ?_
  | with_reducible refine' w2_eqI ?_
  | with_reducible refine' w2_neI ?_
  | with_reducible refine' w2_eqT ?_
  | with_reducible refine' w2_neT ?_
  | with_reducible refine' w2_eqB ?_
  | with_reducible refine' w2_neB ?_
  | with_reducible refine' w2_isN ?_
  | with_reducible refine' w2_notN ?_
  | with_reducible refine' w2_isB ?_
  | with_reducible refine' w2_inT ?_
  | with_reducible refine' w1_neg ?_
  | with_reducible refine' wl_abs ?_
  | with_reducible refine' wl_max2 ?_
  | with_reducible refine' wl_min2 ?_
  | with_reducible refine' wl_intB ?_
  | ((with_reducible refine' w2_div ?h ?_); case h => first | omega | (constructor <;> omega))
  | ((with_reducible refine' w2_mod ?h ?_); case h => omega)
  | ((with_reducible refine' w2_catT ?h ?_); case h => walk_at "len")
  | ((with_reducible refine' wsl_T ?h ?_); case h => walk_at "len")
  | ((with_reducible refine' wl_lenT ?h ?_); case h => walk_at "len")
  | ((with_reducible refine' wl_len ?h ?_); case h => walk_at "isl")
  | ((with_reducible refine' wl_len ?h ?_); case h => walk_at "isl")
  | ((with_reducible refine' wm_append ?sw ?hl ?_); (case sw => walk_at "swap"); (case hl => walk_at "len")))
local macro_rules | `(tactic| walk_at "b1") => `(tactic| first | with_reducible refine' ws_seq ?_ | walk_at "b0")
local macro_rules | `(tactic| walk_at "bx") => `(tactic| first
  | refine ⟨_, rfl, ?_⟩
  | refine ⟨_, _, rfl, ?_⟩
  | refine ⟨ty_L (by walk_at "isl"), ?_⟩
  | refine ⟨ty_S, ?_⟩
  | refine spl_t (by rfl) ?_
  | refine spl_f (by rfl) ?_
  | exact rfl)
local macro_rules | `(tactic| walk_at "bm") => `(tactic| repeat (first | walk_at "b1" | walk_at "bx"))
local macro_rules | `(tactic| walk_at "bn") => `(tactic| repeat (first | walk_at "b0" | walk_at "bx"))
local macro_rules | `(tactic| walk_at "b0") => `(tactic| with_reducible refine' c_deepens ?_)
local macro_rules | `(tactic| walk_at "b0") => `(tactic| ((with_reducible refine' c_depths_of ?hl ?_); (case hl => walk_at "len")))
local macro_rules | `(tactic| walk_at "b0") => `(tactic| with_reducible refine' c_is_wholeI ?_)
local macro_rules | `(tactic| walk_at "b0") => `(tactic| with_reducible refine' c_flipped ?_)
local macro_rules | `(tactic| walk_at "b0") => `(tactic| ((with_reducible refine' c_is_right_row ?hl ?_); (case hl => walk_at "len")))
local macro_rules | `(tactic| walk_at "b0") => `(tactic| ((with_reducible refine' c_asked_row ?hl ?_); (case hl => walk_at "len")))
local macro_rules | `(tactic| walk_at "b0") => `(tactic| ((with_reducible refine' c_depths ?hl ?_); (case hl => walk_at "len")))
local macro_rules | `(tactic| walk_at "b0") => `(tactic| ((with_reducible refine' c_is_right ?hl ?_); (case hl => walk_at "len")))
local macro_rules | `(tactic| walk_at "b0") => `(tactic| ((with_reducible refine' c__law_depths ?hl ?_); (case hl => walk_at "len")))
local macro_rules | `(tactic| walk_at "b0") => `(tactic| ((with_reducible refine' c__law_good ?hl ?_); (case hl => walk_at "len")))
local macro_rules | `(tactic| walk_at "b0") => `(tactic| ((with_reducible refine' wl_listOf ?hx ?_); (case hx => walk_at "isl")))
local macro_rules | `(tactic| walk_at "b0") => `(tactic| with_reducible refine' w2_notB ?_)
local macro_rules | `(tactic| walk_at "own") => `(tactic| exact own_l (by walk_at "mem"))
theorem Paired.one {α β : Type} {R : α → β → Prop} {xs : List α} {ys : List β} (h : Paired R xs ys) {x : α} {y : β} (r : R x y) : Paired R (xs ++ [x]) (ys ++ [y]) := by
  induction h with
  | nil => exact .cons r .nil
  | cons a t ih => exact .cons a ih
theorem Paired.len {α β : Type} {R : α → β → Prop} {xs : List α} {ys : List β} (h : Paired R xs ys) : xs.length = ys.length := by
  induction h with
  | nil => rfl
  | cons a t ih => rw [List.length_cons, List.length_cons, ih]
end BM
namespace BM
open PySem PySem.Spec PyProof.Rows L2 Evl
/-! ### methods in a try's body -/
/-! ### objects in the ledger -/
def del (g : Addr) (H : Hp) : Hp := fun a => if a = g then none else H a
theorem del_same {g : Addr} {H : Hp} : del g H g = none := if_pos rfl
theorem del_ne {g a : Addr} {H : Hp} (h : a ≠ g) : del g H a = H a := if_neg h
theorem own_del {H : Hp} {g : Addr} {o : HO} (h : H g = some o) : Own (del g H) H ⟨[(g, o)], []⟩ := by
  refine ⟨fun a u hu => ?_, List.nodup_cons.mpr ⟨by simp, List.nodup_nil⟩, fun e he => ?_, fun t ht => nomatch ht⟩
  · by_cases ha : a = g
    · rw [ha, del_same] at hu
      cases hu
    · rw [del_ne ha] at hu
      exact hu
  · rw [List.mem_singleton.mp he]
    exact ⟨del_same, h⟩
theorem own_after {H0 H H' : Hp} {s : Ld} {g : Addr} {o o' : HO} {L' : List (Addr × HO)} (w : Own H0 H s) (sw : Swap g o o' s.L L') (nt : NotTup o) (e : Ex (del g H) H') (h : H' g = some o') : Own H0 H' ⟨L', s.T⟩ := by
  have hg := w.own _ sw.mem
  have keep : ∀ a u, a ≠ g → H a = some u → H' a = some u := fun a u ha hu => e _ _ (by rw [del_ne ha]; exact hu)
  refine ⟨fun a u hu => keep a u (fun x => ?_) (w.ex _ _ hu), by rw [sw.keys]; exact w.nd, fun x hx => ?_, fun t ht => keep _ _ (fun z => ?_) (w.tp t ht)⟩
  · rw [x, hg.1] at hu
    cases hu
  · rcases sw.of_mem w.nd x hx with rfl | ⟨h1, h2⟩
    · exact ⟨hg.1, h⟩
    · exact ⟨(w.own x h1).1, keep _ _ h2 (w.own x h1).2⟩
  · have := w.tp t ht
    rw [z, hg.2] at this
    cases this
    exact nt
section
variable {K : PySem.W.Frag} {H0 : Hp} {σ : L2.St} {s : Ld} {ta : TA} {te tv : TE} {Q : V → Ld → Prop} {D : Dl} {f m : Str} {E : XK} {C : Addr} {sp : Sp} {vs : List V}
theorem we_fld (h : WE H0 te σ s fun x s1 => ∃ a C dx fs v, x = .ref a ∧ (∀ H, Own H0 H s1 → H a = some (.ins C dx fs)) ∧ Cls K C ∧ NoAttr K C f ∧ fs.lookup f = some v ∧ Q v s1) : WE H0 (tFld K te f) σ s Q := fun H o R k =>
  h H o _ fun x H1 s1 o1 ⟨a, C, dx, fs, v, e, ha, hc, hn, hl, q⟩ => ⟨a, C, dx, fs, v, e, ha H1 o1, hc, hn, hl, k _ _ _ o1 q⟩
theorem ws_fld (h : WE H0 tv σ s fun y s1 => WE H0 te σ s1 fun x s2 => ∃ a C dx fs L', x = .ref a ∧ Swap a (.ins C dx fs) (.ins C dx (putF f y fs)) s2.L L' ∧ Cls K C ∧ NoAttr K C f ∧ fs.length < 1000 ∧ D.nx σ ⟨L', s2.T⟩) : WS H0 (sFld K te tv f) σ s D := fun H o E l =>
  h H o _ fun y H1 s1 o1 h1 => h1 H1 o1 _ fun x H2 s2 o2 ⟨a, C, dx, fs, L', e, sw, hc, hn, hl, q⟩ => ⟨a, C, dx, fs, e, (o2.own _ sw.mem).2, hc, hn, hl, l.nx _ _ _ (o2.swap sw trivial) q⟩
theorem we_meth {dvs : List V} (h : WE H0 te σ s fun x s1 => ∃ a dx fs, x = .ref a ∧ (∀ H, Own H0 H s1 → H a = some (.ins C dx fs)) ∧ fs.lookup m = none ∧ WA H0 ta σ s1 fun vs s2 => WC H0 sp E (x :: (vs ++ dvs)) s2 Q) : WE H0 (tMeth C m sp dvs E te ta) σ s Q := fun H o R k =>
  h H o _ fun x H1 s1 o1 ⟨a, dx, fs, e, ha, hl, h1⟩ => ⟨a, dx, fs, e, ha H1 o1, hl, h1 H1 o1 _ fun vs H2 s2 o2 h2 => h2 H2 o2 R k⟩
theorem we_make {dvs : List V} (h : WA H0 ta σ s fun vs s1 => ∀ x dx, H0 x = none → H0 dx = none → dx ≠ x → WC H0 sp E (.ref x :: (vs ++ dvs)) ⟨(x, .ins C dx []) :: (dx, .own x) :: s1.L, s1.T⟩ fun v s2 => v = .non ∧ Q (.ref x) s2) : WE H0 (tMake C sp dvs E ta) σ s Q := fun H o R k =>
  h H o _ fun vs H1 s1 o1 h1 => fun x dx hx hdx hne => by
    have o2 := o1.new (u := .own x) hdx
    have hx2 : (upd H1 dx (.own x)) x = none := by rw [upd_ne hne.symm]; exact hx
    exact h1 x dx (fresh_back o1.ex hx) (fresh_back o1.ex hdx) hne _ (o2.new (u := .ins C dx []) hx2) _ fun v H2 s2 o3 ⟨e, q⟩ => ⟨e, k _ _ _ o3 q⟩
end
/-- a promise of a new tuple -/
def spU (R : List V → Hp → List V → Prop) : Sp := fun vs H Q _ => ∃ xs, R vs H xs ∧ ∀ p H', Ex H H' → H' p = some (.tup xs) → Q (.ref p) H'
theorem wc_U {H0 : Hp} {s : Ld} {Q : V → Ld → Prop} {R : List V → Hp → List V → Prop} {E : XK} {vs xs : List V} (h : ∀ H, Own H0 H s → R vs H xs) (q : ∀ p, Q (.ref p) ⟨s.L, (p, xs) :: s.T⟩) : WC H0 (spU R) E vs s Q := fun H o R' k =>
  ⟨xs, h H o, fun p H' e hp => k _ _ _ (by
    have o2 := (o.ext e).moreT (ts := [(p, xs)]) (fun t ht => by rw [List.mem_singleton.mp ht]; exact hp)
    exact o2) (q p)⟩
def retU (xs : List V) : Dl := { nx := fun _ _ => False, rt := fun u s => ∃ p, u = .ref p ∧ (p, xs) ∈ s.T }
theorem body_U {H : Hp} {t : TS} {N : List Str} {vs xs : List V} {Q : VK} (h : WS H t (start N vs) ⟨[], []⟩ (retU xs)) (k : ∀ p H', Ex H H' → H' p = some (.tup xs) → Q (.ref p) H') : t { nx := fun _ H' => Q .non H', rt := Q } (start N vs) H :=
  h H (Own.start H) _ ⟨(fun _ _ _ _ q => q.elim), fun u H' s o ⟨p, e, m⟩ => by
    rw [e]
    exact k p H' o.ex (o.tp _ m), (fun _ _ _ _ q => q.elim), (fun _ _ _ _ q => q.elim)⟩
end BM
namespace BM
/-! ### what a row lacks -/
def lkS (p : Int × Int) (b : Bool) : Int × Int := if b then (p.1, p.2 + 1) else if p.2 > 0 then (p.1, p.2 - 1) else (p.1 + 1, p.2)
def lk (r : List Bool) : Int × Int := r.foldl lkS (0, 0)
theorem snoc_ind {P : List Bool → Prop} (h0 : P []) (h1 : ∀ r b, P r → P (r ++ [b])) (r : List Bool) : P r := by
  have : ∀ n (r : List Bool), r.length = n → P r := by
    intro n
    induction n with
    | zero =>
      intro r h
      rw [List.length_eq_zero_iff.mp h]
      exact h0
    | succ n ih =>
      intro r h
      have hne : r ≠ [] := fun e => by rw [e] at h; cases h
      rw [← List.dropLast_concat_getLast hne]
      exact h1 _ _ (ih _ (by rw [List.length_dropLast, h]; rfl))
  exact this _ r rfl
/-! ### the longest right stretch -/
theorem hgt_par7 (r : List Bool) : (hgt r - (r.length : Int)) % 2 = 0 := by
  induction r using snoc_ind with
  | h0 => rfl
  | h1 r b ih =>
    rw [hgt_app, List.length_append]
    cases b <;> simp [hgt, sg] <;> omega
theorem isR_even {r : List Bool} (h : isR r = true) : r.length % 2 = 0 := by
  have h1 := (isR_iff.mp h).1
  have h2 := hgt_par7 r
  omega
end BM
namespace BM
open PySem L2 Evl
/-- the class Growing as it stands -/
structure Grw (K : PySem.W.Frag) (C : CA) : Prop where
  cl : Cls K C.c_Growing
  nr : NoAttr K C.c_Growing "row"
end BM
namespace BM
open PySem L2 Evl
local macro_rules | `(tactic| walk_at "mem") => `(tactic| first | exact List.mem_cons_self | (refine List.mem_cons_of_mem _ ?_; walk_at "mem"))
local macro_rules | `(tactic| walk_at "swap") => `(tactic| first | exact Swap.here | (apply Swap.there; walk_at "swap"))
local macro_rules | `(tactic| walk_at "subl") => `(tactic| first | exact List.Sublist.refl _ | exact List.nil_sublist _ | (refine List.Sublist.cons_cons _ ?_; walk_at "subl") | (refine List.Sublist.cons _ ?_; walk_at "subl"))
local macro_rules | `(tactic| walk_at "sub") => `(tactic| first | exact Sub.refl _ | (refine ⟨?_, ?_⟩ <;> walk_at "subl"))
local macro_rules | `(tactic| walk_at "isl") => `(tactic| first | exact isL_own (by walk_at "mem") | exact isL_old (by assumption) | assumption)
local macro_rules | `(tactic| walk_at "ist") => `(tactic| first | exact isT_own (by walk_at "mem") | exact isT_old (by assumption) | assumption)
local macro_rules | `(tactic| walk_at "len") => `(tactic| first | omega | decide | (simp only [List.length_map, List.length_take, List.length_drop, List.length_append, List.length_cons, List.length_nil, List.length_reverse, dps_len, flp_len]; omega) | (simp [dps_len, flp_len]; omega) | simp)
local macro_rules | `(tactic| walk_at "b0") => `(tactic| first
  | with_reducible refine' ws_set ?_
  | with_reducible refine' ws_par ?_
  | with_reducible refine' ws_asg ?_
  | with_reducible refine' ws_drop ?_
  | with_reducible refine' ws_ret ?_
  | with_reducible refine' ws_if ?_
  | with_reducible refine' ws_next ?_
  | with_reducible refine' ws_brk ?_
  | with_reducible refine' ws_cont ?_
  | ((with_reducible refine' we_var ?hv ?_); case hv => rfl)
  | with_reducible refine' we_c ?_
  | with_reducible refine' we_op ?_
  | with_reducible refine' we_un ?_
  | with_reducible refine' we_if ?_
  | with_reducible refine' we_and ?_
  | with_reducible refine' we_or ?_
  | with_reducible refine' we_not ?_
  | with_reducible refine' wa_nil ?_
  | with_reducible refine' wa_cons ?_
  | (with_reducible refine' we_lst ?_)
  | (with_reducible refine' we_tup ?_)
  | with_reducible refine' we_cb ?_
  | with_reducible refine' we_call0 ?_
  | with_reducible refine' we_sl ?_
  | with_reducible refine' wo_none ?_
  | (with_reducible refine' wo_some ?_)
  | with_reducible refine' wt_test ?_
  | with_reducible refine' wt_B ?_
  | with_reducible refine' wt_and ?_
  | with_reducible refine' wt_or ?_
  | with_reducible refine' wt_not ?_
  | with_reducible refine' wt_yes ?_
  | with_reducible refine' we_chain ?_
  | with_reducible refine' we_chain3 ?_
  | with_reducible refine' we_revT ?_
  | with_reducible refine' we_revL ?_
  | with_reducible refine' we_bm ?_
  | with_reducible refine' we_bm0 ?_
  | with_reducible refine' ws_for ?_
  | with_reducible refine' we_lc ?_
  | with_reducible refine' wi_list ?_
  | with_reducible refine' wi_tup ?_
  | with_reducible refine' wi_T ?_
  | with_reducible refine' wi_rng1 ?_
  | with_reducible refine' wi_rng2 ?_
  | with_reducible refine' wi_rng3 ?_
  | with_reducible refine' wi_enum ?_
  | with_reducible refine' wi_enumT ?_
  | with_reducible refine' wi_zip ?_
  | with_reducible refine' wg_name ?_
  | with_reducible refine' wg_sub ?_
  | with_reducible refine' wgs_nil ?_
  | with_reducible refine' wgs_cons ?_
  | ((with_reducible refine' wg_tup ?ht ?hn ?_); (case ht => walk_at "ist"); (case hn => rfl))
  | with_reducible refine' w2_add ?_
  | with_reducible refine' w2_sub ?_
  | with_reducible refine' w2_lt ?_
  | with_reducible refine' w2_le ?_
  | with_reducible refine' w2_gt ?_
  | with_reducible refine' w2_ge ?_
  | with_reducible refine' w2_eqI ?_
  | with_reducible refine' w2_neI ?_
  | with_reducible refine' w2_eqT ?_
  | with_reducible refine' w2_neT ?_
  | with_reducible refine' w2_eqB ?_
  | with_reducible refine' w2_neB ?_
  | with_reducible refine' w2_isN ?_
  | with_reducible refine' w2_notN ?_
  | with_reducible refine' w2_isB ?_
  | with_reducible refine' w2_inT ?_
  | with_reducible refine' w1_neg ?_
  | with_reducible refine' wl_abs ?_
  | with_reducible refine' wl_max2 ?_
  | with_reducible refine' wl_min2 ?_
  | with_reducible refine' wl_intB ?_
  | ((with_reducible refine' w2_div ?h ?_); case h => first | omega | (constructor <;> omega))
  | ((with_reducible refine' w2_mod ?h ?_); case h => omega)
  | ((with_reducible refine' w2_catT ?h ?_); case h => walk_at "len")
  | ((with_reducible refine' wsl_T ?h ?_); case h => walk_at "len")
  | ((with_reducible refine' wl_lenT ?h ?_); case h => walk_at "len")
  | ((with_reducible refine' wl_len ?h ?_); case h => walk_at "isl")
  | ((with_reducible refine' wl_len ?h ?_); case h => walk_at "isl")
  | ((with_reducible refine' wm_append ?sw ?hl ?_); (case sw => walk_at "swap"); (case hl => walk_at "len")))
local macro_rules | `(tactic| walk_at "b1") => `(tactic| first | with_reducible refine' ws_seq ?_ | walk_at "b0")
local macro_rules | `(tactic| walk_at "bx") => `(tactic| first
  | refine ⟨_, rfl, ?_⟩
  | refine ⟨_, _, rfl, ?_⟩
  | refine ⟨ty_L (by walk_at "isl"), ?_⟩
  | refine ⟨ty_S, ?_⟩
  | refine spl_t (by rfl) ?_
  | refine spl_f (by rfl) ?_
  | exact rfl)
local macro_rules | `(tactic| walk_at "bm") => `(tactic| repeat (first | walk_at "b1" | walk_at "bx"))
local macro_rules | `(tactic| walk_at "bn") => `(tactic| repeat (first | walk_at "b0" | walk_at "bx"))
local macro_rules | `(tactic| walk_at "b0") => `(tactic| with_reducible refine' c_deepens ?_)
local macro_rules | `(tactic| walk_at "b0") => `(tactic| ((with_reducible refine' c_depths_of ?hl ?_); (case hl => walk_at "len")))
local macro_rules | `(tactic| walk_at "b0") => `(tactic| with_reducible refine' c_is_wholeI ?_)
local macro_rules | `(tactic| walk_at "b0") => `(tactic| with_reducible refine' c_flipped ?_)
local macro_rules | `(tactic| walk_at "b0") => `(tactic| ((with_reducible refine' c_is_right_row ?hl ?_); (case hl => walk_at "len")))
local macro_rules | `(tactic| walk_at "b0") => `(tactic| ((with_reducible refine' c_asked_row ?hl ?_); (case hl => walk_at "len")))
local macro_rules | `(tactic| walk_at "b0") => `(tactic| ((with_reducible refine' c_depths ?hl ?_); (case hl => walk_at "len")))
local macro_rules | `(tactic| walk_at "b0") => `(tactic| ((with_reducible refine' c_is_right ?hl ?_); (case hl => walk_at "len")))
local macro_rules | `(tactic| walk_at "b0") => `(tactic| ((with_reducible refine' c__law_depths ?hl ?_); (case hl => walk_at "len")))
local macro_rules | `(tactic| walk_at "b0") => `(tactic| ((with_reducible refine' c__law_good ?hl ?_); (case hl => walk_at "len")))
local macro_rules | `(tactic| walk_at "b0") => `(tactic| ((with_reducible refine' wl_listOf ?hx ?_); (case hx => walk_at "isl")))
local macro_rules | `(tactic| walk_at "b0") => `(tactic| with_reducible refine' w2_notB ?_)
local macro_rules | `(tactic| walk_at "own") => `(tactic| exact own_l (by walk_at "mem"))
local macro_rules | `(tactic| walk_at "b0") => `(tactic| with_reducible refine' we_fld ?_)
local macro_rules | `(tactic| walk_at "b0") => `(tactic| refine ⟨_, _, _, _, _, rfl, own_l (by walk_at "mem"), Grw.cl (by assumption), Grw.nr (by assumption), by rfl, ?_⟩)
local macro_rules | `(tactic| walk_at "b0") => `(tactic| refine ⟨_, _, _, _, _, rfl, fun H' o => o.ex _ _ (by assumption), Grw.cl (by assumption), Grw.nr (by assumption), by rfl, ?_⟩)
end BM
namespace BM
open PySem L2 Evl
local macro_rules | `(tactic| walk_at "mem") => `(tactic| first | exact List.mem_cons_self | (refine List.mem_cons_of_mem _ ?_; walk_at "mem"))
local macro_rules | `(tactic| walk_at "swap") => `(tactic| first | exact Swap.here | (apply Swap.there; walk_at "swap"))
local macro_rules | `(tactic| walk_at "subl") => `(tactic| first | exact List.Sublist.refl _ | exact List.nil_sublist _ | (refine List.Sublist.cons_cons _ ?_; walk_at "subl") | (refine List.Sublist.cons _ ?_; walk_at "subl"))
local macro_rules | `(tactic| walk_at "sub") => `(tactic| first | exact Sub.refl _ | (refine ⟨?_, ?_⟩ <;> walk_at "subl"))
local macro_rules | `(tactic| walk_at "isl") => `(tactic| first | exact isL_own (by walk_at "mem") | exact isL_old (by assumption) | assumption)
local macro_rules | `(tactic| walk_at "ist") => `(tactic| first | exact isT_own (by walk_at "mem") | exact isT_old (by assumption) | assumption)
local macro_rules | `(tactic| walk_at "len") => `(tactic| first | omega | decide | (simp only [List.length_map, List.length_take, List.length_drop, List.length_append, List.length_cons, List.length_nil, List.length_reverse, dps_len, flp_len]; omega) | (simp [dps_len, flp_len]; omega) | simp)
local macro_rules | `(tactic| walk_at "b0") => `(tactic| first
  | with_reducible refine' ws_set ?_
  | with_reducible refine' ws_par ?_
  | with_reducible refine' ws_asg ?_
  | with_reducible refine' ws_drop ?_
  | with_reducible refine' ws_ret ?_
  | with_reducible refine' ws_if ?_
  | with_reducible refine' ws_next ?_
  | with_reducible refine' ws_brk ?_
  | with_reducible refine' ws_cont ?_
  | ((with_reducible refine' we_var ?hv ?_); case hv => rfl)
  | with_reducible refine' we_c ?_
  | with_reducible refine' we_op ?_
  | with_reducible refine' we_un ?_
  | with_reducible refine' we_if ?_
  | with_reducible refine' we_and ?_
  | with_reducible refine' we_or ?_
  | with_reducible refine' we_not ?_
  | with_reducible refine' wa_nil ?_
  | with_reducible refine' wa_cons ?_
  | (with_reducible refine' we_lst ?_)
  | (with_reducible refine' we_tup ?_)
  | with_reducible refine' we_cb ?_
  | with_reducible refine' we_call0 ?_
  | with_reducible refine' we_sl ?_
  | with_reducible refine' wo_none ?_
  | (with_reducible refine' wo_some ?_)
  | with_reducible refine' wt_test ?_
  | with_reducible refine' wt_B ?_
  | with_reducible refine' wt_and ?_
  | with_reducible refine' wt_or ?_
  | with_reducible refine' wt_not ?_
  | with_reducible refine' wt_yes ?_
  | with_reducible refine' we_chain ?_
  | with_reducible refine' we_chain3 ?_
  | with_reducible refine' we_revT ?_
  | with_reducible refine' we_revL ?_
  | with_reducible refine' we_bm ?_
  | with_reducible refine' we_bm0 ?_
  | with_reducible refine' ws_for ?_
  | with_reducible refine' we_lc ?_
  | with_reducible refine' wi_list ?_
  | with_reducible refine' wi_tup ?_
  | with_reducible refine' wi_T ?_
  | with_reducible refine' wi_rng1 ?_
  | with_reducible refine' wi_rng2 ?_
  | with_reducible refine' wi_rng3 ?_
  | with_reducible refine' wi_enum ?_
  | with_reducible refine' wi_enumT ?_
  | with_reducible refine' wi_zip ?_
  | with_reducible refine' wg_name ?_
  | with_reducible refine' wg_sub ?_
  | with_reducible refine' wgs_nil ?_
  | with_reducible refine' wgs_cons ?_
  | ((with_reducible refine' wg_tup ?ht ?hn ?_); (case ht => walk_at "ist"); (case hn => rfl))
  | with_reducible refine' w2_add ?_
  | with_reducible refine' w2_sub ?_
  | with_reducible refine' w2_lt ?_
  | with_reducible refine' w2_le ?_
  | with_reducible refine' w2_gt ?_
  | with_reducible refine' w2_ge ?_
  | with_reducible refine' w2_eqI ?_
  | with_reducible refine' w2_neI ?_
  | with_reducible refine' w2_eqT ?_
  | with_reducible refine' w2_neT ?_
  | with_reducible refine' w2_eqB ?_
  | with_reducible refine' w2_neB ?_
  | with_reducible refine' w2_isN ?_
  | with_reducible refine' w2_notN ?_
  | with_reducible refine' w2_isB ?_
  | with_reducible refine' w2_inT ?_
  | with_reducible refine' w1_neg ?_
  | with_reducible refine' wl_abs ?_
  | with_reducible refine' wl_max2 ?_
  | with_reducible refine' wl_min2 ?_
  | with_reducible refine' wl_intB ?_
  | ((with_reducible refine' w2_div ?h ?_); case h => first | omega | (constructor <;> omega))
  | ((with_reducible refine' w2_mod ?h ?_); case h => omega)
  | ((with_reducible refine' w2_catT ?h ?_); case h => walk_at "len")
  | ((with_reducible refine' wsl_T ?h ?_); case h => walk_at "len")
  | ((with_reducible refine' wl_lenT ?h ?_); case h => walk_at "len")
  | ((with_reducible refine' wl_len ?h ?_); case h => walk_at "isl")
  | ((with_reducible refine' wl_len ?h ?_); case h => walk_at "isl")
  | ((with_reducible refine' wm_append ?sw ?hl ?_); (case sw => walk_at "swap"); (case hl => walk_at "len")))
local macro_rules | `(tactic| walk_at "b1") => `(tactic| first | with_reducible refine' ws_seq ?_ | walk_at "b0")
local macro_rules | `(tactic| walk_at "bx") => `(tactic| first
  | refine ⟨_, rfl, ?_⟩
  | refine ⟨_, _, rfl, ?_⟩
  | refine ⟨ty_L (by walk_at "isl"), ?_⟩
  | refine ⟨ty_S, ?_⟩
  | refine spl_t (by rfl) ?_
  | refine spl_f (by rfl) ?_
  | exact rfl)
local macro_rules | `(tactic| walk_at "bm") => `(tactic| repeat (first | walk_at "b1" | walk_at "bx"))
local macro_rules | `(tactic| walk_at "bn") => `(tactic| repeat (first | walk_at "b0" | walk_at "bx"))
local macro_rules | `(tactic| walk_at "b0") => `(tactic| with_reducible refine' c_deepens ?_)
local macro_rules | `(tactic| walk_at "b0") => `(tactic| ((with_reducible refine' c_depths_of ?hl ?_); (case hl => walk_at "len")))
local macro_rules | `(tactic| walk_at "b0") => `(tactic| with_reducible refine' c_is_wholeI ?_)
local macro_rules | `(tactic| walk_at "b0") => `(tactic| with_reducible refine' c_flipped ?_)
local macro_rules | `(tactic| walk_at "b0") => `(tactic| ((with_reducible refine' c_is_right_row ?hl ?_); (case hl => walk_at "len")))
local macro_rules | `(tactic| walk_at "b0") => `(tactic| ((with_reducible refine' c_asked_row ?hl ?_); (case hl => walk_at "len")))
local macro_rules | `(tactic| walk_at "b0") => `(tactic| ((with_reducible refine' c_depths ?hl ?_); (case hl => walk_at "len")))
local macro_rules | `(tactic| walk_at "b0") => `(tactic| ((with_reducible refine' c_is_right ?hl ?_); (case hl => walk_at "len")))
local macro_rules | `(tactic| walk_at "b0") => `(tactic| ((with_reducible refine' c__law_depths ?hl ?_); (case hl => walk_at "len")))
local macro_rules | `(tactic| walk_at "b0") => `(tactic| ((with_reducible refine' c__law_good ?hl ?_); (case hl => walk_at "len")))
local macro_rules | `(tactic| walk_at "b0") => `(tactic| ((with_reducible refine' wl_listOf ?hx ?_); (case hx => walk_at "isl")))
local macro_rules | `(tactic| walk_at "b0") => `(tactic| with_reducible refine' w2_notB ?_)
local macro_rules | `(tactic| walk_at "own") => `(tactic| exact own_l (by walk_at "mem"))
local macro_rules | `(tactic| walk_at "b0") => `(tactic| with_reducible refine' we_fld ?_)
local macro_rules | `(tactic| walk_at "b0") => `(tactic| refine ⟨_, _, _, _, _, rfl, own_l (by walk_at "mem"), Grw.cl (by assumption), Grw.nr (by assumption), by rfl, ?_⟩)
local macro_rules | `(tactic| walk_at "b0") => `(tactic| refine ⟨_, _, _, _, _, rfl, fun H' o => o.ex _ _ (by assumption), Grw.cl (by assumption), Grw.nr (by assumption), by rfl, ?_⟩)
theorem lp_rngC {H0 : Hp} {σ : L2.St} {s : Ld} {D : Dl} {t1 : TS} {g : TG} {lo c : Int} {m : Nat} (I : Nat → L2.St → Ld → Prop) (h0 : I 0 σ s)
    (hs : ∀ i σ s, i < m → I i σ s → WG H0 g (.int (lo + (i : Int) * c)) σ s fun σ2 s2 => WS H0 t1 σ2 s2 (turnD D (I (i + 1)))) (hd : ∀ σ s, I m σ s → D.nx σ s) : LoopOk H0 (Itc lo c m) g t1 σ s D :=
  ⟨m, _, _, walk_rangeC, I, h0, fun i σ s H hi q o => trivial, fun i x σ s H H' hi q o ⟨e, ex⟩ => ⟨s, by rw [e]; exact o, by rw [ex]; exact hs i σ s hi q⟩, hd⟩
end BM
namespace BM
open PySem L2 Evl
local macro_rules | `(tactic| walk_at "mem") => `(tactic| first | exact List.mem_cons_self | (refine List.mem_cons_of_mem _ ?_; walk_at "mem"))
local macro_rules | `(tactic| walk_at "swap") => `(tactic| first | exact Swap.here | (apply Swap.there; walk_at "swap"))
local macro_rules | `(tactic| walk_at "subl") => `(tactic| first | exact List.Sublist.refl _ | exact List.nil_sublist _ | (refine List.Sublist.cons_cons _ ?_; walk_at "subl") | (refine List.Sublist.cons _ ?_; walk_at "subl"))
local macro_rules | `(tactic| walk_at "sub") => `(tactic| first | exact Sub.refl _ | (refine ⟨?_, ?_⟩ <;> walk_at "subl"))
local macro_rules | `(tactic| walk_at "isl") => `(tactic| first | exact isL_own (by walk_at "mem") | exact isL_old (by assumption) | assumption)
local macro_rules | `(tactic| walk_at "ist") => `(tactic| first | exact isT_own (by walk_at "mem") | exact isT_old (by assumption) | assumption)
local macro_rules | `(tactic| walk_at "len") => `(tactic| first | omega | decide | (simp only [List.length_map, List.length_take, List.length_drop, List.length_append, List.length_cons, List.length_nil, List.length_reverse, dps_len, flp_len]; omega) | (simp [dps_len, flp_len]; omega) | simp)
local macro_rules | `(tactic| walk_at "b0") => `(tactic| first
  | with_reducible refine' ws_set ?_
  | with_reducible refine' ws_par ?_
  | with_reducible refine' ws_asg ?_
  | with_reducible refine' ws_drop ?_
  | with_reducible refine' ws_ret ?_
  | with_reducible refine' ws_if ?_
  | with_reducible refine' ws_next ?_
  | with_reducible refine' ws_brk ?_
  | with_reducible refine' ws_cont ?_
  | ((with_reducible refine' we_var ?hv ?_); case hv => rfl)
  | with_reducible refine' we_c ?_
  | with_reducible refine' we_op ?_
  | with_reducible refine' we_un ?_
  | with_reducible refine' we_if ?_
  | with_reducible refine' we_and ?_
  | with_reducible refine' we_or ?_
  | with_reducible refine' we_not ?_
  | with_reducible refine' wa_nil ?_
  | with_reducible refine' wa_cons ?_
  | (with_reducible refine' we_lst ?_)
  | (with_reducible refine' we_tup ?_)
  | with_reducible refine' we_cb ?_
  | with_reducible refine' we_call0 ?_
  | with_reducible refine' we_sl ?_
  | with_reducible refine' wo_none ?_
  | (with_reducible refine' wo_some ?_)
  | with_reducible refine' wt_test ?_
  | with_reducible refine' wt_B ?_
  | with_reducible refine' wt_and ?_
  | with_reducible refine' wt_or ?_
  | with_reducible refine' wt_not ?_
  | with_reducible refine' wt_yes ?_
  | with_reducible refine' we_chain ?_
  | with_reducible refine' we_chain3 ?_
  | with_reducible refine' we_revT ?_
  | with_reducible refine' we_revL ?_
  | with_reducible refine' we_bm ?_
  | with_reducible refine' we_bm0 ?_
  | with_reducible refine' ws_for ?_
  | with_reducible refine' we_lc ?_
  | with_reducible refine' wi_list ?_
  | with_reducible refine' wi_tup ?_
  | with_reducible refine' wi_T ?_
  | with_reducible refine' wi_rng1 ?_
  | with_reducible refine' wi_rng2 ?_
  | with_reducible refine' wi_rng3 ?_
  | with_reducible refine' wi_enum ?_
  | with_reducible refine' wi_enumT ?_
  | with_reducible refine' wi_zip ?_
  | with_reducible refine' wg_name ?_
  | with_reducible refine' wg_sub ?_
  | with_reducible refine' wgs_nil ?_
  | with_reducible refine' wgs_cons ?_
  | ((with_reducible refine' wg_tup ?ht ?hn ?_); (case ht => walk_at "ist"); (case hn => rfl))
  | with_reducible refine' w2_add ?_
  | with_reducible refine' w2_sub ?_
  | with_reducible refine' w2_lt ?_
  | with_reducible refine' w2_le ?_
  | with_reducible refine' w2_gt ?_
  | with_reducible refine' w2_ge ?_
  | with_reducible refine' w2_eqI ?_
  | with_reducible refine' w2_neI ?_
  | with_reducible refine' w2_eqT ?_
  | with_reducible refine' w2_neT ?_
  | with_reducible refine' w2_eqB ?_
  | with_reducible refine' w2_neB ?_
  | with_reducible refine' w2_isN ?_
  | with_reducible refine' w2_notN ?_
  | with_reducible refine' w2_isB ?_
  | with_reducible refine' w2_inT ?_
  | with_reducible refine' w1_neg ?_
  | with_reducible refine' wl_abs ?_
  | with_reducible refine' wl_max2 ?_
  | with_reducible refine' wl_min2 ?_
  | with_reducible refine' wl_intB ?_
  | ((with_reducible refine' w2_div ?h ?_); case h => first | omega | (constructor <;> omega))
  | ((with_reducible refine' w2_mod ?h ?_); case h => omega)
  | ((with_reducible refine' w2_catT ?h ?_); case h => walk_at "len")
  | ((with_reducible refine' wsl_T ?h ?_); case h => walk_at "len")
  | ((with_reducible refine' wl_lenT ?h ?_); case h => walk_at "len")
  | ((with_reducible refine' wl_len ?h ?_); case h => walk_at "isl")
  | ((with_reducible refine' wl_len ?h ?_); case h => walk_at "isl")
  | ((with_reducible refine' wm_append ?sw ?hl ?_); (case sw => walk_at "swap"); (case hl => walk_at "len")))
local macro_rules | `(tactic| walk_at "b1") => `(tactic| first | with_reducible refine' ws_seq ?_ | walk_at "b0")
local macro_rules | `(tactic| walk_at "bx") => `(tactic| first
  | refine ⟨_, rfl, ?_⟩
  | refine ⟨_, _, rfl, ?_⟩
  | refine ⟨ty_L (by walk_at "isl"), ?_⟩
  | refine ⟨ty_S, ?_⟩
  | refine spl_t (by rfl) ?_
  | refine spl_f (by rfl) ?_
  | exact rfl)
local macro_rules | `(tactic| walk_at "bm") => `(tactic| repeat (first | walk_at "b1" | walk_at "bx"))
local macro_rules | `(tactic| walk_at "bn") => `(tactic| repeat (first | walk_at "b0" | walk_at "bx"))
local macro_rules | `(tactic| walk_at "b0") => `(tactic| with_reducible refine' c_deepens ?_)
local macro_rules | `(tactic| walk_at "b0") => `(tactic| ((with_reducible refine' c_depths_of ?hl ?_); (case hl => walk_at "len")))
local macro_rules | `(tactic| walk_at "b0") => `(tactic| with_reducible refine' c_is_wholeI ?_)
local macro_rules | `(tactic| walk_at "b0") => `(tactic| with_reducible refine' c_flipped ?_)
local macro_rules | `(tactic| walk_at "b0") => `(tactic| ((with_reducible refine' c_is_right_row ?hl ?_); (case hl => walk_at "len")))
local macro_rules | `(tactic| walk_at "b0") => `(tactic| ((with_reducible refine' c_asked_row ?hl ?_); (case hl => walk_at "len")))
local macro_rules | `(tactic| walk_at "b0") => `(tactic| ((with_reducible refine' c_depths ?hl ?_); (case hl => walk_at "len")))
local macro_rules | `(tactic| walk_at "b0") => `(tactic| ((with_reducible refine' c_is_right ?hl ?_); (case hl => walk_at "len")))
local macro_rules | `(tactic| walk_at "b0") => `(tactic| ((with_reducible refine' c__law_depths ?hl ?_); (case hl => walk_at "len")))
local macro_rules | `(tactic| walk_at "b0") => `(tactic| ((with_reducible refine' c__law_good ?hl ?_); (case hl => walk_at "len")))
local macro_rules | `(tactic| walk_at "b0") => `(tactic| ((with_reducible refine' wl_listOf ?hx ?_); (case hx => walk_at "isl")))
local macro_rules | `(tactic| walk_at "b0") => `(tactic| with_reducible refine' w2_notB ?_)
local macro_rules | `(tactic| walk_at "own") => `(tactic| exact own_l (by walk_at "mem"))
local macro_rules | `(tactic| walk_at "b0") => `(tactic| with_reducible refine' we_fld ?_)
local macro_rules | `(tactic| walk_at "b0") => `(tactic| refine ⟨_, _, _, _, _, rfl, own_l (by walk_at "mem"), Grw.cl (by assumption), Grw.nr (by assumption), by rfl, ?_⟩)
local macro_rules | `(tactic| walk_at "b0") => `(tactic| refine ⟨_, _, _, _, _, rfl, fun H' o => o.ex _ _ (by assumption), Grw.cl (by assumption), Grw.nr (by assumption), by rfl, ?_⟩)
local macro_rules | `(tactic| walk_at "b0") => `(tactic| with_reducible refine' we_meth ?_)
local macro_rules | `(tactic| walk_at "b0") => `(tactic| refine ⟨_, _, _, rfl, own_l (by walk_at "mem"), by rfl, ?_⟩)
local macro_rules | `(tactic| walk_at "b0") => `(tactic| refine ⟨_, _, _, rfl, fun H' o => o.ex _ _ (by assumption), by rfl, ?_⟩)
local macro_rules | `(tactic| walk_at "gown") => `(tactic| first | exact own_l (by walk_at "mem") | exact fun H' o => o.ex _ _ (by assumption))
/-! the ask -/
end BM
namespace BM
open PySem L2 Evl
local macro_rules | `(tactic| walk_at "mem") => `(tactic| first | exact List.mem_cons_self | (refine List.mem_cons_of_mem _ ?_; walk_at "mem"))
local macro_rules | `(tactic| walk_at "swap") => `(tactic| first | exact Swap.here | (apply Swap.there; walk_at "swap"))
local macro_rules | `(tactic| walk_at "subl") => `(tactic| first | exact List.Sublist.refl _ | exact List.nil_sublist _ | (refine List.Sublist.cons_cons _ ?_; walk_at "subl") | (refine List.Sublist.cons _ ?_; walk_at "subl"))
local macro_rules | `(tactic| walk_at "sub") => `(tactic| first | exact Sub.refl _ | (refine ⟨?_, ?_⟩ <;> walk_at "subl"))
local macro_rules | `(tactic| walk_at "isl") => `(tactic| first | exact isL_own (by walk_at "mem") | exact isL_old (by assumption) | assumption)
local macro_rules | `(tactic| walk_at "ist") => `(tactic| first | exact isT_own (by walk_at "mem") | exact isT_old (by assumption) | assumption)
local macro_rules | `(tactic| walk_at "len") => `(tactic| first | omega | decide | (simp only [List.length_map, List.length_take, List.length_drop, List.length_append, List.length_cons, List.length_nil, List.length_reverse, dps_len, flp_len]; omega) | (simp [dps_len, flp_len]; omega) | simp)
local macro_rules | `(tactic| walk_at "b0") => `(tactic| first
  | with_reducible refine' ws_set ?_
  | with_reducible refine' ws_par ?_
  | with_reducible refine' ws_asg ?_
  | with_reducible refine' ws_drop ?_
  | with_reducible refine' ws_ret ?_
  | with_reducible refine' ws_if ?_
  | with_reducible refine' ws_next ?_
  | with_reducible refine' ws_brk ?_
  | with_reducible refine' ws_cont ?_
  | ((with_reducible refine' we_var ?hv ?_); case hv => rfl)
  | with_reducible refine' we_c ?_
  | with_reducible refine' we_op ?_
  | with_reducible refine' we_un ?_
  | with_reducible refine' we_if ?_
  | with_reducible refine' we_and ?_
  | with_reducible refine' we_or ?_
  | with_reducible refine' we_not ?_
  | with_reducible refine' wa_nil ?_
  | with_reducible refine' wa_cons ?_
  | (with_reducible refine' we_lst ?_)
  | (with_reducible refine' we_tup ?_)
  | with_reducible refine' we_cb ?_
  | with_reducible refine' we_call0 ?_
  | with_reducible refine' we_sl ?_
  | with_reducible refine' wo_none ?_
  | (with_reducible refine' wo_some ?_)
  | with_reducible refine' wt_test ?_
  | with_reducible refine' wt_B ?_
  | with_reducible refine' wt_and ?_
  | with_reducible refine' wt_or ?_
  | with_reducible refine' wt_not ?_
  | with_reducible refine' wt_yes ?_
  | with_reducible refine' we_chain ?_
  | with_reducible refine' we_chain3 ?_
  | with_reducible refine' we_revT ?_
  | with_reducible refine' we_revL ?_
  | with_reducible refine' we_bm ?_
  | with_reducible refine' we_bm0 ?_
  | with_reducible refine' ws_for ?_
  | with_reducible refine' we_lc ?_
  | with_reducible refine' wi_list ?_
  | with_reducible refine' wi_tup ?_
  | with_reducible refine' wi_T ?_
  | with_reducible refine' wi_rng1 ?_
  | with_reducible refine' wi_rng2 ?_
  | with_reducible refine' wi_rng3 ?_
  | with_reducible refine' wi_enum ?_
  | with_reducible refine' wi_enumT ?_
  | with_reducible refine' wi_zip ?_
  | with_reducible refine' wg_name ?_
  | with_reducible refine' wg_sub ?_
  | with_reducible refine' wgs_nil ?_
  | with_reducible refine' wgs_cons ?_
  | ((with_reducible refine' wg_tup ?ht ?hn ?_); (case ht => walk_at "ist"); (case hn => rfl))
  | with_reducible refine' w2_add ?_
  | with_reducible refine' w2_sub ?_
  | with_reducible refine' w2_lt ?_
  | with_reducible refine' w2_le ?_
  | with_reducible refine' w2_gt ?_
  | with_reducible refine' w2_ge ?_
  | with_reducible refine' w2_eqI ?_
  | with_reducible refine' w2_neI ?_
  | with_reducible refine' w2_eqT ?_
  | with_reducible refine' w2_neT ?_
  | with_reducible refine' w2_eqB ?_
  | with_reducible refine' w2_neB ?_
  | with_reducible refine' w2_isN ?_
  | with_reducible refine' w2_notN ?_
  | with_reducible refine' w2_isB ?_
  | with_reducible refine' w2_inT ?_
  | with_reducible refine' w1_neg ?_
  | with_reducible refine' wl_abs ?_
  | with_reducible refine' wl_max2 ?_
  | with_reducible refine' wl_min2 ?_
  | with_reducible refine' wl_intB ?_
  | ((with_reducible refine' w2_div ?h ?_); case h => first | omega | (constructor <;> omega))
  | ((with_reducible refine' w2_mod ?h ?_); case h => omega)
  | ((with_reducible refine' w2_catT ?h ?_); case h => walk_at "len")
  | ((with_reducible refine' wsl_T ?h ?_); case h => walk_at "len")
  | ((with_reducible refine' wl_lenT ?h ?_); case h => walk_at "len")
  | ((with_reducible refine' wl_len ?h ?_); case h => walk_at "isl")
  | ((with_reducible refine' wl_len ?h ?_); case h => walk_at "isl")
  | ((with_reducible refine' wm_append ?sw ?hl ?_); (case sw => walk_at "swap"); (case hl => walk_at "len")))
local macro_rules | `(tactic| walk_at "b1") => `(tactic| first | with_reducible refine' ws_seq ?_ | walk_at "b0")
local macro_rules | `(tactic| walk_at "bx") => `(tactic| first
  | refine ⟨_, rfl, ?_⟩
  | refine ⟨_, _, rfl, ?_⟩
  | refine ⟨ty_L (by walk_at "isl"), ?_⟩
  | refine ⟨ty_S, ?_⟩
  | refine spl_t (by rfl) ?_
  | refine spl_f (by rfl) ?_
  | exact rfl)
local macro_rules | `(tactic| walk_at "bm") => `(tactic| repeat (first | walk_at "b1" | walk_at "bx"))
local macro_rules | `(tactic| walk_at "bn") => `(tactic| repeat (first | walk_at "b0" | walk_at "bx"))
local macro_rules | `(tactic| walk_at "b0") => `(tactic| with_reducible refine' c_deepens ?_)
local macro_rules | `(tactic| walk_at "b0") => `(tactic| ((with_reducible refine' c_depths_of ?hl ?_); (case hl => walk_at "len")))
local macro_rules | `(tactic| walk_at "b0") => `(tactic| with_reducible refine' c_is_wholeI ?_)
local macro_rules | `(tactic| walk_at "b0") => `(tactic| with_reducible refine' c_flipped ?_)
local macro_rules | `(tactic| walk_at "b0") => `(tactic| ((with_reducible refine' c_is_right_row ?hl ?_); (case hl => walk_at "len")))
local macro_rules | `(tactic| walk_at "b0") => `(tactic| ((with_reducible refine' c_asked_row ?hl ?_); (case hl => walk_at "len")))
local macro_rules | `(tactic| walk_at "b0") => `(tactic| ((with_reducible refine' c_depths ?hl ?_); (case hl => walk_at "len")))
local macro_rules | `(tactic| walk_at "b0") => `(tactic| ((with_reducible refine' c_is_right ?hl ?_); (case hl => walk_at "len")))
local macro_rules | `(tactic| walk_at "b0") => `(tactic| ((with_reducible refine' c__law_depths ?hl ?_); (case hl => walk_at "len")))
local macro_rules | `(tactic| walk_at "b0") => `(tactic| ((with_reducible refine' c__law_good ?hl ?_); (case hl => walk_at "len")))
local macro_rules | `(tactic| walk_at "b0") => `(tactic| ((with_reducible refine' wl_listOf ?hx ?_); (case hx => walk_at "isl")))
local macro_rules | `(tactic| walk_at "b0") => `(tactic| with_reducible refine' w2_notB ?_)
local macro_rules | `(tactic| walk_at "own") => `(tactic| exact own_l (by walk_at "mem"))
local macro_rules | `(tactic| walk_at "b0") => `(tactic| with_reducible refine' we_fld ?_)
local macro_rules | `(tactic| walk_at "b0") => `(tactic| refine ⟨_, _, _, _, _, rfl, own_l (by walk_at "mem"), Grw.cl (by assumption), Grw.nr (by assumption), by rfl, ?_⟩)
local macro_rules | `(tactic| walk_at "b0") => `(tactic| refine ⟨_, _, _, _, _, rfl, fun H' o => o.ex _ _ (by assumption), Grw.cl (by assumption), Grw.nr (by assumption), by rfl, ?_⟩)
local macro_rules | `(tactic| walk_at "b0") => `(tactic| with_reducible refine' we_meth ?_)
local macro_rules | `(tactic| walk_at "b0") => `(tactic| refine ⟨_, _, _, rfl, own_l (by walk_at "mem"), by rfl, ?_⟩)
local macro_rules | `(tactic| walk_at "b0") => `(tactic| refine ⟨_, _, _, rfl, fun H' o => o.ex _ _ (by assumption), by rfl, ?_⟩)
local macro_rules | `(tactic| walk_at "gown") => `(tactic| first | exact own_l (by walk_at "mem") | exact fun H' o => o.ex _ _ (by assumption))
end BM
namespace BM
open PySem PySem.Spec PyProof.Rows L2 Evl
/-! ### counting signs, the place of a number -/
theorem cnt_T (b : Bool) : ∀ r : List Bool, cnt (B b) (r.map B) = (r.count b : Int)
  | [] => rfl
  | a :: r => by
    rw [List.map_cons, cnt_cons, cnt_T b r, List.count_cons]
    by_cases e : a = b
    · subst e
      simp
      omega
    · have e2 : ¬ B a = B b := fun h => e (B_inj h)
      simp [e, e2]
theorem count_T (r : List Bool) (b : Bool) : Txt.count (T r) (T [b]) = (r.count b : Int) := by
  rw [← cnt_T b r, ← T_list]
  exact count_cnt (T r) (B b)
def aCountT : V → List V → Hp → VK → Prop := fun x xs H Q => ∃ (r : List Bool) (b : Bool), x = .str (T r) ∧ xs = [.str (T [b])] ∧ Q (.int (r.count b : Int)) H
def aIndex (K : PySem.W.Frag) : V → List V → Hp → VK → Prop := fun x xs H Q => ∃ (a : Addr) (ns : List Int) (n : Int) (j : Nat), x = .ref a ∧ xs = [.int n] ∧ SqL K H a (ns.map V.int) ∧ ns[j]? = some n ∧ (∀ m, m < j → ns[m]? ≠ some n) ∧ Q (.int (j : Int)) H
section
variable {X : Cx}
theorem m_countT : MtR X "str.count" aCountT := MtR.imp mt_count fun x xs H Q ⟨r, b, e1, e2, q⟩ => ⟨T r, T [b], e1, e2, by rw [count_T]; exact q⟩
theorem m_index : MtR X "list.index" (aIndex X.K) := MtR.imp mt_index fun x xs H Q ⟨a, ns, n, j, e1, e2, hs, hj, hn, q⟩ => ⟨a, ns.map V.int, .int n, j, .int n, e1, e2, hs, rfl, by rw [List.all_map, List.all_eq_true]; exact fun _ _ => rfl, by rw [List.getElem?_map, hj]; rfl, by show (n == n) = true; simp, fun m z hm hz => by
  rw [List.getElem?_map] at hz
  cases e : ns[m]? with
  | none => rw [e] at hz; cases hz
  | some k =>
    rw [e] at hz
    cases hz
    show (k == n) = false
    have : k ≠ n := fun h => hn m hm (by rw [e, h])
    simpa using this, q⟩
end
section
variable {K : PySem.W.Frag} {H0 : Hp} {σ : L2.St} {s : Ld} {Q : V → Ld → Prop} {x : V}
theorem wm_countT {r : List Bool} {b : Bool} (q : Q (.int (r.count b : Int)) s) : WM H0 aCountT (.str (T r)) [.str (T [b])] s Q := fun H o R k => ⟨r, b, rfl, rfl, k _ H s o q⟩
theorem wm_index {a : Addr} {ns : List Int} {n : Int} {j : Nat} (hx : IsL K H0 s a (ns.map V.int)) (hj : ns[j]? = some n) (hn : ∀ m, m < j → ns[m]? ≠ some n) (q : Q (.int (j : Int)) s) : WM H0 (aIndex K) (.ref a) [.int n] s Q := fun H o R k => ⟨a, ns, n, j, rfl, rfl, hx H o, hj, hn, k _ H s o q⟩
end
/-- a class of answers as it stands -/
structure Anc (K : PySem.W.Frag) (C : Addr) : Prop where
  cl : Cls K C
  ha : PySem.W.findIn K (.ref C) "__class__" = some (some (.builtin "object.__class__"))
  hn : PySem.W.specialIn K (.builtin "object.__class__") "__get__" = some (some (.builtin "getset_descriptor.__get__"))
  ht : PySem.W.takesIn K (.builtin "object.__class__") = some true
  hm : PySem.W.mroIn K C (.type "object") = some true
theorem Anc.ty {K : PySem.W.Frag} {C a dx : Addr} {H : Hp} {fs : List (Str × V)} (h : Anc K C) (e : H a = some (.ins C dx fs)) : TyX K H (.ref a) (.ref C) := .base (.ins e h.cl h.ha h.hn h.ht h.hm)
/-! ### a method of one of two classes -/
section
variable {X : Cx} {CX : CXT} {k1 k2 : Nat} {f1 f2 C1 C2 : Addr} {fd1 fd2 : FuncData} {ps1 ps2 : List Str} {sp1 sp2 : Sp} {E : XK} {m : Str} {pos apos : Pos} {e o : Expr} {es : List Expr} {ta : TE} {t : TA}
def tMethU (C1 C2 : Addr) (m : Str) (sp1 sp2 : Sp) (E : XK) (ta : TE) (t : TA) : TE := fun σ H Q => ta σ H fun x H1 => ∃ a C dx fs, x = .ref a ∧ H1 a = some (.ins C dx fs) ∧ fs.lookup m = none ∧ ((C = C1 ∧ t σ H1 fun vs H2 => sp1 (x :: vs) H2 Q E) ∨ (C = C2 ∧ t σ H1 fun vs H2 => sp2 (x :: vs) H2 Q E))
end
section
variable {K : PySem.W.Frag} {H0 : Hp} {σ : L2.St} {s : Ld} {ta : TA} {te : TE} {Q : V → Ld → Prop} {m : Str} {E : XK} {C1 C2 : Addr} {sp1 sp2 : Sp}
theorem we_methU (h : WE H0 te σ s fun x s1 => ∃ a C dx fs, x = .ref a ∧ (∀ H, Own H0 H s1 → H a = some (.ins C dx fs)) ∧ fs.lookup m = none ∧ ((C = C1 ∧ WA H0 ta σ s1 fun vs s2 => WC H0 sp1 E (x :: vs) s2 Q) ∨ (C = C2 ∧ WA H0 ta σ s1 fun vs s2 => WC H0 sp2 E (x :: vs) s2 Q))) : WE H0 (tMethU C1 C2 m sp1 sp2 E te ta) σ s Q := fun H o R k =>
  h H o _ fun x H1 s1 o1 ⟨a, C, dx, fs, e, ha, hl, h1⟩ => ⟨a, C, dx, fs, e, ha H1 o1, hl, h1.imp (fun ⟨e, h1⟩ => ⟨e, h1 H1 o1 _ fun vs H2 s2 o2 h2 => h2 H2 o2 R k⟩) (fun ⟨e, h1⟩ => ⟨e, h1 H1 o1 _ fun vs H2 s2 o2 h2 => h2 H2 o2 R k⟩)⟩
end
end BM
namespace BM
open PySem L2 Evl
local macro_rules | `(tactic| walk_at "mem") => `(tactic| first | exact List.mem_cons_self | (refine List.mem_cons_of_mem _ ?_; walk_at "mem"))
local macro_rules | `(tactic| walk_at "swap") => `(tactic| first | exact Swap.here | (apply Swap.there; walk_at "swap"))
local macro_rules | `(tactic| walk_at "subl") => `(tactic| first | exact List.Sublist.refl _ | exact List.nil_sublist _ | (refine List.Sublist.cons_cons _ ?_; walk_at "subl") | (refine List.Sublist.cons _ ?_; walk_at "subl"))
local macro_rules | `(tactic| walk_at "sub") => `(tactic| first | exact Sub.refl _ | (refine ⟨?_, ?_⟩ <;> walk_at "subl"))
local macro_rules | `(tactic| walk_at "isl") => `(tactic| first | exact isL_own (by walk_at "mem") | exact isL_old (by assumption) | assumption)
local macro_rules | `(tactic| walk_at "ist") => `(tactic| first | exact isT_own (by walk_at "mem") | exact isT_old (by assumption) | assumption)
local macro_rules | `(tactic| walk_at "len") => `(tactic| first | omega | decide | (simp only [List.length_map, List.length_take, List.length_drop, List.length_append, List.length_cons, List.length_nil, List.length_reverse, dps_len, flp_len]; omega) | (simp [dps_len, flp_len]; omega) | simp)
local macro_rules | `(tactic| walk_at "b0") => `(tactic| first
  | with_reducible refine' ws_set ?_
  | with_reducible refine' ws_par ?_
  | with_reducible refine' ws_asg ?_
  | with_reducible refine' ws_drop ?_
  | with_reducible refine' ws_ret ?_
  | with_reducible refine' ws_if ?_
  | with_reducible refine' ws_next ?_
  | with_reducible refine' ws_brk ?_
  | with_reducible refine' ws_cont ?_
  | ((with_reducible refine' we_var ?hv ?_); case hv => rfl)
  | with_reducible refine' we_c ?_
  | with_reducible refine' we_op ?_
  | with_reducible refine' we_un ?_
  | with_reducible refine' we_if ?_
  | with_reducible refine' we_and ?_
  | with_reducible refine' we_or ?_
  | with_reducible refine' we_not ?_
  | with_reducible refine' wa_nil ?_
  | with_reducible refine' wa_cons ?_
  | (with_reducible refine' we_lst ?_)
  | (with_reducible refine' we_tup ?_)
  | with_reducible refine' we_cb ?_
  | with_reducible refine' we_call0 ?_
  | with_reducible refine' we_sl ?_
  | with_reducible refine' wo_none ?_
  | (with_reducible refine' wo_some ?_)
  | with_reducible refine' wt_test ?_
  | with_reducible refine' wt_B ?_
  | with_reducible refine' wt_and ?_
  | with_reducible refine' wt_or ?_
  | with_reducible refine' wt_not ?_
  | with_reducible refine' wt_yes ?_
  | with_reducible refine' we_chain ?_
  | with_reducible refine' we_chain3 ?_
  | with_reducible refine' we_revT ?_
  | with_reducible refine' we_revL ?_
  | with_reducible refine' we_bm ?_
  | with_reducible refine' we_bm0 ?_
  | with_reducible refine' ws_for ?_
  | with_reducible refine' we_lc ?_
  | with_reducible refine' wi_list ?_
  | with_reducible refine' wi_tup ?_
  | with_reducible refine' wi_T ?_
  | with_reducible refine' wi_rng1 ?_
  | with_reducible refine' wi_rng2 ?_
  | with_reducible refine' wi_rng3 ?_
  | with_reducible refine' wi_enum ?_
  | with_reducible refine' wi_enumT ?_
  | with_reducible refine' wi_zip ?_
  | with_reducible refine' wg_name ?_
  | with_reducible refine' wg_sub ?_
  | with_reducible refine' wgs_nil ?_
  | with_reducible refine' wgs_cons ?_
  | ((with_reducible refine' wg_tup ?ht ?hn ?_); (case ht => walk_at "ist"); (case hn => rfl))
  | with_reducible refine' w2_add ?_
  | with_reducible refine' w2_sub ?_
  | with_reducible refine' w2_lt ?_
  | with_reducible refine' w2_le ?_
  | with_reducible refine' w2_gt ?_
  | with_reducible refine' w2_ge ?_
  | with_reducible refine' w2_eqI ?_
  | with_reducible refine' w2_neI ?_
  | with_reducible refine' w2_eqT ?_
  | with_reducible refine' w2_neT ?_
  | with_reducible refine' w2_eqB ?_
  | with_reducible refine' w2_neB ?_
  | with_reducible refine' w2_isN ?_
  | with_reducible refine' w2_notN ?_
  | with_reducible refine' w2_isB ?_
  | with_reducible refine' w2_inT ?_
  | with_reducible refine' w1_neg ?_
  | with_reducible refine' wl_abs ?_
  | with_reducible refine' wl_max2 ?_
  | with_reducible refine' wl_min2 ?_
  | with_reducible refine' wl_intB ?_
  | ((with_reducible refine' w2_div ?h ?_); case h => first | omega | (constructor <;> omega))
  | ((with_reducible refine' w2_mod ?h ?_); case h => omega)
  | ((with_reducible refine' w2_catT ?h ?_); case h => walk_at "len")
  | ((with_reducible refine' wsl_T ?h ?_); case h => walk_at "len")
  | ((with_reducible refine' wl_lenT ?h ?_); case h => walk_at "len")
  | ((with_reducible refine' wl_len ?h ?_); case h => walk_at "isl")
  | ((with_reducible refine' wl_len ?h ?_); case h => walk_at "isl")
  | ((with_reducible refine' wm_append ?sw ?hl ?_); (case sw => walk_at "swap"); (case hl => walk_at "len")))
local macro_rules | `(tactic| walk_at "b1") => `(tactic| first | with_reducible refine' ws_seq ?_ | walk_at "b0")
local macro_rules | `(tactic| walk_at "bx") => `(tactic| first
  | refine ⟨_, rfl, ?_⟩
  | refine ⟨_, _, rfl, ?_⟩
  | refine ⟨ty_L (by walk_at "isl"), ?_⟩
  | refine ⟨ty_S, ?_⟩
  | refine spl_t (by rfl) ?_
  | refine spl_f (by rfl) ?_
  | exact rfl)
local macro_rules | `(tactic| walk_at "bm") => `(tactic| repeat (first | walk_at "b1" | walk_at "bx"))
local macro_rules | `(tactic| walk_at "bn") => `(tactic| repeat (first | walk_at "b0" | walk_at "bx"))
local macro_rules | `(tactic| walk_at "b0") => `(tactic| with_reducible refine' c_deepens ?_)
local macro_rules | `(tactic| walk_at "b0") => `(tactic| ((with_reducible refine' c_depths_of ?hl ?_); (case hl => walk_at "len")))
local macro_rules | `(tactic| walk_at "b0") => `(tactic| with_reducible refine' c_is_wholeI ?_)
local macro_rules | `(tactic| walk_at "b0") => `(tactic| with_reducible refine' c_flipped ?_)
local macro_rules | `(tactic| walk_at "b0") => `(tactic| ((with_reducible refine' c_is_right_row ?hl ?_); (case hl => walk_at "len")))
local macro_rules | `(tactic| walk_at "b0") => `(tactic| ((with_reducible refine' c_asked_row ?hl ?_); (case hl => walk_at "len")))
local macro_rules | `(tactic| walk_at "b0") => `(tactic| ((with_reducible refine' c_depths ?hl ?_); (case hl => walk_at "len")))
local macro_rules | `(tactic| walk_at "b0") => `(tactic| ((with_reducible refine' c_is_right ?hl ?_); (case hl => walk_at "len")))
local macro_rules | `(tactic| walk_at "b0") => `(tactic| ((with_reducible refine' c__law_depths ?hl ?_); (case hl => walk_at "len")))
local macro_rules | `(tactic| walk_at "b0") => `(tactic| ((with_reducible refine' c__law_good ?hl ?_); (case hl => walk_at "len")))
local macro_rules | `(tactic| walk_at "b0") => `(tactic| ((with_reducible refine' wl_listOf ?hx ?_); (case hx => walk_at "isl")))
local macro_rules | `(tactic| walk_at "b0") => `(tactic| with_reducible refine' w2_notB ?_)
local macro_rules | `(tactic| walk_at "own") => `(tactic| exact own_l (by walk_at "mem"))
local macro_rules | `(tactic| walk_at "b0") => `(tactic| with_reducible refine' we_fld ?_)
local macro_rules | `(tactic| walk_at "b0") => `(tactic| refine ⟨_, _, _, _, _, rfl, own_l (by walk_at "mem"), Grw.cl (by assumption), Grw.nr (by assumption), by rfl, ?_⟩)
local macro_rules | `(tactic| walk_at "b0") => `(tactic| refine ⟨_, _, _, _, _, rfl, fun H' o => o.ex _ _ (by assumption), Grw.cl (by assumption), Grw.nr (by assumption), by rfl, ?_⟩)
local macro_rules | `(tactic| walk_at "b0") => `(tactic| with_reducible refine' we_meth ?_)
local macro_rules | `(tactic| walk_at "b0") => `(tactic| refine ⟨_, _, _, rfl, own_l (by walk_at "mem"), by rfl, ?_⟩)
local macro_rules | `(tactic| walk_at "b0") => `(tactic| refine ⟨_, _, _, rfl, fun H' o => o.ex _ _ (by assumption), by rfl, ?_⟩)
local macro_rules | `(tactic| walk_at "gown") => `(tactic| first | exact own_l (by walk_at "mem") | exact fun H' o => o.ex _ _ (by assumption))
local macro_rules | `(tactic| walk_at "b0") => `(tactic| with_reducible refine' wm_countT ?_)
theorem own_add {H0 H : Hp} {s : Ld} {p : Addr} {u : HO} (w : Own H0 H s) (h0 : H0 p = none) (hk : p ∉ s.L.map (·.1)) (h : H p = some u) : Own H0 H ⟨(p, u) :: s.L, s.T⟩ :=
  ⟨w.ex, List.nodup_cons.mpr ⟨hk, w.nd⟩, fun e he => by
    rcases List.mem_cons.mp he with rfl | h1
    · exact ⟨h0, h⟩
    · exact w.own e h1, w.tp⟩
theorem own_key {H0 H : Hp} {s : Ld} {p : Addr} (w : Own H0 H s) (hp : H p = none) : p ∉ s.L.map (·.1) := fun h => by
  obtain ⟨e, he, ee⟩ := List.mem_map.mp h
  have := (w.own e he).2
  rw [ee, hp] at this
  cases this
theorem sq_del {K : PySem.W.Frag} {H : Hp} {x a : Addr} {xs : List V} (h : a ≠ x) (hs : SqL K H a xs) : SqL K (del x H) a xs := by
  unfold SqL Rd at hs ⊢
  rw [del_ne h]
  exact hs
end BM
namespace BM
open PySem L2 Evl
local macro_rules | `(tactic| walk_at "mem") => `(tactic| first | exact List.mem_cons_self | (refine List.mem_cons_of_mem _ ?_; walk_at "mem"))
local macro_rules | `(tactic| walk_at "swap") => `(tactic| first | exact Swap.here | (apply Swap.there; walk_at "swap"))
local macro_rules | `(tactic| walk_at "subl") => `(tactic| first | exact List.Sublist.refl _ | exact List.nil_sublist _ | (refine List.Sublist.cons_cons _ ?_; walk_at "subl") | (refine List.Sublist.cons _ ?_; walk_at "subl"))
local macro_rules | `(tactic| walk_at "sub") => `(tactic| first | exact Sub.refl _ | (refine ⟨?_, ?_⟩ <;> walk_at "subl"))
local macro_rules | `(tactic| walk_at "isl") => `(tactic| first | exact isL_own (by walk_at "mem") | exact isL_old (by assumption) | assumption)
local macro_rules | `(tactic| walk_at "ist") => `(tactic| first | exact isT_own (by walk_at "mem") | exact isT_old (by assumption) | assumption)
local macro_rules | `(tactic| walk_at "len") => `(tactic| first | omega | decide | (simp only [List.length_map, List.length_take, List.length_drop, List.length_append, List.length_cons, List.length_nil, List.length_reverse, dps_len, flp_len]; omega) | (simp [dps_len, flp_len]; omega) | simp)
local macro_rules | `(tactic| walk_at "b0") => `(tactic| first
  | with_reducible refine' ws_set ?_
  | with_reducible refine' ws_par ?_
  | with_reducible refine' ws_asg ?_
  | with_reducible refine' ws_drop ?_
  | with_reducible refine' ws_ret ?_
  | with_reducible refine' ws_if ?_
  | with_reducible refine' ws_next ?_
  | with_reducible refine' ws_brk ?_
  | with_reducible refine' ws_cont ?_
  | ((with_reducible refine' we_var ?hv ?_); case hv => rfl)
  | with_reducible refine' we_c ?_
  | with_reducible refine' we_op ?_
  | with_reducible refine' we_un ?_
  | with_reducible refine' we_if ?_
  | with_reducible refine' we_and ?_
  | with_reducible refine' we_or ?_
  | with_reducible refine' we_not ?_
  | with_reducible refine' wa_nil ?_
  | with_reducible refine' wa_cons ?_
  | (with_reducible refine' we_lst ?_)
  | (with_reducible refine' we_tup ?_)
  | with_reducible refine' we_cb ?_
  | with_reducible refine' we_call0 ?_
  | with_reducible refine' we_sl ?_
  | with_reducible refine' wo_none ?_
  | (with_reducible refine' wo_some ?_)
  | with_reducible refine' wt_test ?_
  | with_reducible refine' wt_B ?_
  | with_reducible refine' wt_and ?_
  | with_reducible refine' wt_or ?_
  | with_reducible refine' wt_not ?_
  | with_reducible refine' wt_yes ?_
  | with_reducible refine' we_chain ?_
  | with_reducible refine' we_chain3 ?_
  | with_reducible refine' we_revT ?_
  | with_reducible refine' we_revL ?_
  | with_reducible refine' we_bm ?_
  | with_reducible refine' we_bm0 ?_
  | with_reducible refine' ws_for ?_
  | with_reducible refine' we_lc ?_
  | with_reducible refine' wi_list ?_
  | with_reducible refine' wi_tup ?_
  | with_reducible refine' wi_T ?_
  | with_reducible refine' wi_rng1 ?_
  | with_reducible refine' wi_rng2 ?_
  | with_reducible refine' wi_rng3 ?_
  | with_reducible refine' wi_enum ?_
  | with_reducible refine' wi_enumT ?_
  | with_reducible refine' wi_zip ?_
  | with_reducible refine' wg_name ?_
  | with_reducible refine' wg_sub ?_
  | with_reducible refine' wgs_nil ?_
  | with_reducible refine' wgs_cons ?_
  | ((with_reducible refine' wg_tup ?ht ?hn ?_); (case ht => walk_at "ist"); (case hn => rfl))
  | with_reducible refine' w2_add ?_
  | with_reducible refine' w2_sub ?_
  | with_reducible refine' w2_lt ?_
  | with_reducible refine' w2_le ?_
  | with_reducible refine' w2_gt ?_
  | with_reducible refine' w2_ge ?_
  | with_reducible refine' w2_eqI ?_
  | with_reducible refine' w2_neI ?_
  | with_reducible refine' w2_eqT ?_
  | with_reducible refine' w2_neT ?_
  | with_reducible refine' w2_eqB ?_
  | with_reducible refine' w2_neB ?_
  | with_reducible refine' w2_isN ?_
  | with_reducible refine' w2_notN ?_
  | with_reducible refine' w2_isB ?_
  | with_reducible refine' w2_inT ?_
  | with_reducible refine' w1_neg ?_
  | with_reducible refine' wl_abs ?_
  | with_reducible refine' wl_max2 ?_
  | with_reducible refine' wl_min2 ?_
  | with_reducible refine' wl_intB ?_
  | ((with_reducible refine' w2_div ?h ?_); case h => first | omega | (constructor <;> omega))
  | ((with_reducible refine' w2_mod ?h ?_); case h => omega)
  | ((with_reducible refine' w2_catT ?h ?_); case h => walk_at "len")
  | ((with_reducible refine' wsl_T ?h ?_); case h => walk_at "len")
  | ((with_reducible refine' wl_lenT ?h ?_); case h => walk_at "len")
  | ((with_reducible refine' wl_len ?h ?_); case h => walk_at "isl")
  | ((with_reducible refine' wl_len ?h ?_); case h => walk_at "isl")
  | ((with_reducible refine' wm_append ?sw ?hl ?_); (case sw => walk_at "swap"); (case hl => walk_at "len")))
local macro_rules | `(tactic| walk_at "b1") => `(tactic| first | with_reducible refine' ws_seq ?_ | walk_at "b0")
local macro_rules | `(tactic| walk_at "bx") => `(tactic| first
  | refine ⟨_, rfl, ?_⟩
  | refine ⟨_, _, rfl, ?_⟩
  | refine ⟨ty_L (by walk_at "isl"), ?_⟩
  | refine ⟨ty_S, ?_⟩
  | refine spl_t (by rfl) ?_
  | refine spl_f (by rfl) ?_
  | exact rfl)
local macro_rules | `(tactic| walk_at "bm") => `(tactic| repeat (first | walk_at "b1" | walk_at "bx"))
local macro_rules | `(tactic| walk_at "bn") => `(tactic| repeat (first | walk_at "b0" | walk_at "bx"))
local macro_rules | `(tactic| walk_at "b0") => `(tactic| with_reducible refine' c_deepens ?_)
local macro_rules | `(tactic| walk_at "b0") => `(tactic| ((with_reducible refine' c_depths_of ?hl ?_); (case hl => walk_at "len")))
local macro_rules | `(tactic| walk_at "b0") => `(tactic| with_reducible refine' c_is_wholeI ?_)
local macro_rules | `(tactic| walk_at "b0") => `(tactic| with_reducible refine' c_flipped ?_)
local macro_rules | `(tactic| walk_at "b0") => `(tactic| ((with_reducible refine' c_is_right_row ?hl ?_); (case hl => walk_at "len")))
local macro_rules | `(tactic| walk_at "b0") => `(tactic| ((with_reducible refine' c_asked_row ?hl ?_); (case hl => walk_at "len")))
local macro_rules | `(tactic| walk_at "b0") => `(tactic| ((with_reducible refine' c_depths ?hl ?_); (case hl => walk_at "len")))
local macro_rules | `(tactic| walk_at "b0") => `(tactic| ((with_reducible refine' c_is_right ?hl ?_); (case hl => walk_at "len")))
local macro_rules | `(tactic| walk_at "b0") => `(tactic| ((with_reducible refine' c__law_depths ?hl ?_); (case hl => walk_at "len")))
local macro_rules | `(tactic| walk_at "b0") => `(tactic| ((with_reducible refine' c__law_good ?hl ?_); (case hl => walk_at "len")))
local macro_rules | `(tactic| walk_at "b0") => `(tactic| ((with_reducible refine' wl_listOf ?hx ?_); (case hx => walk_at "isl")))
local macro_rules | `(tactic| walk_at "b0") => `(tactic| with_reducible refine' w2_notB ?_)
local macro_rules | `(tactic| walk_at "own") => `(tactic| exact own_l (by walk_at "mem"))
local macro_rules | `(tactic| walk_at "b0") => `(tactic| with_reducible refine' we_fld ?_)
local macro_rules | `(tactic| walk_at "b0") => `(tactic| refine ⟨_, _, _, _, _, rfl, own_l (by walk_at "mem"), Grw.cl (by assumption), Grw.nr (by assumption), by rfl, ?_⟩)
local macro_rules | `(tactic| walk_at "b0") => `(tactic| refine ⟨_, _, _, _, _, rfl, fun H' o => o.ex _ _ (by assumption), Grw.cl (by assumption), Grw.nr (by assumption), by rfl, ?_⟩)
local macro_rules | `(tactic| walk_at "b0") => `(tactic| with_reducible refine' we_meth ?_)
local macro_rules | `(tactic| walk_at "b0") => `(tactic| refine ⟨_, _, _, rfl, own_l (by walk_at "mem"), by rfl, ?_⟩)
local macro_rules | `(tactic| walk_at "b0") => `(tactic| refine ⟨_, _, _, rfl, fun H' o => o.ex _ _ (by assumption), by rfl, ?_⟩)
local macro_rules | `(tactic| walk_at "gown") => `(tactic| first | exact own_l (by walk_at "mem") | exact fun H' o => o.ex _ _ (by assumption))
local macro_rules | `(tactic| walk_at "b0") => `(tactic| with_reducible refine' wm_countT ?_)
end BM
namespace BM
open PySem L2 Evl
local macro_rules | `(tactic| walk_at "mem") => `(tactic| first | exact List.mem_cons_self | (refine List.mem_cons_of_mem _ ?_; walk_at "mem"))
local macro_rules | `(tactic| walk_at "swap") => `(tactic| first | exact Swap.here | (apply Swap.there; walk_at "swap"))
local macro_rules | `(tactic| walk_at "subl") => `(tactic| first | exact List.Sublist.refl _ | exact List.nil_sublist _ | (refine List.Sublist.cons_cons _ ?_; walk_at "subl") | (refine List.Sublist.cons _ ?_; walk_at "subl"))
local macro_rules | `(tactic| walk_at "sub") => `(tactic| first | exact Sub.refl _ | (refine ⟨?_, ?_⟩ <;> walk_at "subl"))
local macro_rules | `(tactic| walk_at "isl") => `(tactic| first | exact isL_own (by walk_at "mem") | exact isL_old (by assumption) | assumption)
local macro_rules | `(tactic| walk_at "ist") => `(tactic| first | exact isT_own (by walk_at "mem") | exact isT_old (by assumption) | assumption)
local macro_rules | `(tactic| walk_at "len") => `(tactic| first | omega | decide | (simp only [List.length_map, List.length_take, List.length_drop, List.length_append, List.length_cons, List.length_nil, List.length_reverse, dps_len, flp_len]; omega) | (simp [dps_len, flp_len]; omega) | simp)
local macro_rules | `(tactic| walk_at "b0") => `(tactic| first
  | with_reducible refine' ws_set ?_
  | with_reducible refine' ws_par ?_
  | with_reducible refine' ws_asg ?_
  | with_reducible refine' ws_drop ?_
  | with_reducible refine' ws_ret ?_
  | with_reducible refine' ws_if ?_
  | with_reducible refine' ws_next ?_
  | with_reducible refine' ws_brk ?_
  | with_reducible refine' ws_cont ?_
  | ((with_reducible refine' we_var ?hv ?_); case hv => rfl)
  | with_reducible refine' we_c ?_
  | with_reducible refine' we_op ?_
  | with_reducible refine' we_un ?_
  | with_reducible refine' we_if ?_
  | with_reducible refine' we_and ?_
  | with_reducible refine' we_or ?_
  | with_reducible refine' we_not ?_
  | with_reducible refine' wa_nil ?_
  | with_reducible refine' wa_cons ?_
  | (with_reducible refine' we_lst ?_)
  | (with_reducible refine' we_tup ?_)
  | with_reducible refine' we_cb ?_
  | with_reducible refine' we_call0 ?_
  | with_reducible refine' we_sl ?_
  | with_reducible refine' wo_none ?_
  | (with_reducible refine' wo_some ?_)
  | with_reducible refine' wt_test ?_
  | with_reducible refine' wt_B ?_
  | with_reducible refine' wt_and ?_
  | with_reducible refine' wt_or ?_
  | with_reducible refine' wt_not ?_
  | with_reducible refine' wt_yes ?_
  | with_reducible refine' we_chain ?_
  | with_reducible refine' we_chain3 ?_
  | with_reducible refine' we_revT ?_
  | with_reducible refine' we_revL ?_
  | with_reducible refine' we_bm ?_
  | with_reducible refine' we_bm0 ?_
  | with_reducible refine' ws_for ?_
  | with_reducible refine' we_lc ?_
  | with_reducible refine' wi_list ?_
  | with_reducible refine' wi_tup ?_
  | with_reducible refine' wi_T ?_
  | with_reducible refine' wi_rng1 ?_
  | with_reducible refine' wi_rng2 ?_
  | with_reducible refine' wi_rng3 ?_
  | with_reducible refine' wi_enum ?_
  | with_reducible refine' wi_enumT ?_
  | with_reducible refine' wi_zip ?_
  | with_reducible refine' wg_name ?_
  | with_reducible refine' wg_sub ?_
  | with_reducible refine' wgs_nil ?_
  | with_reducible refine' wgs_cons ?_
  | ((with_reducible refine' wg_tup ?ht ?hn ?_); (case ht => walk_at "ist"); (case hn => rfl))
  | with_reducible refine' w2_add ?_
  | with_reducible refine' w2_sub ?_
  | with_reducible refine' w2_lt ?_
  | with_reducible refine' w2_le ?_
  | with_reducible refine' w2_gt ?_
  | with_reducible refine' w2_ge ?_
  | with_reducible refine' w2_eqI ?_
  | with_reducible refine' w2_neI ?_
  | with_reducible refine' w2_eqT ?_
  | with_reducible refine' w2_neT ?_
  | with_reducible refine' w2_eqB ?_
  | with_reducible refine' w2_neB ?_
  | with_reducible refine' w2_isN ?_
  | with_reducible refine' w2_notN ?_
  | with_reducible refine' w2_isB ?_
  | with_reducible refine' w2_inT ?_
  | with_reducible refine' w1_neg ?_
  | with_reducible refine' wl_abs ?_
  | with_reducible refine' wl_max2 ?_
  | with_reducible refine' wl_min2 ?_
  | with_reducible refine' wl_intB ?_
  | ((with_reducible refine' w2_div ?h ?_); case h => first | omega | (constructor <;> omega))
  | ((with_reducible refine' w2_mod ?h ?_); case h => omega)
  | ((with_reducible refine' w2_catT ?h ?_); case h => walk_at "len")
  | ((with_reducible refine' wsl_T ?h ?_); case h => walk_at "len")
  | ((with_reducible refine' wl_lenT ?h ?_); case h => walk_at "len")
  | ((with_reducible refine' wl_len ?h ?_); case h => walk_at "isl")
  | ((with_reducible refine' wl_len ?h ?_); case h => walk_at "isl")
  | ((with_reducible refine' wm_append ?sw ?hl ?_); (case sw => walk_at "swap"); (case hl => walk_at "len")))
local macro_rules | `(tactic| walk_at "b1") => `(tactic| first | with_reducible refine' ws_seq ?_ | walk_at "b0")
local macro_rules | `(tactic| walk_at "bx") => `(tactic| first
  | refine ⟨_, rfl, ?_⟩
  | refine ⟨_, _, rfl, ?_⟩
  | refine ⟨ty_L (by walk_at "isl"), ?_⟩
  | refine ⟨ty_S, ?_⟩
  | refine spl_t (by rfl) ?_
  | refine spl_f (by rfl) ?_
  | exact rfl)
local macro_rules | `(tactic| walk_at "bm") => `(tactic| repeat (first | walk_at "b1" | walk_at "bx"))
local macro_rules | `(tactic| walk_at "bn") => `(tactic| repeat (first | walk_at "b0" | walk_at "bx"))
local macro_rules | `(tactic| walk_at "b0") => `(tactic| with_reducible refine' c_deepens ?_)
local macro_rules | `(tactic| walk_at "b0") => `(tactic| ((with_reducible refine' c_depths_of ?hl ?_); (case hl => walk_at "len")))
local macro_rules | `(tactic| walk_at "b0") => `(tactic| with_reducible refine' c_is_wholeI ?_)
local macro_rules | `(tactic| walk_at "b0") => `(tactic| with_reducible refine' c_flipped ?_)
local macro_rules | `(tactic| walk_at "b0") => `(tactic| ((with_reducible refine' c_is_right_row ?hl ?_); (case hl => walk_at "len")))
local macro_rules | `(tactic| walk_at "b0") => `(tactic| ((with_reducible refine' c_asked_row ?hl ?_); (case hl => walk_at "len")))
local macro_rules | `(tactic| walk_at "b0") => `(tactic| ((with_reducible refine' c_depths ?hl ?_); (case hl => walk_at "len")))
local macro_rules | `(tactic| walk_at "b0") => `(tactic| ((with_reducible refine' c_is_right ?hl ?_); (case hl => walk_at "len")))
local macro_rules | `(tactic| walk_at "b0") => `(tactic| ((with_reducible refine' c__law_depths ?hl ?_); (case hl => walk_at "len")))
local macro_rules | `(tactic| walk_at "b0") => `(tactic| ((with_reducible refine' c__law_good ?hl ?_); (case hl => walk_at "len")))
local macro_rules | `(tactic| walk_at "b0") => `(tactic| ((with_reducible refine' wl_listOf ?hx ?_); (case hx => walk_at "isl")))
local macro_rules | `(tactic| walk_at "b0") => `(tactic| with_reducible refine' w2_notB ?_)
local macro_rules | `(tactic| walk_at "own") => `(tactic| exact own_l (by walk_at "mem"))
local macro_rules | `(tactic| walk_at "b0") => `(tactic| with_reducible refine' we_fld ?_)
local macro_rules | `(tactic| walk_at "b0") => `(tactic| refine ⟨_, _, _, _, _, rfl, own_l (by walk_at "mem"), Grw.cl (by assumption), Grw.nr (by assumption), by rfl, ?_⟩)
local macro_rules | `(tactic| walk_at "b0") => `(tactic| refine ⟨_, _, _, _, _, rfl, fun H' o => o.ex _ _ (by assumption), Grw.cl (by assumption), Grw.nr (by assumption), by rfl, ?_⟩)
local macro_rules | `(tactic| walk_at "b0") => `(tactic| with_reducible refine' we_meth ?_)
local macro_rules | `(tactic| walk_at "b0") => `(tactic| refine ⟨_, _, _, rfl, own_l (by walk_at "mem"), by rfl, ?_⟩)
local macro_rules | `(tactic| walk_at "b0") => `(tactic| refine ⟨_, _, _, rfl, fun H' o => o.ex _ _ (by assumption), by rfl, ?_⟩)
local macro_rules | `(tactic| walk_at "gown") => `(tactic| first | exact own_l (by walk_at "mem") | exact fun H' o => o.ex _ _ (by assumption))
local macro_rules | `(tactic| walk_at "b0") => `(tactic| with_reducible refine' wm_countT ?_)
local macro_rules | `(tactic| walk_at "b0") => `(tactic| with_reducible refine' we_methU ?_)
theorem ws_par3 {H0 : Hp} {σ : L2.St} {s : Ld} {D : Dl} {i j l : Nat} {ta : TA} (h : WA H0 ta σ s fun vs s1 => ∃ v w x, vs = [v, w, x] ∧ D.nx (((σ.set i (some v)).set j (some w)).set l (some x)) s1) : WS H0 (tPar3 i j l ta) σ s D := fun H o E k =>
  h H o _ fun vs H1 s1 o1 ⟨v, w, x, e, q⟩ => ⟨v, w, x, e, k.nx _ _ _ o1 q⟩
theorem body_K {H : Hp} {t : TS} {N : List Str} {vs : List V} {Q : VK} {P : V → Ld → Prop} (h : WS H t (start N vs) ⟨[], []⟩ { nx := fun _ _ => False, rt := P }) (k : ∀ v H' s, Own H H' s → P v s → Q v H') : t { nx := fun _ H' => Q .non H', rt := Q } (start N vs) H :=
  h H (Own.start H) _ ⟨(fun _ _ _ _ q => q.elim), fun u H' s o q => k u H' s o q, (fun _ _ _ _ q => q.elim), (fun _ _ _ _ q => q.elim)⟩
theorem first_of {ns : List Int} {m : Int} (h : m ∈ ns) : ∃ j : Nat, ns[j]? = some m ∧ ∀ i : Nat, i < j → ns[i]? ≠ some m := by
  induction ns with
  | nil => cases h
  | cons a ns ih =>
    by_cases e : a = m
    · exact ⟨0, by rw [e]; rfl, fun i hi => absurd hi (Nat.not_lt_zero _)⟩
    · obtain ⟨j, h1, h2⟩ := ih ((List.mem_cons.mp h).resolve_left fun e2 => e e2.symm)
      refine ⟨j + 1, h1, fun i hi => ?_⟩
      cases i with
      | zero => exact fun e2 => e (Option.some.inj e2)
      | succ i => exact h2 i (by omega)
end BM
namespace BM
open PySem L2 Evl
local macro_rules | `(tactic| walk_at "mem") => `(tactic| first | exact List.mem_cons_self | (refine List.mem_cons_of_mem _ ?_; walk_at "mem"))
local macro_rules | `(tactic| walk_at "swap") => `(tactic| first | exact Swap.here | (apply Swap.there; walk_at "swap"))
local macro_rules | `(tactic| walk_at "subl") => `(tactic| first | exact List.Sublist.refl _ | exact List.nil_sublist _ | (refine List.Sublist.cons_cons _ ?_; walk_at "subl") | (refine List.Sublist.cons _ ?_; walk_at "subl"))
local macro_rules | `(tactic| walk_at "sub") => `(tactic| first | exact Sub.refl _ | (refine ⟨?_, ?_⟩ <;> walk_at "subl"))
local macro_rules | `(tactic| walk_at "isl") => `(tactic| first | exact isL_own (by walk_at "mem") | exact isL_old (by assumption) | assumption)
local macro_rules | `(tactic| walk_at "ist") => `(tactic| first | exact isT_own (by walk_at "mem") | exact isT_old (by assumption) | assumption)
local macro_rules | `(tactic| walk_at "len") => `(tactic| first | omega | decide | (simp only [List.length_map, List.length_take, List.length_drop, List.length_append, List.length_cons, List.length_nil, List.length_reverse, dps_len, flp_len]; omega) | (simp [dps_len, flp_len]; omega) | simp)
local macro_rules | `(tactic| walk_at "b0") => `(tactic| first
  | with_reducible refine' ws_set ?_
  | with_reducible refine' ws_par ?_
  | with_reducible refine' ws_asg ?_
  | with_reducible refine' ws_drop ?_
  | with_reducible refine' ws_ret ?_
  | with_reducible refine' ws_if ?_
  | with_reducible refine' ws_next ?_
  | with_reducible refine' ws_brk ?_
  | with_reducible refine' ws_cont ?_
  | ((with_reducible refine' we_var ?hv ?_); case hv => rfl)
  | with_reducible refine' we_c ?_
  | with_reducible refine' we_op ?_
  | with_reducible refine' we_un ?_
  | with_reducible refine' we_if ?_
  | with_reducible refine' we_and ?_
  | with_reducible refine' we_or ?_
  | with_reducible refine' we_not ?_
  | with_reducible refine' wa_nil ?_
  | with_reducible refine' wa_cons ?_
  | (with_reducible refine' we_lst ?_)
  | (with_reducible refine' we_tup ?_)
  | with_reducible refine' we_cb ?_
  | with_reducible refine' we_call0 ?_
  | with_reducible refine' we_sl ?_
  | with_reducible refine' wo_none ?_
  | (with_reducible refine' wo_some ?_)
  | with_reducible refine' wt_test ?_
  | with_reducible refine' wt_B ?_
  | with_reducible refine' wt_and ?_
  | with_reducible refine' wt_or ?_
  | with_reducible refine' wt_not ?_
  | with_reducible refine' wt_yes ?_
  | with_reducible refine' we_chain ?_
  | with_reducible refine' we_chain3 ?_
  | with_reducible refine' we_revT ?_
  | with_reducible refine' we_revL ?_
  | with_reducible refine' we_bm ?_
  | with_reducible refine' we_bm0 ?_
  | with_reducible refine' ws_for ?_
  | with_reducible refine' we_lc ?_
  | with_reducible refine' wi_list ?_
  | with_reducible refine' wi_tup ?_
  | with_reducible refine' wi_T ?_
  | with_reducible refine' wi_rng1 ?_
  | with_reducible refine' wi_rng2 ?_
  | with_reducible refine' wi_rng3 ?_
  | with_reducible refine' wi_enum ?_
  | with_reducible refine' wi_enumT ?_
  | with_reducible refine' wi_zip ?_
  | with_reducible refine' wg_name ?_
  | with_reducible refine' wg_sub ?_
  | with_reducible refine' wgs_nil ?_
  | with_reducible refine' wgs_cons ?_
  | ((with_reducible refine' wg_tup ?ht ?hn ?_); (case ht => walk_at "ist"); (case hn => rfl))
  | with_reducible refine' w2_add ?_
  | with_reducible refine' w2_sub ?_
  | with_reducible refine' w2_lt ?_
  | with_reducible refine' w2_le ?_
  | with_reducible refine' w2_gt ?_
  | with_reducible refine' w2_ge ?_
  | with_reducible refine' w2_eqI ?_
  | with_reducible refine' w2_neI ?_
  | with_reducible refine' w2_eqT ?_
  | with_reducible refine' w2_neT ?_
  | with_reducible refine' w2_eqB ?_
  | with_reducible refine' w2_neB ?_
  | with_reducible refine' w2_isN ?_
  | with_reducible refine' w2_notN ?_
  | with_reducible refine' w2_isB ?_
  | with_reducible refine' w2_inT ?_
  | with_reducible refine' w1_neg ?_
  | with_reducible refine' wl_abs ?_
  | with_reducible refine' wl_max2 ?_
  | with_reducible refine' wl_min2 ?_
  | with_reducible refine' wl_intB ?_
  | ((with_reducible refine' w2_div ?h ?_); case h => first | omega | (constructor <;> omega))
  | ((with_reducible refine' w2_mod ?h ?_); case h => omega)
  | ((with_reducible refine' w2_catT ?h ?_); case h => walk_at "len")
  | ((with_reducible refine' wsl_T ?h ?_); case h => walk_at "len")
  | ((with_reducible refine' wl_lenT ?h ?_); case h => walk_at "len")
  | ((with_reducible refine' wl_len ?h ?_); case h => walk_at "isl")
  | ((with_reducible refine' wl_len ?h ?_); case h => walk_at "isl")
  | ((with_reducible refine' wm_append ?sw ?hl ?_); (case sw => walk_at "swap"); (case hl => walk_at "len")))
local macro_rules | `(tactic| walk_at "b1") => `(tactic| first | with_reducible refine' ws_seq ?_ | walk_at "b0")
local macro_rules | `(tactic| walk_at "bx") => `(tactic| first
  | refine ⟨_, rfl, ?_⟩
  | refine ⟨_, _, rfl, ?_⟩
  | refine ⟨ty_L (by walk_at "isl"), ?_⟩
  | refine ⟨ty_S, ?_⟩
  | refine spl_t (by rfl) ?_
  | refine spl_f (by rfl) ?_
  | exact rfl)
local macro_rules | `(tactic| walk_at "bm") => `(tactic| repeat (first | walk_at "b1" | walk_at "bx"))
local macro_rules | `(tactic| walk_at "bn") => `(tactic| repeat (first | walk_at "b0" | walk_at "bx"))
local macro_rules | `(tactic| walk_at "b0") => `(tactic| with_reducible refine' c_deepens ?_)
local macro_rules | `(tactic| walk_at "b0") => `(tactic| ((with_reducible refine' c_depths_of ?hl ?_); (case hl => walk_at "len")))
local macro_rules | `(tactic| walk_at "b0") => `(tactic| with_reducible refine' c_is_wholeI ?_)
local macro_rules | `(tactic| walk_at "b0") => `(tactic| with_reducible refine' c_flipped ?_)
local macro_rules | `(tactic| walk_at "b0") => `(tactic| ((with_reducible refine' c_is_right_row ?hl ?_); (case hl => walk_at "len")))
local macro_rules | `(tactic| walk_at "b0") => `(tactic| ((with_reducible refine' c_asked_row ?hl ?_); (case hl => walk_at "len")))
local macro_rules | `(tactic| walk_at "b0") => `(tactic| ((with_reducible refine' c_depths ?hl ?_); (case hl => walk_at "len")))
local macro_rules | `(tactic| walk_at "b0") => `(tactic| ((with_reducible refine' c_is_right ?hl ?_); (case hl => walk_at "len")))
local macro_rules | `(tactic| walk_at "b0") => `(tactic| ((with_reducible refine' c__law_depths ?hl ?_); (case hl => walk_at "len")))
local macro_rules | `(tactic| walk_at "b0") => `(tactic| ((with_reducible refine' c__law_good ?hl ?_); (case hl => walk_at "len")))
local macro_rules | `(tactic| walk_at "b0") => `(tactic| ((with_reducible refine' wl_listOf ?hx ?_); (case hx => walk_at "isl")))
local macro_rules | `(tactic| walk_at "b0") => `(tactic| with_reducible refine' w2_notB ?_)
local macro_rules | `(tactic| walk_at "own") => `(tactic| exact own_l (by walk_at "mem"))
local macro_rules | `(tactic| walk_at "b0") => `(tactic| with_reducible refine' we_fld ?_)
local macro_rules | `(tactic| walk_at "b0") => `(tactic| refine ⟨_, _, _, _, _, rfl, own_l (by walk_at "mem"), Grw.cl (by assumption), Grw.nr (by assumption), by rfl, ?_⟩)
local macro_rules | `(tactic| walk_at "b0") => `(tactic| refine ⟨_, _, _, _, _, rfl, fun H' o => o.ex _ _ (by assumption), Grw.cl (by assumption), Grw.nr (by assumption), by rfl, ?_⟩)
local macro_rules | `(tactic| walk_at "b0") => `(tactic| with_reducible refine' we_meth ?_)
local macro_rules | `(tactic| walk_at "b0") => `(tactic| refine ⟨_, _, _, rfl, own_l (by walk_at "mem"), by rfl, ?_⟩)
local macro_rules | `(tactic| walk_at "b0") => `(tactic| refine ⟨_, _, _, rfl, fun H' o => o.ex _ _ (by assumption), by rfl, ?_⟩)
local macro_rules | `(tactic| walk_at "gown") => `(tactic| first | exact own_l (by walk_at "mem") | exact fun H' o => o.ex _ _ (by assumption))
local macro_rules | `(tactic| walk_at "b0") => `(tactic| with_reducible refine' wm_countT ?_)
local macro_rules | `(tactic| walk_at "b0") => `(tactic| with_reducible refine' we_methU ?_)
theorem getR {rs : List (List Bool)} {i : Nat} {y : V} (hy : (rs.map fun r => V.str (T r))[i]? = some y) : ∃ z, rs[i]? = some z ∧ y = V.str (T z) := by
  rw [List.getElem?_map] at hy
  cases e : rs[i]? with
  | none => rw [e] at hy; cases hy
  | some z => rw [e] at hy; exact ⟨z, rfl, (Option.some.inj hy).symm⟩
end BM
namespace BM
open PySem L2 Evl
/-! ### a sign many times -/
def aRepT : R2 := fun x y H Q => ∃ (b : Bool) (n : Nat), x = .str (T [b]) ∧ y = .int (n : Int) ∧ n ≤ 1000 ∧ Q (.str (T (List.replicate n b))) H
theorem fold_rep (c : Nat) : ∀ (n : Nat) (acc : Array Nat), (List.replicate n #[c]).foldl (· ++ ·) acc = acc ++ (List.replicate n c).toArray
  | 0, acc => by simp
  | n + 1, acc => by
    rw [List.replicate_succ, List.foldl_cons, fold_rep c n, List.replicate_succ]
    apply Array.ext'
    simp
theorem mul_T (b : Bool) (n : Nat) : Txt.mul (T [b]) (n : Int) = T (List.replicate n b) := by
  unfold Txt.mul
  by_cases h1 : (n : Int) < 1
  · rw [if_pos h1, show n = 0 by omega]
    rfl
  · rw [if_neg h1]
    by_cases h2 : (n : Int) = 1
    · rw [if_pos (by simp [h2]), show n = 1 by omega]
      rfl
    · rw [if_neg (by simp [h2, T_len])]
      show (⟨(List.replicate ((n : Int)).toNat #[B b]).foldl (· ++ ·) #[]⟩ : Str) = ⟨((List.replicate n b).map B).toArray⟩
      rw [fold_rep, Int.toNat_natCast, List.map_replicate]
      congr 1
      simp
theorem o_repT {X : Cx} : OpR X (binaryOp .Mult) aRepT := by
  intro pins s σ H x y v u Q I rx ry h
  obtain ⟨b, n, rfl, rfl, hn, q⟩ := h
  obtain ⟨t, rfl⟩ := rx
  obtain ⟨t2, rfl⟩ := ry
  have hl : (T [b]).length = 1 := T_len [b]
  refine SB.mul ⟨by simp; omega, fun h1 h2 => ?_, fun h1 h2 => ?_⟩ fun t' k => ⟨.str (T (List.replicate n b)), H, I.tok _, ⟨t', by rw [mul_T]⟩, q⟩
  · rw [hl]
    have hp : (0 : Int) < n := by omega
    have : (1 : Int) ≤ (2 ^ 63 - 1) / (n : Int) := (Int.le_ediv_iff_mul_le hp).mpr (by omega)
    omega
  · rw [hl, Nat.one_mul, Int.toNat_natCast]
    show decide (n > sizeLine) = false
    rw [sizeLine_eq]
    simp
    omega
theorem w2_repT {H0 : Hp} {s : Ld} {Q : V → Ld → Prop} {b : Bool} {j : Int} (h : 0 ≤ j ∧ j ≤ 1000) (q : Q (.str (T (List.replicate j.toNat b))) s) : W2 H0 aRepT (.str (T [b])) (.int j) s Q := fun H o R k => ⟨b, j.toNat, rfl, by rw [Int.toNat_of_nonneg h.1], by omega, k _ H s o q⟩
/-! ### rows met, as a dict -/
theorem nodup_len {α : Type} [DecidableEq α] : ∀ {l s : List α}, l.Nodup → (∀ x ∈ l, x ∈ s) → l.length ≤ s.length
  | [], s, _, _ => Nat.zero_le _
  | a :: l, s, h, hs => by
    have h1 := List.nodup_cons.mp h
    have ha := hs a List.mem_cons_self
    have ih := nodup_len (s := s.erase a) h1.2 fun x hx => (List.mem_erase_of_ne (fun e => h1.1 (by rw [← e]; exact hx))).mpr (hs x (List.mem_cons_of_mem _ hx))
    rw [List.length_erase_of_mem ha] at ih
    have : 0 < s.length := List.length_pos_of_mem ha
    rw [List.length_cons]
    omega
end BM
namespace BM
open PySem PySem.W PySem.Spec PySem.Calls PyProof.Rows Builtin L2 Evl NwA
/-- a class that has no __init__ but object's -/
structure Mk0 (K : PySem.W.Frag) (C : Addr) : Prop where
  makes : PySem.W.makesIn K C = true
  init : PySem.W.findIn K (.ref C) "__init__" = some (some (.builtin "object.__init__"))
  top : PySem.W.mroIn K C (.type "object") = some true
  kp : PySem.W.keepIn K (.ref C) = true
def tMk0 (C : Addr) : TE := fun _ H Q => ∀ x dx, H x = none → H dx = none → dx ≠ x → Q (.ref x) (upd (upd H dx (.own x)) x (.ins C dx []))
section
variable {X : Cx} {C : Addr} {pins : List (Addr × Obj)} {σ : L2.St} {H : Hp} {s : Shared} {Q : VK}
theorem run_mk0 (M : Mk0 X.K C) (I : Inv X pins σ H s) (h : tMk0 C σ H Q) : wpAny (model X.prog X.w) X.A (call (.ref C) []) (EP X pins σ Q) X.xe s := by
  have hq := h (s.heap.objs.size + 1) s.heap.objs.size (I.hok.fresh (Nat.le_succ _)) (I.hok.fresh (Nat.le_refl _)) (Nat.ne_of_lt (Nat.lt_succ_self _))
  have I2 := Inv.made (C := C) I
  have ho : ((s.heap.push PySem.W.emptyDict).push (PySem.W.instObj C s.heap.objs.size)).get? (s.heap.objs.size + 1) = some (PySem.W.instObj C s.heap.objs.size) := by
    have := Heap.get?_push_size (s.heap.push PySem.W.emptyDict) (o := PySem.W.instObj C s.heap.objs.size) rfl
    rw [Heap.size_push] at this
    exact this
  refine wpAny_call (make_map0 I.kIn M.makes M.init (fun self => Looks.of_pure (oi_bind _)) ?_)
  have t1 : Looks (model X.prog X.w) ((s.heap.push PySem.W.emptyDict).push (PySem.W.instObj C s.heap.objs.size)) (typeOf (.ref (s.heap.objs.size + 1))) (.ref C) := type_at ho rfl
  have t2 : Looks (model X.prog X.w) ((s.heap.push PySem.W.emptyDict).push (PySem.W.instObj C s.heap.objs.size)) (isInstance (.ref (s.heap.objs.size + 1)) (.type "object")) true := t1.andThen (looks_mroIn I2.kIn M.top)
  refine codeAny_call_builtin oi_plain entry_oi (@check_slot (model X.prog X.w) _ _ _ "object.__init__" "object" "__init__" (.ref (s.heap.objs.size + 1)) [] [] _ oi_kind oi_split t2 (oi_args_any _ [] []) ?_)
  rw [oi_run]
  exact wpAny_pure (And.intro rfl ⟨V.ref (s.heap.objs.size + 1), _, I2, rfl, hq⟩)
theorem pe_mk0 {x : Str} {p pos : Pos} (M : Mk0 X.K C) (hg : Gl X x) (hm : X.mg x = some (.ref C)) (hdb : (x == ("__debug__" : Str)) = false := by decide) : PE X (.Call (.Name x p) [] [] pos) (tMk0 C) := by
  refine ⟨fun pins s σ H Q I h => wpAny_Call_Name_kw (ld_glob I hg hm ?_ hdb)⟩
  exact PySem.W.callWith_K0 I.kIn M.kp (run_mk0 M I h)
end
theorem we_mk0 {H0 : Hp} {σ : L2.St} {s : Ld} {Q : V → Ld → Prop} {C : Addr} (h : ∀ x dx, H0 x = none → Q (.ref x) ⟨(x, .ins C dx []) :: (dx, .own x) :: s.L, s.T⟩) : WE H0 (tMk0 C) σ s Q := fun H o R k x dx hx hdx hne =>
  k _ _ _ ((o.new (u := .own x) hdx).new (u := .ins C dx []) (by rw [upd_ne hne.symm]; exact hx)) (h x dx (fresh_back o.ex hx))
end BM
namespace BM
/-! ### turned brackets: what they give to a depth -/
def cnl (ps : List Nat) (j : Nat) : Nat := (ps.filter fun p => decide (p < j)).length
theorem cnl_app (a b : List Nat) (j : Nat) : cnl (a ++ b) j = cnl a j + cnl b j := by
  unfold cnl
  rw [List.filter_append, List.length_append]
theorem cnl_zero (ps : List Nat) : cnl ps 0 = 0 := by
  unfold cnl
  rw [List.length_eq_zero_iff, List.filter_eq_nil_iff]
  intro p _
  simp
theorem cnl_succ : ∀ {ps : List Nat} (j : Nat), ps.Nodup → cnl ps (j + 1) = cnl ps j + if j ∈ ps then 1 else 0
  | [], j, _ => rfl
  | p :: ps, j, h => by
    have h1 := List.nodup_cons.mp h
    have ih := cnl_succ (ps := ps) j h1.2
    unfold cnl at ih ⊢
    simp only [List.filter_cons]
    by_cases e : p = j
    · subst e
      rw [if_pos (by simp), if_neg (by simp), List.length_cons, ih, if_neg h1.1, if_pos List.mem_cons_self]
    · have hm : (j ∈ p :: ps) = (j ∈ ps) := by
        apply propext
        rw [List.mem_cons]
        exact ⟨fun h => h.resolve_left fun e2 => e e2.symm, fun h => .inr h⟩
      by_cases hp : p < j
      · rw [if_pos (by simp; omega), if_pos (by simpa using hp), List.length_cons, List.length_cons, ih]
        simp only [hm]
        omega
      · rw [if_neg (by simp; omega), if_neg (by simpa using hp), ih]
        simp only [hm]
theorem cnl_all {ps : List Nat} {j : Nat} (h : ∀ p ∈ ps, p < j) : cnl ps j = ps.length := by
  unfold cnl
  rw [List.filter_eq_self.mpr]
  intro p hp
  simpa using h p hp
theorem cnl_none {ps : List Nat} {j : Nat} (h : ∀ p ∈ ps, j ≤ p) : cnl ps j = 0 := by
  unfold cnl
  rw [List.length_eq_zero_iff, List.filter_eq_nil_iff]
  intro p hp
  have := h p hp
  simp
  omega
abbrev inz (ps : List Nat) : List Int := ps.map Int.ofNat
theorem mem_inz {ps : List Nat} {j : Nat} : ((j : Nat) : Int) ∈ inz ps ↔ j ∈ ps := by
  rw [List.mem_map]
  exact ⟨fun ⟨a, h, e⟩ => by have : a = j := Int.ofNat.inj e; rw [← this]; exact h, fun h => ⟨j, h, rfl⟩⟩
theorem flp_at {r : List Bool} {ps : List Int} {j : Nat} {b : Bool} (h : r[j]? = some b) : (flp ps r)[j]? = some (if (j : Int) ∈ ps then !b else b) := by
  unfold flp
  rw [List.getElem?_mapIdx, h]
  rfl
/-- closing brackets at A turned, opening ones at B -/
theorem hgt_flp {r : List Bool} {A B : List Nat} (nA : A.Nodup) (nB : B.Nodup) (dj : ∀ p ∈ A, p ∉ B) (hA : ∀ p ∈ A, r[p]? = some false) (hB : ∀ p ∈ B, r[p]? = some true) :
    ∀ j, j ≤ r.length → hgt ((flp (inz (A ++ B)) r).take j) = hgt (r.take j) + 2 * (cnl A j : Int) - 2 * (cnl B j : Int)
  | 0, _ => by
    rw [cnl_zero, cnl_zero]
    rfl
  | j + 1, hj => by
    have ih := hgt_flp nA nB dj hA hB j (by omega)
    obtain ⟨b, hb⟩ : ∃ b, r[j]? = some b := ⟨_, List.getElem?_eq_getElem (by omega)⟩
    have hf := flp_at (ps := inz (A ++ B)) hb
    rw [take_snoc hf, take_snoc hb, hgt_app, hgt_app, ih, cnl_succ j nA, cnl_succ j nB]
    have hm : (((j : Nat) : Int) ∈ inz (A ++ B)) ↔ (j ∈ A ∨ j ∈ B) := by rw [mem_inz, List.mem_append]
    by_cases h1 : j ∈ A
    · have h2 := dj j h1
      have hb2 := hA j h1
      rw [hb] at hb2
      cases hb2
      rw [if_pos (hm.mpr (.inl h1)), if_pos h1, if_neg h2]
      simp [hgt, sg]
      omega
    · by_cases h2 : j ∈ B
      · have hb2 := hB j h2
        rw [hb] at hb2
        cases hb2
        rw [if_pos (hm.mpr (.inr h2)), if_neg h1, if_pos h2]
        simp [hgt, sg]
        omega
      · rw [if_neg (fun h => (hm.mp h).elim h1 h2), if_neg h1, if_neg h2]
        omega
/-- least depth so far, and from here on -/
def rm (r : List Bool) : Nat → Int
  | 0 => 0
  | i + 1 => min (rm r i) (hgt (r.take (i + 1)))
theorem rm_le (r : List Bool) : ∀ {i j : Nat}, j ≤ i → rm r i ≤ hgt (r.take j)
  | 0, j, h => by
    rw [Nat.le_zero.mp h]
    exact Int.le_refl 0
  | i + 1, j, h => by
    show min (rm r i) (hgt (r.take (i + 1))) ≤ _
    rcases Nat.lt_or_ge j (i + 1) with h1 | h1
    · have := rm_le r (show j ≤ i by omega)
      omega
    · rw [show j = i + 1 by omega]
      omega
def isC (r : List Bool) (p : Nat) : Bool := decide (r[p]? = some false) && decide (hgt (r.take (p + 1)) = rm r (p + 1))
def clos (r : List Bool) (c : Nat) : List Nat := (List.range c).filter (isC r)
theorem clos_succ (r : List Bool) (c : Nat) : clos r (c + 1) = clos r c ++ if isC r c = true then [c] else [] := by
  unfold clos
  rw [List.range_succ, List.filter_append]
  congr 1
  simp only [List.filter_cons, List.filter_nil]
theorem rm_clos (r : List Bool) : ∀ i, i ≤ r.length → -((clos r i).length : Int) ≤ rm r i
  | 0, _ => Int.le_refl 0
  | i + 1, h => by
    have ih := rm_clos r i (by omega)
    obtain ⟨b, hb⟩ : ∃ b, r[i]? = some b := ⟨_, List.getElem?_eq_getElem (by omega)⟩
    have e : hgt (r.take (i + 1)) = hgt (r.take i) + sg b := by rw [take_snoc hb, hgt_app]; simp [hgt]
    have hle := rm_le r (Nat.le_refl i)
    rw [clos_succ, List.length_append]
    have er : rm r (i + 1) = min (rm r i) (hgt (r.take (i + 1))) := rfl
    by_cases hc : isC r i = true
    · rw [if_pos hc]
      have : hgt (r.take (i + 1)) ≥ hgt (r.take i) - 1 := by cases b <;> simp [sg] at e <;> omega
      simp
      omega
    · rw [if_neg hc]
      have : rm r (i + 1) = rm r i := by
        rcases Int.lt_or_le (hgt (r.take (i + 1))) (rm r i) with h1 | h1
        · exfalso
          apply hc
          have hb2 : b = false := by
            cases b
            · rfl
            · simp only [sg, if_true] at e
              omega
          unfold isC
          rw [hb, hb2, decide_eq_true (show hgt (r.take (i + 1)) = rm r (i + 1) by omega)]
          rfl
        · omega
      simp
      omega
def smd (r : List Bool) : Nat → Int
  | 0 => hgt r
  | d + 1 => min (hgt (r.take (r.length - (d + 1)))) (smd r d)
theorem smd_le (r : List Bool) : ∀ {d e : Nat}, e ≤ d → smd r d ≤ hgt (r.take (r.length - e))
  | 0, e, h => by
    rw [Nat.le_zero.mp h, Nat.sub_zero, List.take_length]
    exact Int.le_refl _
  | d + 1, e, h => by
    show min (hgt (r.take (r.length - (d + 1)))) (smd r d) ≤ _
    rcases Nat.lt_or_ge e (d + 1) with h1 | h1
    · have := smd_le r (show e ≤ d by omega)
      omega
    · rw [show e = d + 1 by omega]
      omega
def isO (r : List Bool) (p : Nat) : Bool := decide (r[p]? = some true) && decide (hgt (r.take p) = smd r (r.length - p))
def opd (r : List Bool) : Nat → List Nat
  | 0 => []
  | d + 1 => (if isO r (r.length - (d + 1)) = true then [r.length - (d + 1)] else []) ++ opd r d
theorem opd_ge (r : List Bool) : ∀ {d : Nat} {p : Nat}, p ∈ opd r d → r.length - d ≤ p ∧ p < r.length ∧ r[p]? = some true
  | 0, p, h => by cases h
  | d + 1, p, h => by
    rcases List.mem_append.mp h with h | h
    · split at h
      · rename_i hO
        have e := List.mem_singleton.mp h
        subst e
        unfold isO at hO
        have h1 := of_decide_eq_true (Bool.and_eq_true_iff.mp hO).1
        exact ⟨by omega, (List.getElem?_eq_some_iff.mp h1).1, h1⟩
      · cases h
    · have := opd_ge r h
      exact ⟨by omega, this.2⟩
theorem opd_nodup (r : List Bool) : ∀ {d : Nat}, d ≤ r.length → (opd r d).Nodup
  | 0, _ => List.nodup_nil
  | d + 1, h => by
    have ih := opd_nodup r (d := d) (by omega)
    show ((if isO r (r.length - (d + 1)) = true then [r.length - (d + 1)] else []) ++ opd r d).Nodup
    split
    · refine List.nodup_cons.mpr ⟨fun hm => ?_, ih⟩
      have := (opd_ge r hm).1
      omega
    · exact ih
theorem smd_opd (r : List Bool) : ∀ d, d ≤ r.length → hgt r - smd r d ≤ ((opd r d).length : Int)
  | 0, _ => by show hgt r - hgt r ≤ 0; omega
  | d + 1, h => by
    have ih := smd_opd r d (by omega)
    obtain ⟨b, hb⟩ : ∃ b, r[r.length - (d + 1)]? = some b := ⟨_, List.getElem?_eq_getElem (by omega)⟩
    have e : hgt (r.take (r.length - d)) = hgt (r.take (r.length - (d + 1))) + sg b := by
      have := take_snoc hb
      rw [show r.length - (d + 1) + 1 = r.length - d by omega] at this
      rw [this, hgt_app]
      simp [hgt]
    have hle := smd_le r (Nat.le_refl d)
    have er : smd r (d + 1) = min (hgt (r.take (r.length - (d + 1)))) (smd r d) := rfl
    show hgt r - smd r (d + 1) ≤ (((if isO r (r.length - (d + 1)) = true then [r.length - (d + 1)] else []) ++ opd r d).length : Int)
    rw [List.length_append]
    by_cases hc : isO r (r.length - (d + 1)) = true
    · rw [if_pos hc]
      have : hgt (r.take (r.length - (d + 1))) ≥ hgt (r.take (r.length - d)) - 1 := by cases b <;> simp [sg] at e <;> omega
      simp
      omega
    · rw [if_neg hc]
      have : smd r (d + 1) = smd r d := by
        rcases Int.lt_or_le (hgt (r.take (r.length - (d + 1)))) (smd r d) with h1 | h1
        · exfalso
          apply hc
          have hb2 : b = true := by
            cases b
            · simp only [sg, Bool.false_eq_true, if_false] at e
              omega
            · rfl
          unfold isO
          rw [hb, hb2, show r.length - (r.length - (d + 1)) = d + 1 by omega, decide_eq_true (show hgt (r.take (r.length - (d + 1))) = smd r (d + 1) by omega)]
          rfl
        · omega
      simp
      omega
theorem clos_mem {r : List Bool} {c p : Nat} (h : p ∈ clos r c) : p < c ∧ r[p]? = some false := by
  obtain ⟨h1, h2⟩ := List.mem_filter.mp h
  exact ⟨List.mem_range.mp h1, of_decide_eq_true (Bool.and_eq_true_iff.mp h2).1⟩
theorem clos_nodup (r : List Bool) (c : Nat) : (clos r c).Nodup := List.Nodup.sublist List.filter_sublist List.nodup_range
theorem clos_split (r : List Bool) {c j : Nat} (h : j ≤ c) : ∃ L, clos r c = clos r j ++ L ∧ ∀ p ∈ L, j ≤ p := by
  induction c with
  | zero => exact ⟨[], by rw [Nat.le_zero.mp h, List.append_nil], fun p hp => by cases hp⟩
  | succ c ih =>
    rcases Nat.lt_or_ge j (c + 1) with h1 | h1
    · obtain ⟨L, e, hL⟩ := ih (by omega)
      refine ⟨L ++ (if isC r c = true then [c] else []), by rw [clos_succ, e, List.append_assoc], fun p hp => ?_⟩
      rcases List.mem_append.mp hp with hp | hp
      · exact hL p hp
      · split at hp
        · rw [List.mem_singleton.mp hp]
          omega
        · cases hp
    · exact ⟨[], by rw [show j = c + 1 by omega, List.append_nil], fun p hp => by cases hp⟩
theorem opd_split (r : List Bool) {d e : Nat} (h : e ≤ d) (hd : d ≤ r.length) : ∃ S, opd r d = S ++ opd r e ∧ ∀ p ∈ S, p < r.length - e := by
  induction d with
  | zero => exact ⟨[], by rw [Nat.le_zero.mp h]; rfl, fun p hp => by cases hp⟩
  | succ d ih =>
    rcases Nat.lt_or_ge e (d + 1) with h1 | h1
    · obtain ⟨S, eS, hS⟩ := ih (by omega) (by omega)
      refine ⟨(if isO r (r.length - (d + 1)) = true then [r.length - (d + 1)] else []) ++ S, by rw [List.append_assoc, ← eS]; rfl, fun p hp => ?_⟩
      rcases List.mem_append.mp hp with hp | hp
      · split at hp
        · rw [List.mem_singleton.mp hp]
          omega
        · cases hp
      · exact hS p hp
    · exact ⟨[], by rw [show e = d + 1 by omega]; rfl, fun p hp => by cases hp⟩
theorem rm_low {r : List Bool} {c : Nat} (h : ∀ j, j ≤ r.length → hgt (r.take c) ≤ hgt (r.take j)) (hc : c ≤ r.length) : rm r c = hgt (r.take c) := by
  have h1 := rm_le r (Nat.le_refl c)
  have h2 : ∀ i, i ≤ r.length → hgt (r.take c) ≤ rm r i := by
    intro i
    induction i with
    | zero => intro _; have := h 0 (Nat.zero_le _); exact this
    | succ i ih =>
      intro hi
      have a := ih (by omega)
      have b := h (i + 1) hi
      show _ ≤ min (rm r i) (hgt (r.take (i + 1)))
      omega
  have := h2 c hc
  omega
theorem smd_low {r : List Bool} {c : Nat} (h : ∀ j, j ≤ r.length → hgt (r.take c) ≤ hgt (r.take j)) (hc : c ≤ r.length) : smd r (r.length - c) = hgt (r.take c) := by
  have h1 := smd_le r (Nat.le_refl (r.length - c))
  rw [show r.length - (r.length - c) = c by omega] at h1
  have h2 : ∀ d, d ≤ r.length → hgt (r.take c) ≤ smd r d := by
    intro d
    induction d with
    | zero =>
      intro _
      have := h r.length (Nat.le_refl _)
      rw [List.take_length] at this
      exact this
    | succ d ih =>
      intro hd
      have a := ih (by omega)
      have b := h (r.length - (d + 1)) (by omega)
      show _ ≤ min (hgt (r.take (r.length - (d + 1)))) (smd r d)
      omega
  have := h2 (r.length - c) (by omega)
  omega
/-- the turned brackets mend the row -/
theorem turn_mend {r : List Bool} {c : Nat} (hc : c ≤ r.length) (hev : r.length % 2 = 0) (hmin : ∀ j, j ≤ r.length → hgt (r.take c) ≤ hgt (r.take j)) {many more : Nat} (hm : (many : Int) = (-hgt (r.take c) + 1) / 2) (ho : (more : Int) = (hgt r - hgt (r.take c) + 1) / 2) :
    many ≤ (clos r c).length ∧ more ≤ (opd r (r.length - c)).length ∧ isR (flp (inz ((clos r c).take many ++ (opd r (r.length - c)).drop ((opd r (r.length - c)).length - more))) r) = true := by
  have h0 := hmin 0 (Nat.zero_le _)
  have e0 : hgt (r.take 0) = 0 := rfl
  have hn := hmin r.length (Nat.le_refl _)
  rw [List.take_length] at hn
  have hpar := hgt_par7 r
  have k1 := rm_clos r c hc
  rw [rm_low hmin hc] at k1
  have k2 := smd_opd r (r.length - c) (by omega)
  rw [smd_low hmin hc] at k2
  have hmc : many ≤ (clos r c).length := by omega
  have hmo : more ≤ (opd r (r.length - c)).length := by omega
  refine ⟨hmc, hmo, ?_⟩
  obtain ⟨A, hA⟩ : ∃ A, (clos r c).take many = A := ⟨_, rfl⟩
  obtain ⟨B, hB⟩ : ∃ B, (opd r (r.length - c)).drop ((opd r (r.length - c)).length - more) = B := ⟨_, rfl⟩
  rw [hA, hB]
  have lA : A.length = many := by rw [← hA, List.length_take]; omega
  have lB : B.length = more := by rw [← hB, List.length_drop]; omega
  have mA : ∀ p ∈ A, p < c ∧ r[p]? = some false := fun p hp => clos_mem (List.take_subset _ _ (hA ▸ hp))
  have mB : ∀ p ∈ B, c ≤ p ∧ p < r.length ∧ r[p]? = some true := fun p hp => by
    have := opd_ge r (List.drop_subset _ _ (hB ▸ hp))
    rw [show r.length - (r.length - c) = c by omega] at this
    exact this
  have nA : A.Nodup := hA ▸ List.Nodup.sublist (List.take_sublist _ _) (clos_nodup r c)
  have nB : B.Nodup := hB ▸ List.Nodup.sublist (List.drop_sublist _ _) (opd_nodup r (by omega))
  have F := hgt_flp nA nB (fun p hp hq => by have := (mA p hp).1; have := (mB p hq).1; omega) (fun p hp => (mA p hp).2) (fun p hp => (mB p hp).2.2)
  rw [isR_iff]
  have hlen : (flp (inz (A ++ B)) r).length = r.length := flp_len _ _
  have tot : hgt (flp (inz (A ++ B)) r) = 0 := by
    have := F r.length (Nat.le_refl _)
    rw [← hlen, List.take_length, hlen, List.take_length, cnl_all (fun p hp => by have := (mA p hp).1; omega), cnl_all (fun p hp => (mB p hp).2.1), lA, lB] at this
    omega
  refine ⟨tot, fun j hj => ?_⟩
  rw [hlen] at hj
  rw [F j hj]
  rcases Nat.le_total j c with h1 | h1
  · have b0 : cnl B j = 0 := cnl_none fun p hp => by have := (mB p hp).1; omega
    rw [b0]
    obtain ⟨L, eL, hL⟩ := clos_split r h1
    have a0 : cnl A j = min many (clos r j).length := by
      rw [← hA, eL, List.take_append, cnl_app, cnl_all (fun p hp => (clos_mem (List.take_subset _ _ hp)).1), cnl_none (fun p hp => hL p (List.take_subset _ _ hp)), List.length_take]
      omega
    rw [a0]
    have g1 := rm_clos r j hj
    have g2 := rm_le r (Nat.le_refl j)
    have g3 := hmin j hj
    omega
  · have a0 : cnl A j = many := by
      rw [cnl_all (fun p hp => by have := (mA p hp).1; omega), lA]
    rw [a0]
    obtain ⟨S, eS, hS⟩ := opd_split r (show r.length - j ≤ r.length - c by omega) (by omega)
    rw [show r.length - (r.length - j) = j by omega] at hS
    have lS : (opd r (r.length - c)).length = S.length + (opd r (r.length - j)).length := by rw [eS, List.length_append]
    have b0 : cnl B j = more - min more (opd r (r.length - j)).length := by
      rw [← hB, lS, eS, List.drop_append, cnl_app, cnl_all (fun p hp => hS p (List.drop_subset _ _ hp)), cnl_none (fun p hp => by
        have := (opd_ge r (List.drop_subset _ _ hp)).1
        omega), List.length_drop]
      omega
    rw [b0]
    have g1 := smd_opd r (r.length - j) (by omega)
    have g2 := smd_le r (Nat.le_refl (r.length - j))
    rw [show r.length - (r.length - j) = j by omega] at g2
    have g3 := hmin j hj
    have tt : hgt r + 2 * (many : Int) - 2 * (more : Int) = 0 := by omega
    omega
/-- no fewer turned brackets do -/
theorem flp_up {r : List Bool} {ps : List Nat} (nd : ps.Nodup) : ∀ j, j ≤ r.length → hgt ((flp (inz ps) r).take j) ≤ hgt (r.take j) + 2 * (cnl ps j : Int)
  | 0, _ => by
    rw [cnl_zero]
    exact Int.le_refl _
  | j + 1, hj => by
    have ih := flp_up (r := r) nd j (by omega)
    obtain ⟨b, hb⟩ : ∃ b, r[j]? = some b := ⟨_, List.getElem?_eq_getElem (by omega)⟩
    have hf := flp_at (ps := inz ps) hb
    rw [take_snoc hf, take_snoc hb, hgt_app, hgt_app, cnl_succ j nd]
    by_cases h1 : j ∈ ps
    · rw [if_pos (mem_inz.mpr h1), if_pos h1]
      cases b <;> simp [hgt, sg] <;> omega
    · rw [if_neg (fun h => h1 (mem_inz.mp h)), if_neg h1]
      omega
theorem flp_down {r : List Bool} {ps : List Nat} (nd : ps.Nodup) {c : Nat} : ∀ d, c + d ≤ r.length → hgt (r.take (c + d)) - hgt (r.take c) - 2 * ((cnl ps (c + d) : Int) - cnl ps c) ≤ hgt ((flp (inz ps) r).take (c + d)) - hgt ((flp (inz ps) r).take c)
  | 0, _ => by simp
  | d + 1, hj => by
    have ih := flp_down (r := r) (c := c) nd d (by omega)
    obtain ⟨b, hb⟩ : ∃ b, r[c + d]? = some b := ⟨_, List.getElem?_eq_getElem (by omega)⟩
    have hf := flp_at (ps := inz ps) hb
    rw [show c + (d + 1) = c + d + 1 by omega, take_snoc hf, take_snoc hb, hgt_app, hgt_app, cnl_succ (c + d) nd]
    by_cases h1 : c + d ∈ ps
    · rw [if_pos (mem_inz.mpr h1), if_pos h1]
      cases b <;> simp [hgt, sg] <;> omega
    · rw [if_neg (fun h => h1 (mem_inz.mp h)), if_neg h1]
      omega
theorem turn_least {r : List Bool} {c : Nat} (hc : c ≤ r.length) {ps : List Nat} (nd : ps.Nodup) (hl : ∀ p ∈ ps, p < r.length) (hR : isR (flp (inz ps) r) = true) {many more : Nat} (hm : (many : Int) = (-hgt (r.take c) + 1) / 2) (ho : (more : Int) = (hgt r - hgt (r.take c) + 1) / 2) : many + more ≤ ps.length := by
  obtain ⟨h1, h2⟩ := isR_iff.mp hR
  have hlen : (flp (inz ps) r).length = r.length := flp_len _ _
  have a := flp_up (r := r) nd c hc
  have b := flp_down (r := r) nd (c := c) (r.length - c) (by omega)
  rw [show c + (r.length - c) = r.length by omega, List.take_length, cnl_all hl] at b
  have e : hgt ((flp (inz ps) r).take r.length) = 0 := by rw [← hlen, List.take_length, h1]
  rw [e] at b
  have g := h2 c (by omega)
  omega
end BM
namespace BM
theorem rm_att (r : List Bool) : ∀ i, ∃ j, j ≤ i ∧ rm r i = hgt (r.take j)
  | 0 => ⟨0, Nat.le_refl _, rfl⟩
  | i + 1 => by
    obtain ⟨j, hj, e⟩ := rm_att r i
    have er : rm r (i + 1) = min (rm r i) (hgt (r.take (i + 1))) := rfl
    rcases Int.le_total (rm r i) (hgt (r.take (i + 1))) with h | h
    · exact ⟨j, by omega, by omega⟩
    · exact ⟨i + 1, Nat.le_refl _, by omega⟩
theorem smd_att (r : List Bool) : ∀ d, ∃ e, e ≤ d ∧ smd r d = hgt (r.take (r.length - e))
  | 0 => ⟨0, Nat.le_refl _, by rw [Nat.sub_zero, List.take_length]; rfl⟩
  | d + 1 => by
    obtain ⟨j, hj, e⟩ := smd_att r d
    have er : smd r (d + 1) = min (hgt (r.take (r.length - (d + 1)))) (smd r d) := rfl
    rcases Int.le_total (smd r d) (hgt (r.take (r.length - (d + 1)))) with h | h
    · exact ⟨j, by omega, by omega⟩
    · exact ⟨d + 1, Nat.le_refl _, by omega⟩
theorem rm_min {r : List Bool} {i : Nat} {m : Int} (hi : i ≤ r.length) (h1 : m ∈ (dps r).take (i + 1)) (h2 : ∀ y ∈ (dps r).take (i + 1), m ≤ y) : m = rm r i := by
  have mem : ∀ j, j ≤ i → hgt (r.take j) ∈ (dps r).take (i + 1) := fun j hj => List.mem_iff_getElem?.mpr ⟨j, by rw [List.getElem?_take, if_pos (by omega), dps_get (by omega)]⟩
  obtain ⟨j, hj⟩ := List.mem_iff_getElem?.mp h1
  rw [List.getElem?_take] at hj
  split at hj
  · rename_i hlt
    rw [dps_get (by omega)] at hj
    have e := Option.some.inj hj
    have a := rm_le r (show j ≤ i by omega)
    obtain ⟨k, hk, ek⟩ := rm_att r i
    have b := h2 _ (mem k hk)
    omega
  · cases hj
theorem smd_min {r : List Bool} {c : Nat} {m : Int} (hc : c ≤ r.length) (h1 : m ∈ (dps r).drop c) (h2 : ∀ y ∈ (dps r).drop c, m ≤ y) : m = smd r (r.length - c) := by
  have mem : ∀ j, c ≤ j → j ≤ r.length → hgt (r.take j) ∈ (dps r).drop c := fun j hj hl => List.mem_iff_getElem?.mpr ⟨j - c, by rw [List.getElem?_drop, show c + (j - c) = j by omega, dps_get hl]⟩
  obtain ⟨j, hj⟩ := List.mem_iff_getElem?.mp h1
  rw [List.getElem?_drop] at hj
  have hjl : c + j ≤ r.length := by
    have := (List.getElem?_eq_some_iff.mp hj).1
    rw [dps_len] at this
    omega
  rw [dps_get hjl] at hj
  have e := Option.some.inj hj
  have a := smd_le r (show r.length - (c + j) ≤ r.length - c by omega)
  rw [show r.length - (r.length - (c + j)) = c + j by omega] at a
  obtain ⟨k, hk, ek⟩ := smd_att r (r.length - c)
  have b := h2 _ (mem (r.length - k) (by omega) (by omega))
  omega
/-- the opening brackets met from c on, i places -/
def segO (r : List Bool) (c i : Nat) : List Nat := ((List.range i).filter fun k => isO r (c + k)).map (c + ·)
theorem segO_succ (r : List Bool) (c i : Nat) : segO r c (i + 1) = segO r c i ++ if isO r (c + i) = true then [c + i] else [] := by
  unfold segO
  rw [List.range_succ, List.filter_append, List.map_append]
  congr 1
  simp only [List.filter_cons, List.filter_nil]
  split <;> rfl
theorem segO_opd (r : List Bool) {c : Nat} : ∀ i, c + i ≤ r.length → segO r c i ++ opd r (r.length - (c + i)) = opd r (r.length - c)
  | 0, _ => rfl
  | i + 1, h => by
    have ih := segO_opd r (c := c) i (by omega)
    have this : r.length - (c + i) = r.length - (c + (i + 1)) + 1 := by omega
    have e : opd r (r.length - (c + i)) = (if isO r (c + i) = true then [c + i] else []) ++ opd r (r.length - (c + (i + 1))) := by
      rw [this]
      show (if isO r (r.length - (r.length - (c + (i + 1)) + 1)) = true then [r.length - (r.length - (c + (i + 1)) + 1)] else []) ++ opd r (r.length - (c + (i + 1))) = _
      rw [show r.length - (r.length - (c + (i + 1)) + 1) = c + i by omega]
    rw [segO_succ, List.append_assoc, ← e, ih]
theorem segO_all (r : List Bool) {c : Nat} (hc : c ≤ r.length) : segO r c (r.length - c) = opd r (r.length - c) := by
  have := segO_opd r (c := c) (r.length - c) (by omega)
  rw [show r.length - (c + (r.length - c)) = 0 by omega] at this
  rw [← this]
  show _ = _ ++ []
  rw [List.append_nil]
theorem segO_len (r : List Bool) (c i : Nat) : (segO r c i).length ≤ i := by
  unfold segO
  rw [List.length_map]
  exact Nat.le_trans (List.length_filter_le _ _) (by rw [List.length_range]; exact Nat.le_refl _)
theorem clos_len (r : List Bool) (c : Nat) : (clos r c).length ≤ c := by
  unfold clos
  exact Nat.le_trans (List.length_filter_le _ _) (by rw [List.length_range]; exact Nat.le_refl _)
end BM
namespace BM
open PySem L2 Evl
abbrev oIns (C : CA) (d : Addr) : HO := .ins C.c_Odd d []
abbrev tIns (C : CA) (d a : Addr) (z : Int) : HO := .ins C.c_Turned d [("places", .ref a), ("cut", .int z)]
structure TnC (K : PySem.W.Frag) (C : CA) : Prop where
  c : Anc K C.c_Turned
  np : NoAttr K C.c_Turned "places"
  nc : NoAttr K C.c_Turned "cut"
structure Ex03 (K : PySem.W.Frag) (C : CA) : Prop where
  o : Anc K C.c_Odd
  t : TnC K C
  oa : PySem.W.kitOne K (.ref C.c_Odd) (.ref C.c_Answer) = some true
  ta : PySem.W.kitOne K (.ref C.c_Turned) (.ref C.c_Answer) = some true
  os : PySem.W.kitOne K (.ref C.c_Odd) (.ref C.c_Swapped) = some false
  ts : PySem.W.kitOne K (.ref C.c_Turned) (.ref C.c_Swapped) = some false
  ou : PySem.W.kitOne K (.ref C.c_Odd) (.ref C.c_Uneven) = some false
  tu : PySem.W.kitOne K (.ref C.c_Turned) (.ref C.c_Uneven) = some false
  or' : PySem.W.kitOne K (.ref C.c_Odd) (.ref C.c_Rounded) = some false
  tr : PySem.W.kitOne K (.ref C.c_Turned) (.ref C.c_Rounded) = some false
  ot : PySem.W.kitOne K (.ref C.c_Odd) (.ref C.c_Turned) = some false
  to : PySem.W.kitOne K (.ref C.c_Turned) (.ref C.c_Odd) = some false
def pos (z : Int) : Int := if z > 0 then z else 0
def tnNum (r : List Bool) (z : Int) : Int := (pos (-hgt (r.take z.toNat)) + 1) / 2 + (pos (hgt r - hgt (r.take z.toNat)) + 1) / 2
def sp_t_init (K : PySem.W.Frag) (C : CA) : Sp := fun vs H Q _ => ∃ (x d a : Addr) (ps : List Int) (z : Int), TnC K C ∧ vs = [.ref x, .ref a, .int z] ∧ H x = some (.ins C.c_Turned d []) ∧ SqL K H a (ps.map V.int) ∧ a ≠ x ∧
  ∀ H' a2, Ex (del x H) H' → del x H a2 = none → [a2, x].Nodup → H' x = some (tIns C d a2 z) → H' a2 = some (.lst (ps.map V.int)) → Q .non H'
def sp_turns (K : PySem.W.Frag) (C : CA) : Sp := fun vs H Q _ => ∃ r : List Bool, Ex03 K C ∧ vs = [.str (T r)] ∧ r.length ≤ 40 ∧
  (r.length % 2 = 1 → ∀ H' x d, Ex H H' → H x = none → H' x = some (oIns C d) → Q (.ref x) H') ∧
  (r.length % 2 = 0 → ∀ H' x d a c ps, Ex H H' → H x = none → H a = none → [a, x].Nodup → H' x = some (tIns C d a (c : Nat)) → H' a = some (.lst ((inz ps).map V.int)) → c ≤ r.length → (∀ j, j ≤ r.length → hgt (r.take c) ≤ hgt (r.take j)) → ps.Nodup → (∀ p ∈ ps, p < r.length) → isR (flp (inz ps) r) = true → (ps.length : Int) = tnNum r c → Q (.ref x) H')
end BM
namespace BM
open PySem L2 Evl
def N_t_init : List Str := ["self", "places", "cut"]
def rd_t_init (K : PySem.W.Frag) (C_ : CA) : TS :=
    (tSeq (sFld K (tVar 0) (tCB (aListOf K) (tCons (tVar 1) tNil)) "places")
    (sFld K (tVar 0) (tVar 2) "cut"))
def N_turns : List Str := ["row", "found", "high", "closers", "openers", "low", "cut", "many", "more", "at"]
def rd_turns (K : PySem.W.Frag) (C_ : CA) : TS :=
    (tSeq (tDrop (tCall (sp_asked_row K C_) [] E0 (tCons (tVar 0) tNil)))
    (tSeq (tIfS (tTest (tOp rEq (tOp aMod (tCB aLenT (tCons (tVar 0) tNil)) (tC (.int 2))) (tC (.int 1)))) (tRet (tMk0 C_.c_Odd)) tNext)
    (tSeq (tAsg (tCall (sp_depths_of K C_) [] E0 (tCons (tVar 0) tNil)) (gName 1))
    (tSeq (tPar 5 6 (tCons (tUn aNeg (tCB (rMin K) (tCons (tVar 1) tNil))) (tCons (tBM K "list" (aIndex K) (tVar 1) (tCons (tCB (rMin K) (tCons (tVar 1) tNil)) tNil)) tNil)))
    (tSeq (tAsg (tOp aAdd (tOp (rIxL K) (tVar 1) (tUn aNeg (tC (.int 1)))) (tVar 5)) (gName 2))
    (tSeq (tAsg (tLc (iRng1 (tCons (tVar 6) tNil)) (gName 9) (tAnd (tTest (tOp rEq (tOp aIxT (tVar 0) (tVar 9)) (tC (.str (T [false]))))) (tTest (tOp rEq (tOp (rIxL K) (tVar 1) (tOp aAdd (tVar 9) (tC (.int 1)))) (tCB (rMin K) (tCons (tSl (rSlL K) (tVar 1) tNoPart (tPart (tOp aAdd (tVar 9) (tC (.int 2))))) tNil))))) (tVar 9) [9]) (gName 3))
    (tSeq (tAsg (tLc (iRng2 (tCons (tVar 6) (tCons (tCB aLenT (tCons (tVar 0) tNil)) tNil))) (gName 9) (tAnd (tTest (tOp rEq (tOp aIxT (tVar 0) (tVar 9)) (tC (.str (T [true]))))) (tTest (tOp rEq (tOp (rIxL K) (tVar 1) (tVar 9)) (tCB (rMin K) (tCons (tSl (rSlL K) (tVar 1) (tPart (tVar 9)) tNoPart) tNil))))) (tVar 9) [9]) (gName 4))
    (tSeq (tPar 7 8 (tCons (tOp aDiv (tOp aAdd (tVar 5) (tC (.int 1))) (tC (.int 2))) (tCons (tOp aDiv (tOp aAdd (tVar 2) (tC (.int 1))) (tC (.int 2))) tNil)))
    (tRet (tMake C_.c_Turned (sp_t_init K C_) [] E0 (tCons (tOp rCat (tSl (rSlL K) (tVar 3) tNoPart (tPart (tVar 7))) (tSl (rSlL K) (tVar 4) (tPart (tOp aSub (tCB (aLenL K) (tCons (tVar 4) tNil)) (tVar 8))) tNoPart)) (tCons (tVar 6) tNil))))))))))))
end BM
namespace BM
open PySem L2 Evl
local macro_rules | `(tactic| walk_at "mem") => `(tactic| first | exact List.mem_cons_self | (refine List.mem_cons_of_mem _ ?_; walk_at "mem"))
local macro_rules | `(tactic| walk_at "swap") => `(tactic| first | exact Swap.here | (apply Swap.there; walk_at "swap"))
local macro_rules | `(tactic| walk_at "subl") => `(tactic| first | exact List.Sublist.refl _ | exact List.nil_sublist _ | (refine List.Sublist.cons_cons _ ?_; walk_at "subl") | (refine List.Sublist.cons _ ?_; walk_at "subl"))
local macro_rules | `(tactic| walk_at "sub") => `(tactic| first | exact Sub.refl _ | (refine ⟨?_, ?_⟩ <;> walk_at "subl"))
local macro_rules | `(tactic| walk_at "isl") => `(tactic| first | exact isL_own (by walk_at "mem") | exact isL_old (by assumption) | assumption)
local macro_rules | `(tactic| walk_at "ist") => `(tactic| first | exact isT_own (by walk_at "mem") | exact isT_old (by assumption) | assumption)
local macro_rules | `(tactic| walk_at "len") => `(tactic| first | omega | decide | (simp only [List.length_map, List.length_take, List.length_drop, List.length_append, List.length_cons, List.length_nil, List.length_reverse, dps_len, flp_len]; omega) | (simp [dps_len, flp_len]; omega) | simp)
local macro_rules | `(tactic| walk_at "b0") => `(tactic| first
  | with_reducible refine' ws_set ?_
  | with_reducible refine' ws_par ?_
  | with_reducible refine' ws_asg ?_
  | with_reducible refine' ws_drop ?_
  | with_reducible refine' ws_ret ?_
  | with_reducible refine' ws_if ?_
  | with_reducible refine' ws_next ?_
  | with_reducible refine' ws_brk ?_
  | with_reducible refine' ws_cont ?_
  | ((with_reducible refine' we_var ?hv ?_); case hv => rfl)
  | with_reducible refine' we_c ?_
  | with_reducible refine' we_op ?_
  | with_reducible refine' we_un ?_
  | with_reducible refine' we_if ?_
  | with_reducible refine' we_and ?_
  | with_reducible refine' we_or ?_
  | with_reducible refine' we_not ?_
  | with_reducible refine' wa_nil ?_
  | with_reducible refine' wa_cons ?_
  | (with_reducible refine' we_lst ?_)
  | (with_reducible refine' we_tup ?_)
  | with_reducible refine' we_cb ?_
  | with_reducible refine' we_call0 ?_
  | with_reducible refine' we_sl ?_
  | with_reducible refine' wo_none ?_
  | (with_reducible refine' wo_some ?_)
  | with_reducible refine' wt_test ?_
  | with_reducible refine' wt_B ?_
  | with_reducible refine' wt_and ?_
  | with_reducible refine' wt_or ?_
  | with_reducible refine' wt_not ?_
  | with_reducible refine' wt_yes ?_
  | with_reducible refine' we_chain ?_
  | with_reducible refine' we_chain3 ?_
  | with_reducible refine' we_revT ?_
  | with_reducible refine' we_revL ?_
  | with_reducible refine' we_bm ?_
  | with_reducible refine' we_bm0 ?_
  | with_reducible refine' ws_for ?_
  | with_reducible refine' we_lc ?_
  | with_reducible refine' wi_list ?_
  | with_reducible refine' wi_tup ?_
  | with_reducible refine' wi_T ?_
  | with_reducible refine' wi_rng1 ?_
  | with_reducible refine' wi_rng2 ?_
  | with_reducible refine' wi_rng3 ?_
  | with_reducible refine' wi_enum ?_
  | with_reducible refine' wi_enumT ?_
  | with_reducible refine' wi_zip ?_
  | with_reducible refine' wg_name ?_
  | with_reducible refine' wg_sub ?_
  | with_reducible refine' wgs_nil ?_
  | with_reducible refine' wgs_cons ?_
  | ((with_reducible refine' wg_tup ?ht ?hn ?_); (case ht => walk_at "ist"); (case hn => rfl))
  | with_reducible refine' w2_add ?_
  | with_reducible refine' w2_sub ?_
  | with_reducible refine' w2_lt ?_
  | with_reducible refine' w2_le ?_
  | with_reducible refine' w2_gt ?_
  | with_reducible refine' w2_ge ?_
  | with_reducible refine' w2_eqI ?_
  | with_reducible refine' w2_neI ?_
  | with_reducible refine' w2_eqT ?_
  | with_reducible refine' w2_neT ?_
  | with_reducible refine' w2_eqB ?_
  | with_reducible refine' w2_neB ?_
  | with_reducible refine' w2_isN ?_
  | with_reducible refine' w2_notN ?_
  | with_reducible refine' w2_isB ?_
  | with_reducible refine' w2_inT ?_
  | with_reducible refine' w1_neg ?_
  | with_reducible refine' wl_abs ?_
  | with_reducible refine' wl_max2 ?_
  | with_reducible refine' wl_min2 ?_
  | with_reducible refine' wl_intB ?_
  | ((with_reducible refine' w2_div ?h ?_); case h => first | omega | (constructor <;> omega))
  | ((with_reducible refine' w2_mod ?h ?_); case h => omega)
  | ((with_reducible refine' w2_catT ?h ?_); case h => walk_at "len")
  | ((with_reducible refine' wsl_T ?h ?_); case h => walk_at "len")
  | ((with_reducible refine' wl_lenT ?h ?_); case h => walk_at "len")
  | ((with_reducible refine' wl_len ?h ?_); case h => walk_at "isl")
  | ((with_reducible refine' wl_len ?h ?_); case h => walk_at "isl")
  | ((with_reducible refine' wm_append ?sw ?hl ?_); (case sw => walk_at "swap"); (case hl => walk_at "len")))
local macro_rules | `(tactic| walk_at "b1") => `(tactic| first | with_reducible refine' ws_seq ?_ | walk_at "b0")
local macro_rules | `(tactic| walk_at "bx") => `(tactic| first
  | refine ⟨_, rfl, ?_⟩
  | refine ⟨_, _, rfl, ?_⟩
  | refine ⟨ty_L (by walk_at "isl"), ?_⟩
  | refine ⟨ty_S, ?_⟩
  | refine spl_t (by rfl) ?_
  | refine spl_f (by rfl) ?_
  | exact rfl)
local macro_rules | `(tactic| walk_at "bm") => `(tactic| repeat (first | walk_at "b1" | walk_at "bx"))
local macro_rules | `(tactic| walk_at "bn") => `(tactic| repeat (first | walk_at "b0" | walk_at "bx"))
local macro_rules | `(tactic| walk_at "b0") => `(tactic| with_reducible refine' c_deepens ?_)
local macro_rules | `(tactic| walk_at "b0") => `(tactic| ((with_reducible refine' c_depths_of ?hl ?_); (case hl => walk_at "len")))
local macro_rules | `(tactic| walk_at "b0") => `(tactic| with_reducible refine' c_is_wholeI ?_)
local macro_rules | `(tactic| walk_at "b0") => `(tactic| with_reducible refine' c_flipped ?_)
local macro_rules | `(tactic| walk_at "b0") => `(tactic| ((with_reducible refine' c_is_right_row ?hl ?_); (case hl => walk_at "len")))
local macro_rules | `(tactic| walk_at "b0") => `(tactic| ((with_reducible refine' c_asked_row ?hl ?_); (case hl => walk_at "len")))
local macro_rules | `(tactic| walk_at "b0") => `(tactic| ((with_reducible refine' c_depths ?hl ?_); (case hl => walk_at "len")))
local macro_rules | `(tactic| walk_at "b0") => `(tactic| ((with_reducible refine' c_is_right ?hl ?_); (case hl => walk_at "len")))
local macro_rules | `(tactic| walk_at "b0") => `(tactic| ((with_reducible refine' c__law_depths ?hl ?_); (case hl => walk_at "len")))
local macro_rules | `(tactic| walk_at "b0") => `(tactic| ((with_reducible refine' c__law_good ?hl ?_); (case hl => walk_at "len")))
local macro_rules | `(tactic| walk_at "b0") => `(tactic| ((with_reducible refine' wl_listOf ?hx ?_); (case hx => walk_at "isl")))
local macro_rules | `(tactic| walk_at "b0") => `(tactic| with_reducible refine' w2_notB ?_)
local macro_rules | `(tactic| walk_at "own") => `(tactic| exact own_l (by walk_at "mem"))
local macro_rules | `(tactic| walk_at "b0") => `(tactic| with_reducible refine' we_fld ?_)
local macro_rules | `(tactic| walk_at "b0") => `(tactic| refine ⟨_, _, _, _, _, rfl, own_l (by walk_at "mem"), Grw.cl (by assumption), Grw.nr (by assumption), by rfl, ?_⟩)
local macro_rules | `(tactic| walk_at "b0") => `(tactic| refine ⟨_, _, _, _, _, rfl, fun H' o => o.ex _ _ (by assumption), Grw.cl (by assumption), Grw.nr (by assumption), by rfl, ?_⟩)
local macro_rules | `(tactic| walk_at "b0") => `(tactic| with_reducible refine' we_meth ?_)
local macro_rules | `(tactic| walk_at "b0") => `(tactic| refine ⟨_, _, _, rfl, own_l (by walk_at "mem"), by rfl, ?_⟩)
local macro_rules | `(tactic| walk_at "b0") => `(tactic| refine ⟨_, _, _, rfl, fun H' o => o.ex _ _ (by assumption), by rfl, ?_⟩)
local macro_rules | `(tactic| walk_at "gown") => `(tactic| first | exact own_l (by walk_at "mem") | exact fun H' o => o.ex _ _ (by assumption))
local macro_rules | `(tactic| walk_at "b0") => `(tactic| with_reducible refine' wm_countT ?_)
local macro_rules | `(tactic| walk_at "b0") => `(tactic| with_reducible refine' we_methU ?_)
theorem ln_t_init {K : PySem.W.Frag} {C : CA} {vs : List V} {H : Hp} {Q : VK} {E : XK} (h : sp_t_init K C vs H Q E) : vs.length = 3 := by
  obtain ⟨x, d, a, ps, z, _, rfl, _⟩ := h
  rfl
theorem pu_t_init {K : PySem.W.Frag} {C : CA} {vs : List V} {H : Hp} {Q : VK} {E : XK} (h : sp_t_init K C vs H Q E) : rd_t_init K C { nx := fun _ H' => Q .non H', rt := Q } (start N_t_init vs) H := by
  obtain ⟨x, d, a, ps, z, hT, rfl, hx, ha, hax, k⟩ := h
  have ha' : SqL K (del x H) a (ps.map V.int) := sq_del hax ha
  have h1 : WS (del x H) (rd_t_init K C) (start N_t_init [.ref x, .ref a, .int z]) ⟨[(x, .ins C.c_Turned d [])], []⟩ { nx := fun _ s => ∃ a2, Sub ⟨[(a2, .lst (ps.map V.int)), (x, tIns C d a2 z)], []⟩ s, rt := fun _ _ => False } := by
    unfold rd_t_init
    refine ws_seq (ws_fld ?_)
    walk_at "bm"
    intro a2 ha2
    walk_at "bm"
    refine ⟨x, _, d, [], _, rfl, Swap.there Swap.here, hT.c.cl, hT.np, by decide, ?_⟩
    refine ws_fld ?_
    walk_at "bm"
    refine ⟨x, _, d, _, _, rfl, Swap.there Swap.here, hT.c.cl, hT.nc, by show 1 < 1000; decide, ?_⟩
    exact ⟨a2, Sub.refl _⟩
  refine h1 H (own_del hx) _ ⟨fun σ H' s w ⟨a2, hs⟩ => ?_, (fun _ _ _ _ q => q.elim), (fun _ _ _ _ q => q.elim), (fun _ _ _ _ q => q.elim)⟩
  have w2 := w.sub hs
  have nd : [a2, x].Nodup := w2.nd
  have ma := w2.own (a2, .lst (ps.map V.int)) List.mem_cons_self
  exact k H' a2 w.ex ma.1 nd (w2.own (x, tIns C d a2 z) (List.mem_cons_of_mem _ List.mem_cons_self)).2 ma.2
theorem atI_dps {r : List Bool} {z : Int} (h0 : 0 ≤ z) (h1 : z ≤ (r.length : Int)) : atI ((dps r).map V.int) z = some (.int (hgt (r.take z.toNat))) := atI_of h0 (by rw [List.getElem?_map, dps_get (by omega)]; rfl)
end BM
namespace BM
open PySem L2 Evl
local macro_rules | `(tactic| walk_at "mem") => `(tactic| first | exact List.mem_cons_self | (refine List.mem_cons_of_mem _ ?_; walk_at "mem"))
local macro_rules | `(tactic| walk_at "swap") => `(tactic| first | exact Swap.here | (apply Swap.there; walk_at "swap"))
local macro_rules | `(tactic| walk_at "subl") => `(tactic| first | exact List.Sublist.refl _ | exact List.nil_sublist _ | (refine List.Sublist.cons_cons _ ?_; walk_at "subl") | (refine List.Sublist.cons _ ?_; walk_at "subl"))
local macro_rules | `(tactic| walk_at "sub") => `(tactic| first | exact Sub.refl _ | (refine ⟨?_, ?_⟩ <;> walk_at "subl"))
local macro_rules | `(tactic| walk_at "isl") => `(tactic| first | exact isL_own (by walk_at "mem") | exact isL_old (by assumption) | assumption)
local macro_rules | `(tactic| walk_at "ist") => `(tactic| first | exact isT_own (by walk_at "mem") | exact isT_old (by assumption) | assumption)
local macro_rules | `(tactic| walk_at "len") => `(tactic| first | omega | decide | (simp only [List.length_map, List.length_take, List.length_drop, List.length_append, List.length_cons, List.length_nil, List.length_reverse, dps_len, flp_len]; omega) | (simp [dps_len, flp_len]; omega) | simp)
local macro_rules | `(tactic| walk_at "b0") => `(tactic| first
  | with_reducible refine' ws_set ?_
  | with_reducible refine' ws_par ?_
  | with_reducible refine' ws_asg ?_
  | with_reducible refine' ws_drop ?_
  | with_reducible refine' ws_ret ?_
  | with_reducible refine' ws_if ?_
  | with_reducible refine' ws_next ?_
  | with_reducible refine' ws_brk ?_
  | with_reducible refine' ws_cont ?_
  | ((with_reducible refine' we_var ?hv ?_); case hv => rfl)
  | with_reducible refine' we_c ?_
  | with_reducible refine' we_op ?_
  | with_reducible refine' we_un ?_
  | with_reducible refine' we_if ?_
  | with_reducible refine' we_and ?_
  | with_reducible refine' we_or ?_
  | with_reducible refine' we_not ?_
  | with_reducible refine' wa_nil ?_
  | with_reducible refine' wa_cons ?_
  | (with_reducible refine' we_lst ?_)
  | (with_reducible refine' we_tup ?_)
  | with_reducible refine' we_cb ?_
  | with_reducible refine' we_call0 ?_
  | with_reducible refine' we_sl ?_
  | with_reducible refine' wo_none ?_
  | (with_reducible refine' wo_some ?_)
  | with_reducible refine' wt_test ?_
  | with_reducible refine' wt_B ?_
  | with_reducible refine' wt_and ?_
  | with_reducible refine' wt_or ?_
  | with_reducible refine' wt_not ?_
  | with_reducible refine' wt_yes ?_
  | with_reducible refine' we_chain ?_
  | with_reducible refine' we_chain3 ?_
  | with_reducible refine' we_revT ?_
  | with_reducible refine' we_revL ?_
  | with_reducible refine' we_bm ?_
  | with_reducible refine' we_bm0 ?_
  | with_reducible refine' ws_for ?_
  | with_reducible refine' we_lc ?_
  | with_reducible refine' wi_list ?_
  | with_reducible refine' wi_tup ?_
  | with_reducible refine' wi_T ?_
  | with_reducible refine' wi_rng1 ?_
  | with_reducible refine' wi_rng2 ?_
  | with_reducible refine' wi_rng3 ?_
  | with_reducible refine' wi_enum ?_
  | with_reducible refine' wi_enumT ?_
  | with_reducible refine' wi_zip ?_
  | with_reducible refine' wg_name ?_
  | with_reducible refine' wg_sub ?_
  | with_reducible refine' wgs_nil ?_
  | with_reducible refine' wgs_cons ?_
  | ((with_reducible refine' wg_tup ?ht ?hn ?_); (case ht => walk_at "ist"); (case hn => rfl))
  | with_reducible refine' w2_add ?_
  | with_reducible refine' w2_sub ?_
  | with_reducible refine' w2_lt ?_
  | with_reducible refine' w2_le ?_
  | with_reducible refine' w2_gt ?_
  | with_reducible refine' w2_ge ?_
  | with_reducible refine' w2_eqI ?_
  | with_reducible refine' w2_neI ?_
  | with_reducible refine' w2_eqT ?_
  | with_reducible refine' w2_neT ?_
  | with_reducible refine' w2_eqB ?_
  | with_reducible refine' w2_neB ?_
  | with_reducible refine' w2_isN ?_
  | with_reducible refine' w2_notN ?_
  | with_reducible refine' w2_isB ?_
  | with_reducible refine' w2_inT ?_
  | with_reducible refine' w1_neg ?_
  | with_reducible refine' wl_abs ?_
  | with_reducible refine' wl_max2 ?_
  | with_reducible refine' wl_min2 ?_
  | with_reducible refine' wl_intB ?_
  | ((with_reducible refine' w2_div ?h ?_); case h => first | omega | (constructor <;> omega))
  | ((with_reducible refine' w2_mod ?h ?_); case h => omega)
  | ((with_reducible refine' w2_catT ?h ?_); case h => walk_at "len")
  | ((with_reducible refine' wsl_T ?h ?_); case h => walk_at "len")
  | ((with_reducible refine' wl_lenT ?h ?_); case h => walk_at "len")
  | ((with_reducible refine' wl_len ?h ?_); case h => walk_at "isl")
  | ((with_reducible refine' wl_len ?h ?_); case h => walk_at "isl")
  | ((with_reducible refine' wm_append ?sw ?hl ?_); (case sw => walk_at "swap"); (case hl => walk_at "len")))
local macro_rules | `(tactic| walk_at "b1") => `(tactic| first | with_reducible refine' ws_seq ?_ | walk_at "b0")
local macro_rules | `(tactic| walk_at "bx") => `(tactic| first
  | refine ⟨_, rfl, ?_⟩
  | refine ⟨_, _, rfl, ?_⟩
  | refine ⟨ty_L (by walk_at "isl"), ?_⟩
  | refine ⟨ty_S, ?_⟩
  | refine spl_t (by rfl) ?_
  | refine spl_f (by rfl) ?_
  | exact rfl)
local macro_rules | `(tactic| walk_at "bm") => `(tactic| repeat (first | walk_at "b1" | walk_at "bx"))
local macro_rules | `(tactic| walk_at "bn") => `(tactic| repeat (first | walk_at "b0" | walk_at "bx"))
local macro_rules | `(tactic| walk_at "b0") => `(tactic| with_reducible refine' c_deepens ?_)
local macro_rules | `(tactic| walk_at "b0") => `(tactic| ((with_reducible refine' c_depths_of ?hl ?_); (case hl => walk_at "len")))
local macro_rules | `(tactic| walk_at "b0") => `(tactic| with_reducible refine' c_is_wholeI ?_)
local macro_rules | `(tactic| walk_at "b0") => `(tactic| with_reducible refine' c_flipped ?_)
local macro_rules | `(tactic| walk_at "b0") => `(tactic| ((with_reducible refine' c_is_right_row ?hl ?_); (case hl => walk_at "len")))
local macro_rules | `(tactic| walk_at "b0") => `(tactic| ((with_reducible refine' c_asked_row ?hl ?_); (case hl => walk_at "len")))
local macro_rules | `(tactic| walk_at "b0") => `(tactic| ((with_reducible refine' c_depths ?hl ?_); (case hl => walk_at "len")))
local macro_rules | `(tactic| walk_at "b0") => `(tactic| ((with_reducible refine' c_is_right ?hl ?_); (case hl => walk_at "len")))
local macro_rules | `(tactic| walk_at "b0") => `(tactic| ((with_reducible refine' c__law_depths ?hl ?_); (case hl => walk_at "len")))
local macro_rules | `(tactic| walk_at "b0") => `(tactic| ((with_reducible refine' c__law_good ?hl ?_); (case hl => walk_at "len")))
local macro_rules | `(tactic| walk_at "b0") => `(tactic| ((with_reducible refine' wl_listOf ?hx ?_); (case hx => walk_at "isl")))
local macro_rules | `(tactic| walk_at "b0") => `(tactic| with_reducible refine' w2_notB ?_)
local macro_rules | `(tactic| walk_at "own") => `(tactic| exact own_l (by walk_at "mem"))
local macro_rules | `(tactic| walk_at "b0") => `(tactic| with_reducible refine' we_fld ?_)
local macro_rules | `(tactic| walk_at "b0") => `(tactic| refine ⟨_, _, _, _, _, rfl, own_l (by walk_at "mem"), Grw.cl (by assumption), Grw.nr (by assumption), by rfl, ?_⟩)
local macro_rules | `(tactic| walk_at "b0") => `(tactic| refine ⟨_, _, _, _, _, rfl, fun H' o => o.ex _ _ (by assumption), Grw.cl (by assumption), Grw.nr (by assumption), by rfl, ?_⟩)
local macro_rules | `(tactic| walk_at "b0") => `(tactic| with_reducible refine' we_meth ?_)
local macro_rules | `(tactic| walk_at "b0") => `(tactic| refine ⟨_, _, _, rfl, own_l (by walk_at "mem"), by rfl, ?_⟩)
local macro_rules | `(tactic| walk_at "b0") => `(tactic| refine ⟨_, _, _, rfl, fun H' o => o.ex _ _ (by assumption), by rfl, ?_⟩)
local macro_rules | `(tactic| walk_at "gown") => `(tactic| first | exact own_l (by walk_at "mem") | exact fun H' o => o.ex _ _ (by assumption))
local macro_rules | `(tactic| walk_at "b0") => `(tactic| with_reducible refine' wm_countT ?_)
local macro_rules | `(tactic| walk_at "b0") => `(tactic| with_reducible refine' we_methU ?_)
end BM
namespace BM
open PySem L2 Evl
local macro_rules | `(tactic| walk_at "mem") => `(tactic| first | exact List.mem_cons_self | (refine List.mem_cons_of_mem _ ?_; walk_at "mem"))
local macro_rules | `(tactic| walk_at "swap") => `(tactic| first | exact Swap.here | (apply Swap.there; walk_at "swap"))
local macro_rules | `(tactic| walk_at "subl") => `(tactic| first | exact List.Sublist.refl _ | exact List.nil_sublist _ | (refine List.Sublist.cons_cons _ ?_; walk_at "subl") | (refine List.Sublist.cons _ ?_; walk_at "subl"))
local macro_rules | `(tactic| walk_at "sub") => `(tactic| first | exact Sub.refl _ | (refine ⟨?_, ?_⟩ <;> walk_at "subl"))
local macro_rules | `(tactic| walk_at "isl") => `(tactic| first | exact isL_own (by walk_at "mem") | exact isL_old (by assumption) | assumption)
local macro_rules | `(tactic| walk_at "ist") => `(tactic| first | exact isT_own (by walk_at "mem") | exact isT_old (by assumption) | assumption)
local macro_rules | `(tactic| walk_at "len") => `(tactic| first | omega | decide | (simp only [List.length_map, List.length_take, List.length_drop, List.length_append, List.length_cons, List.length_nil, List.length_reverse, dps_len, flp_len]; omega) | (simp [dps_len, flp_len]; omega) | simp)
local macro_rules | `(tactic| walk_at "b0") => `(tactic| first
  | with_reducible refine' ws_set ?_
  | with_reducible refine' ws_par ?_
  | with_reducible refine' ws_asg ?_
  | with_reducible refine' ws_drop ?_
  | with_reducible refine' ws_ret ?_
  | with_reducible refine' ws_if ?_
  | with_reducible refine' ws_next ?_
  | with_reducible refine' ws_brk ?_
  | with_reducible refine' ws_cont ?_
  | ((with_reducible refine' we_var ?hv ?_); case hv => rfl)
  | with_reducible refine' we_c ?_
  | with_reducible refine' we_op ?_
  | with_reducible refine' we_un ?_
  | with_reducible refine' we_if ?_
  | with_reducible refine' we_and ?_
  | with_reducible refine' we_or ?_
  | with_reducible refine' we_not ?_
  | with_reducible refine' wa_nil ?_
  | with_reducible refine' wa_cons ?_
  | (with_reducible refine' we_lst ?_)
  | (with_reducible refine' we_tup ?_)
  | with_reducible refine' we_cb ?_
  | with_reducible refine' we_call0 ?_
  | with_reducible refine' we_sl ?_
  | with_reducible refine' wo_none ?_
  | (with_reducible refine' wo_some ?_)
  | with_reducible refine' wt_test ?_
  | with_reducible refine' wt_B ?_
  | with_reducible refine' wt_and ?_
  | with_reducible refine' wt_or ?_
  | with_reducible refine' wt_not ?_
  | with_reducible refine' wt_yes ?_
  | with_reducible refine' we_chain ?_
  | with_reducible refine' we_chain3 ?_
  | with_reducible refine' we_revT ?_
  | with_reducible refine' we_revL ?_
  | with_reducible refine' we_bm ?_
  | with_reducible refine' we_bm0 ?_
  | with_reducible refine' ws_for ?_
  | with_reducible refine' we_lc ?_
  | with_reducible refine' wi_list ?_
  | with_reducible refine' wi_tup ?_
  | with_reducible refine' wi_T ?_
  | with_reducible refine' wi_rng1 ?_
  | with_reducible refine' wi_rng2 ?_
  | with_reducible refine' wi_rng3 ?_
  | with_reducible refine' wi_enum ?_
  | with_reducible refine' wi_enumT ?_
  | with_reducible refine' wi_zip ?_
  | with_reducible refine' wg_name ?_
  | with_reducible refine' wg_sub ?_
  | with_reducible refine' wgs_nil ?_
  | with_reducible refine' wgs_cons ?_
  | ((with_reducible refine' wg_tup ?ht ?hn ?_); (case ht => walk_at "ist"); (case hn => rfl))
  | with_reducible refine' w2_add ?_
  | with_reducible refine' w2_sub ?_
  | with_reducible refine' w2_lt ?_
  | with_reducible refine' w2_le ?_
  | with_reducible refine' w2_gt ?_
  | with_reducible refine' w2_ge ?_
  | with_reducible refine' w2_eqI ?_
  | with_reducible refine' w2_neI ?_
  | with_reducible refine' w2_eqT ?_
  | with_reducible refine' w2_neT ?_
  | with_reducible refine' w2_eqB ?_
  | with_reducible refine' w2_neB ?_
  | with_reducible refine' w2_isN ?_
  | with_reducible refine' w2_notN ?_
  | with_reducible refine' w2_isB ?_
  | with_reducible refine' w2_inT ?_
  | with_reducible refine' w1_neg ?_
  | with_reducible refine' wl_abs ?_
  | with_reducible refine' wl_max2 ?_
  | with_reducible refine' wl_min2 ?_
  | with_reducible refine' wl_intB ?_
  | ((with_reducible refine' w2_div ?h ?_); case h => first | omega | (constructor <;> omega))
  | ((with_reducible refine' w2_mod ?h ?_); case h => omega)
  | ((with_reducible refine' w2_catT ?h ?_); case h => walk_at "len")
  | ((with_reducible refine' wsl_T ?h ?_); case h => walk_at "len")
  | ((with_reducible refine' wl_lenT ?h ?_); case h => walk_at "len")
  | ((with_reducible refine' wl_len ?h ?_); case h => walk_at "isl")
  | ((with_reducible refine' wl_len ?h ?_); case h => walk_at "isl")
  | ((with_reducible refine' wm_append ?sw ?hl ?_); (case sw => walk_at "swap"); (case hl => walk_at "len")))
local macro_rules | `(tactic| walk_at "b1") => `(tactic| first | with_reducible refine' ws_seq ?_ | walk_at "b0")
local macro_rules | `(tactic| walk_at "bx") => `(tactic| first
  | refine ⟨_, rfl, ?_⟩
  | refine ⟨_, _, rfl, ?_⟩
  | refine ⟨ty_L (by walk_at "isl"), ?_⟩
  | refine ⟨ty_S, ?_⟩
  | refine spl_t (by rfl) ?_
  | refine spl_f (by rfl) ?_
  | exact rfl)
local macro_rules | `(tactic| walk_at "bm") => `(tactic| repeat (first | walk_at "b1" | walk_at "bx"))
local macro_rules | `(tactic| walk_at "bn") => `(tactic| repeat (first | walk_at "b0" | walk_at "bx"))
local macro_rules | `(tactic| walk_at "b0") => `(tactic| with_reducible refine' c_deepens ?_)
local macro_rules | `(tactic| walk_at "b0") => `(tactic| ((with_reducible refine' c_depths_of ?hl ?_); (case hl => walk_at "len")))
local macro_rules | `(tactic| walk_at "b0") => `(tactic| with_reducible refine' c_is_wholeI ?_)
local macro_rules | `(tactic| walk_at "b0") => `(tactic| with_reducible refine' c_flipped ?_)
local macro_rules | `(tactic| walk_at "b0") => `(tactic| ((with_reducible refine' c_is_right_row ?hl ?_); (case hl => walk_at "len")))
local macro_rules | `(tactic| walk_at "b0") => `(tactic| ((with_reducible refine' c_asked_row ?hl ?_); (case hl => walk_at "len")))
local macro_rules | `(tactic| walk_at "b0") => `(tactic| ((with_reducible refine' c_depths ?hl ?_); (case hl => walk_at "len")))
local macro_rules | `(tactic| walk_at "b0") => `(tactic| ((with_reducible refine' c_is_right ?hl ?_); (case hl => walk_at "len")))
local macro_rules | `(tactic| walk_at "b0") => `(tactic| ((with_reducible refine' c__law_depths ?hl ?_); (case hl => walk_at "len")))
local macro_rules | `(tactic| walk_at "b0") => `(tactic| ((with_reducible refine' c__law_good ?hl ?_); (case hl => walk_at "len")))
local macro_rules | `(tactic| walk_at "b0") => `(tactic| ((with_reducible refine' wl_listOf ?hx ?_); (case hx => walk_at "isl")))
local macro_rules | `(tactic| walk_at "b0") => `(tactic| with_reducible refine' w2_notB ?_)
local macro_rules | `(tactic| walk_at "own") => `(tactic| exact own_l (by walk_at "mem"))
local macro_rules | `(tactic| walk_at "b0") => `(tactic| with_reducible refine' we_fld ?_)
local macro_rules | `(tactic| walk_at "b0") => `(tactic| refine ⟨_, _, _, _, _, rfl, own_l (by walk_at "mem"), Grw.cl (by assumption), Grw.nr (by assumption), by rfl, ?_⟩)
local macro_rules | `(tactic| walk_at "b0") => `(tactic| refine ⟨_, _, _, _, _, rfl, fun H' o => o.ex _ _ (by assumption), Grw.cl (by assumption), Grw.nr (by assumption), by rfl, ?_⟩)
local macro_rules | `(tactic| walk_at "b0") => `(tactic| with_reducible refine' we_meth ?_)
local macro_rules | `(tactic| walk_at "b0") => `(tactic| refine ⟨_, _, _, rfl, own_l (by walk_at "mem"), by rfl, ?_⟩)
local macro_rules | `(tactic| walk_at "b0") => `(tactic| refine ⟨_, _, _, rfl, fun H' o => o.ex _ _ (by assumption), by rfl, ?_⟩)
local macro_rules | `(tactic| walk_at "gown") => `(tactic| first | exact own_l (by walk_at "mem") | exact fun H' o => o.ex _ _ (by assumption))
local macro_rules | `(tactic| walk_at "b0") => `(tactic| with_reducible refine' wm_countT ?_)
local macro_rules | `(tactic| walk_at "b0") => `(tactic| with_reducible refine' we_methU ?_)
theorem c_t_init {K : PySem.W.Frag} {C : CA} {H0 : Hp} {Q : V → Ld → Prop} {E : XK} {x d a : Addr} {ps : List Int} {z : Int} {L : List (Addr × HO)} {T : List (Addr × List V)} (hT : TnC K C) (ha : (a, HO.lst (ps.map V.int)) ∈ L) (q : ∀ a2, H0 a2 = none → Q .non ⟨(a2, .lst (ps.map V.int)) :: (x, tIns C d a2 z) :: L, T⟩) : WC H0 (sp_t_init K C) E [.ref x, .ref a, .int z] ⟨(x, .ins C.c_Turned d []) :: L, T⟩ Q := fun H o R k => by
  have hk : x ∉ L.map (·.1) := (List.nodup_cons.mp o.nd).1
  have hax : a ≠ x := fun e => hk (List.mem_map.mpr ⟨_, ha, e⟩)
  refine ⟨x, d, a, ps, z, hT, rfl, (o.own _ List.mem_cons_self).2, sq_of (o.own _ (List.mem_cons_of_mem _ ha)).2, hax, fun H' a2 e h1 nd hx h3 => ?_⟩
  have a2x : a2 ≠ x := fun e => (List.nodup_cons.mp nd).1 (by rw [e]; exact List.mem_cons_self)
  rw [del_ne a2x] at h1
  have w1 := own_after o (Swap.here (o := .ins C.c_Turned d []) (o' := tIns C d a2 z)) trivial e hx
  have w2 := own_add w1 (fresh_back o.ex h1) (show a2 ∉ x :: L.map (·.1) from own_key o h1) h3
  exact k _ _ _ w2 (q a2 (fresh_back o.ex h1))
theorem we_turned {K : PySem.W.Frag} {C : CA} {H0 : Hp} {σ : L2.St} {s : Ld} {Q : V → Ld → Prop} {E : XK} {ta : TA} (hT : TnC K C) (h : WA H0 ta σ s fun vs s1 => ∃ (a : Addr) (ps : List Int) (z : Int), vs = [.ref a, .int z] ∧ (a, HO.lst (ps.map V.int)) ∈ s1.L ∧ ∀ x dx a2, H0 x = none → H0 a2 = none → Q (.ref x) ⟨(a2, .lst (ps.map V.int)) :: (x, tIns C dx a2 z) :: (dx, .own x) :: s1.L, s1.T⟩) : WE H0 (tMake C.c_Turned (sp_t_init K C) [] E ta) σ s Q :=
  we_make fun H o R k => h H o R fun vs H1 s1 o1 ⟨a, ps, z, e, ma, q⟩ => k _ _ _ o1 fun x dx hx hdx hne => by
    subst e
    exact c_t_init hT (List.mem_cons_of_mem _ ma) fun a2 h1 => ⟨rfl, q x dx a2 hx h1⟩
abbrev natsV (ps : List Nat) : List V := (inz ps).map V.int
theorem natsV_app (a b : List Nat) : natsV (a ++ b) = natsV a ++ natsV b := by
  unfold natsV inz
  rw [List.map_append, List.map_append]
theorem ln_turns {K : PySem.W.Frag} {C : CA} {vs : List V} {H : Hp} {Q : VK} {E : XK} (h : sp_turns K C vs H Q E) : vs.length = 1 := by
  obtain ⟨r, _, rfl, _⟩ := h
  rfl
theorem pu_turns {K : PySem.W.Frag} {C : CA} {vs : List V} {H : Hp} {Q : VK} {E : XK} (h : sp_turns K C vs H Q E) : rd_turns K C { nx := fun _ H' => Q .non H', rt := Q } (start N_turns vs) H := by
  obtain ⟨r, hX, rfl, hl, k1, k2⟩ := h
  refine body_K (P := fun v s => (r.length % 2 = 1 ∧ ∃ x d, v = .ref x ∧ (x, oIns C d) ∈ s.L) ∨ (r.length % 2 = 0 ∧ ∃ (x d a : Addr) (c : Nat) (ps : List Nat), v = .ref x ∧ Sub ⟨[(a, .lst (natsV ps)), (x, tIns C d a (c : Nat))], []⟩ s ∧ c ≤ r.length ∧ (∀ j, j ≤ r.length → hgt (r.take c) ≤ hgt (r.take j)) ∧ ps.Nodup ∧ (∀ p ∈ ps, p < r.length) ∧ isR (flp (inz ps) r) = true ∧ (ps.length : Int) = tnNum r c)) ?_ ?_
  · unfold rd_turns
    refine ws_seq ?_
    walk_at "bn"
    refine ws_seq ?_
    walk_at "bn"
    refine ⟨fun h => ?_, fun h => ?_⟩
    · have h' : r.length % 2 = 1 := by have := of_decide_eq_true h; omega
      walk_at "bn"
      refine we_mk0 fun x d hx => ?_
      exact .inl ⟨h', x, d, rfl, List.mem_cons_self⟩
    have h' : r.length % 2 = 0 := by have := of_decide_eq_false h; omega
    walk_at "bn"
    refine ws_cut (fun σ s => ∃ f, σ = [some (.str (T r)), some (.ref f), none, none, none, none, none, none, none, none] ∧ s = ⟨[(f, .lst ((dps r).map V.int))], []⟩) ?_ ?_
    · walk_at "bm"
      intro f hf
      exact ⟨_, Sub.refl _, f, rfl, rfl⟩
    rintro σ s ⟨f, rfl, rfl⟩
    refine ws_cut (fun σ s => ∃ c : Nat, σ = [some (.str (T r)), some (.ref f), none, none, none, some (.int (-hgt (r.take c))), some (.int (c : Int)), none, none, none] ∧ s = ⟨[(f, .lst ((dps r).map V.int))], []⟩ ∧ c ≤ r.length ∧ ∀ j, j ≤ r.length → hgt (r.take c) ≤ hgt (r.take j)) ?_ ?_
    · walk_at "bm"
      refine wl_min (by walk_at "isl") (by rw [dps_len]; omega) fun m h1 h2 => ?_
      walk_at "bm"
      refine wl_min (by walk_at "isl") (by rw [dps_len]; omega) fun m2 h3 h4 => ?_
      have em : m2 = m := Int.le_antisymm (h4 _ h1) (h2 _ h3)
      subst em
      obtain ⟨c, hc, hfirst⟩ := first_of h1
      have hcl : c ≤ r.length := by
        have := (List.getElem?_eq_some_iff.mp hc).1
        rw [dps_len] at this
        omega
      have ec : hgt (r.take c) = m2 := by
        rw [dps_get hcl] at hc
        exact Option.some.inj hc
      walk_at "bm"
      refine wm_index (by walk_at "isl") hc hfirst ?_
      walk_at "bm"
      exact ⟨_, Sub.refl _, c, by rw [ec]; rfl, rfl, hcl, fun j hj => by rw [ec]; exact h2 _ (mem_dps.mpr ⟨j, hj, rfl⟩)⟩
    rintro σ s ⟨c, rfl, rfl, hc, hmin⟩
    refine ws_seq ?_
    walk_at "bn"
    refine w2_ixL (by walk_at "isl") (dps_m1 _) ?_
    walk_at "bn"
    refine ws_cut (fun σ s => ∃ a, σ = [some (.str (T r)), some (.ref f), some (.int (hgt r + -hgt (r.take c))), some (.ref a), none, some (.int (-hgt (r.take c))), some (.int (c : Int)), none, none, none] ∧ s = ⟨[(a, .lst (natsV (clos r c))), (f, .lst ((dps r).map V.int))], []⟩) ?_ ?_
    · walk_at "bm"
      refine ⟨by omega, ?_⟩
      refine cp_rng (fun i => natsV (clos r i)) (by omega) rfl (fun i hi => by unfold natsV; rw [List.length_map, List.length_map]; exact clos_len r i) ?_ ?_
      · intro D i hi
        have hi' : i < c := by omega
        obtain ⟨b, hb⟩ := get_some (r := r) (i := i) (by omega)
        rw [show ((0 : Int) + (i : Int)) = (i : Int) by omega]
        walk_at "bm"
        refine ⟨rfl, ?_⟩
        walk_at "bm"
        refine w2_ixT (b := b) (by omega) (atI_of (by omega) (by rw [Int.toNat_natCast]; exact hb)) ?_
        walk_at "bm"
        have hno : isC r i = false → natsV (clos r (i + 1)) = natsV (clos r i) := fun h => by rw [clos_succ, h, if_neg (by decide), List.append_nil]
        have hyes : isC r i = true → natsV (clos r (i + 1)) = natsV (clos r i) ++ [V.int (i : Int)] := fun h => by rw [clos_succ, if_pos h, natsV_app]; rfl
        refine ⟨fun h => ?_, fun h => ?_⟩
        · have hbf : b = false := by simpa using h
          subst hbf
          walk_at "bm"
          refine w2_ixL (by walk_at "isl") (atI_dps (by omega) (by omega)) ?_
          walk_at "bm"
          refine wsl_L (by walk_at "isl") fun p hp => ?_
          rw [cut_hi (by omega), ← List.map_take, show ((i : Int) + 2).toNat = i + 1 + 1 by omega]
          walk_at "bm"
          refine wl_min (by walk_at "isl") (by rw [List.length_take, dps_len]; omega) fun m h1 h2 => ?_
          have em := rm_min (show i + 1 ≤ r.length by omega) h1 h2
          subst em
          rw [show ((i : Int) + 1).toNat = i + 1 by omega]
          walk_at "bm"
          have hC : isC r i = decide (hgt (r.take (i + 1)) = rm r (i + 1)) := by
            unfold isC
            rw [hb]
            rfl
          refine ⟨fun h3 => ?_, fun h3 => ?_⟩
          · walk_at "bm"
            exact ⟨by walk_at "sub", hyes (by rw [hC, h3])⟩
          · exact ⟨by walk_at "sub", hno (by rw [hC, h3])⟩
        · have hbf : b = true := by
            cases b
            · simp at h
            · rfl
          subst hbf
          walk_at "bm"
          exact ⟨Sub.refl _, hno (by unfold isC; rw [hb]; rfl)⟩
      · intro D hD
        rw [Int.toNat_natCast]
        exact ⟨_, Sub.refl _, D, rfl, rfl⟩
    rintro σ s ⟨a, rfl, rfl⟩
    refine ws_cut (fun σ s => ∃ b, σ = [some (.str (T r)), some (.ref f), some (.int (hgt r + -hgt (r.take c))), some (.ref a), some (.ref b), some (.int (-hgt (r.take c))), some (.int (c : Int)), none, none, none] ∧ s = ⟨[(b, .lst (natsV (opd r (r.length - c)))), (a, .lst (natsV (clos r c)))], []⟩) ?_ ?_
    · walk_at "bm"
      refine ⟨by omega, ?_⟩
      refine cp_rng (fun i => natsV (segO r c i)) (by omega) rfl (fun i hi => by unfold natsV; rw [List.length_map, List.length_map]; exact segO_len r c i) ?_ ?_
      · intro D i hi
        have hi' : c + i < r.length := by omega
        obtain ⟨b, hb⟩ := get_some (r := r) (i := c + i) hi'
        rw [show ((c : Int) + (i : Int)) = ((c + i : Nat) : Int) by omega]
        walk_at "bm"
        refine ⟨rfl, ?_⟩
        walk_at "bm"
        refine w2_ixT (b := b) (by omega) (atI_of (by omega) (by rw [Int.toNat_natCast]; exact hb)) ?_
        walk_at "bm"
        have hno : isO r (c + i) = false → natsV (segO r c (i + 1)) = natsV (segO r c i) := fun h => by rw [segO_succ, h, if_neg (by decide), List.append_nil]
        have hyes : isO r (c + i) = true → natsV (segO r c (i + 1)) = natsV (segO r c i) ++ [V.int ((c + i : Nat) : Int)] := fun h => by rw [segO_succ, if_pos h, natsV_app]; rfl
        refine ⟨fun h => ?_, fun h => ?_⟩
        · have hbf : b = true := by simpa using h
          subst hbf
          walk_at "bm"
          refine w2_ixL (by walk_at "isl") (atI_dps (by omega) (by omega)) ?_
          walk_at "bm"
          refine wsl_L (by walk_at "isl") fun p hp => ?_
          rw [cut_lo (by omega), ← List.map_drop, Int.toNat_natCast]
          walk_at "bm"
          refine wl_min (by walk_at "isl") (by rw [List.length_drop, dps_len]; omega) fun m h1 h2 => ?_
          have em := smd_min (show c + i ≤ r.length by omega) h1 h2
          subst em
          walk_at "bm"
          have hC : isO r (c + i) = decide (hgt (r.take (c + i)) = smd r (r.length - (c + i))) := by
            unfold isO
            rw [hb]
            rfl
          refine ⟨fun h3 => ?_, fun h3 => ?_⟩
          · walk_at "bm"
            exact ⟨by walk_at "sub", hyes (by rw [hC, h3])⟩
          · exact ⟨by walk_at "sub", hno (by rw [hC, h3])⟩
        · have hbf : b = false := by
            cases b
            · rfl
            · simp at h
          subst hbf
          walk_at "bm"
          exact ⟨Sub.refl _, hno (by unfold isO; rw [hb]; rfl)⟩
      · intro D hD
        rw [show ((r.length : Int) - (c : Int)).toNat = r.length - c by omega, segO_all r hc]
        exact ⟨_, by walk_at "sub", D, rfl, rfl⟩
    rintro σ s ⟨b, rfl, rfl⟩
    have hn0 := hmin 0 (Nat.zero_le _)
    have e00 : hgt (r.take 0) = 0 := rfl
    have hnn := hmin r.length (Nat.le_refl _)
    rw [List.take_length] at hnn
    obtain ⟨many, hmany⟩ : ∃ many : Nat, (many : Int) = (-hgt (r.take c) + 1) / 2 := ⟨((-hgt (r.take c) + 1) / 2).toNat, by omega⟩
    obtain ⟨more, hmore⟩ : ∃ more : Nat, (more : Int) = (hgt r - hgt (r.take c) + 1) / 2 := ⟨((hgt r - hgt (r.take c) + 1) / 2).toNat, by omega⟩
    obtain ⟨g1, g2, g3⟩ := turn_mend hc h' hmin hmany hmore
    have lc := clos_len r c
    have lo : (opd r (r.length - c)).length ≤ r.length := by rw [← segO_all r hc]; exact Nat.le_trans (segO_len r c _) (by omega)
    refine ws_seq ?_
    walk_at "bn"
    rw [← hmany, show (hgt r + -hgt (r.take c) + 1) / 2 = (more : Int) by rw [hmore]; congr 1]
    walk_at "bn"
    refine we_turned hX.t ?_
    walk_at "bm"
    refine wsl_L (by walk_at "isl") fun q1 hq1 => ?_
    rw [cut_hi (by omega), Int.toNat_natCast]
    walk_at "bm"
    refine wsl_L (by walk_at "isl") fun q2 hq2 => ?_
    rw [cut_lo (by simp; omega)]
    have eL : List.take many (natsV (clos r c)) ++ List.drop (((natsV (opd r (r.length - c))).length : Int) - (more : Int)).toNat (natsV (opd r (r.length - c))) = natsV ((clos r c).take many ++ (opd r (r.length - c)).drop ((opd r (r.length - c)).length - more)) := by
      rw [natsV_app]
      have el : (natsV (opd r (r.length - c))).length = (opd r (r.length - c)).length := by unfold natsV; rw [List.length_map, List.length_map]
      rw [el, show (((opd r (r.length - c)).length : Int) - (more : Int)).toNat = (opd r (r.length - c)).length - more by omega]
      unfold natsV inz
      rw [List.map_take, List.map_take, List.map_drop, List.map_drop]
    have eN : (natsV ((clos r c).take many ++ (opd r (r.length - c)).drop ((opd r (r.length - c)).length - more))).length ≤ 100000 := by
      unfold natsV
      rw [List.length_map, List.length_map, List.length_append, List.length_take, List.length_drop]
      omega
    walk_at "bm"
    refine w2_cat (by walk_at "mem") (by walk_at "mem") (by rw [← List.length_append, eL]; exact eN) fun q3 hq3 => ?_
    rw [eL]
    walk_at "bm"
    refine ⟨q3, inz ((clos r c).take many ++ (opd r (r.length - c)).drop ((opd r (r.length - c)).length - more)), (c : Int), rfl, List.mem_cons_self, fun x dx a2 hx ha2 => .inr ⟨h', x, dx, a2, c, _, rfl, by walk_at "sub", hc, hmin, ?_, ?_, g3, ?_⟩⟩
    · refine List.nodup_append.mpr ⟨List.Nodup.sublist (List.take_sublist _ _) (clos_nodup r c), List.Nodup.sublist (List.drop_sublist _ _) (opd_nodup r (by omega)), fun x hx y hy => ?_⟩
      have h1 := (clos_mem (List.take_subset _ _ hx)).1
      have h2 := (opd_ge r (List.drop_subset _ _ hy)).1
      omega
    · intro p hp
      rcases List.mem_append.mp hp with hp | hp
      · have := (clos_mem (List.take_subset _ _ hp)).1
        omega
      · exact (opd_ge r (List.drop_subset _ _ hp)).2.1
    · rw [List.length_append, List.length_take, List.length_drop]
      unfold tnNum pos
      rw [Int.toNat_natCast]
      omega
  · rintro v H' s w (⟨h0, x, d, rfl, m⟩ | ⟨h0, x, d, a, c, ps, rfl, hs, h1, h2, h3, h4, h5, h6⟩)
    · exact k1 h0 H' x d w.ex (w.own _ m).1 (w.own _ m).2
    · have w2 := w.sub hs
      have nd : [a, x].Nodup := w2.nd
      have ma := w2.own (a, .lst (natsV ps)) List.mem_cons_self
      have mx := w2.own (x, tIns C d a (c : Nat)) (List.mem_cons_of_mem _ List.mem_cons_self)
      exact k2 h0 H' x d a c ps w.ex mx.1 ma.1 nd mx.2 ma.2 h1 h2 h3 h4 h5 h6
end BM
namespace BM
open PySem L2 Evl
local macro_rules | `(tactic| walk_at "mem") => `(tactic| first | exact List.mem_cons_self | (refine List.mem_cons_of_mem _ ?_; walk_at "mem"))
local macro_rules | `(tactic| walk_at "swap") => `(tactic| first | exact Swap.here | (apply Swap.there; walk_at "swap"))
local macro_rules | `(tactic| walk_at "subl") => `(tactic| first | exact List.Sublist.refl _ | exact List.nil_sublist _ | (refine List.Sublist.cons_cons _ ?_; walk_at "subl") | (refine List.Sublist.cons _ ?_; walk_at "subl"))
local macro_rules | `(tactic| walk_at "sub") => `(tactic| first | exact Sub.refl _ | (refine ⟨?_, ?_⟩ <;> walk_at "subl"))
local macro_rules | `(tactic| walk_at "isl") => `(tactic| first | exact isL_own (by walk_at "mem") | exact isL_old (by assumption) | assumption)
local macro_rules | `(tactic| walk_at "ist") => `(tactic| first | exact isT_own (by walk_at "mem") | exact isT_old (by assumption) | assumption)
local macro_rules | `(tactic| walk_at "len") => `(tactic| first | omega | decide | (simp only [List.length_map, List.length_take, List.length_drop, List.length_append, List.length_cons, List.length_nil, List.length_reverse, dps_len, flp_len]; omega) | (simp [dps_len, flp_len]; omega) | simp)
local macro_rules | `(tactic| walk_at "b0") => `(tactic| first
  | with_reducible refine' ws_set ?_
  | with_reducible refine' ws_par ?_
  | with_reducible refine' ws_asg ?_
  | with_reducible refine' ws_drop ?_
  | with_reducible refine' ws_ret ?_
  | with_reducible refine' ws_if ?_
  | with_reducible refine' ws_next ?_
  | with_reducible refine' ws_brk ?_
  | with_reducible refine' ws_cont ?_
  | ((with_reducible refine' we_var ?hv ?_); case hv => rfl)
  | with_reducible refine' we_c ?_
  | with_reducible refine' we_op ?_
  | with_reducible refine' we_un ?_
  | with_reducible refine' we_if ?_
  | with_reducible refine' we_and ?_
  | with_reducible refine' we_or ?_
  | with_reducible refine' we_not ?_
  | with_reducible refine' wa_nil ?_
  | with_reducible refine' wa_cons ?_
  | (with_reducible refine' we_lst ?_)
  | (with_reducible refine' we_tup ?_)
  | with_reducible refine' we_cb ?_
  | with_reducible refine' we_call0 ?_
  | with_reducible refine' we_sl ?_
  | with_reducible refine' wo_none ?_
  | (with_reducible refine' wo_some ?_)
  | with_reducible refine' wt_test ?_
  | with_reducible refine' wt_B ?_
  | with_reducible refine' wt_and ?_
  | with_reducible refine' wt_or ?_
  | with_reducible refine' wt_not ?_
  | with_reducible refine' wt_yes ?_
  | with_reducible refine' we_chain ?_
  | with_reducible refine' we_chain3 ?_
  | with_reducible refine' we_revT ?_
  | with_reducible refine' we_revL ?_
  | with_reducible refine' we_bm ?_
  | with_reducible refine' we_bm0 ?_
  | with_reducible refine' ws_for ?_
  | with_reducible refine' we_lc ?_
  | with_reducible refine' wi_list ?_
  | with_reducible refine' wi_tup ?_
  | with_reducible refine' wi_T ?_
  | with_reducible refine' wi_rng1 ?_
  | with_reducible refine' wi_rng2 ?_
  | with_reducible refine' wi_rng3 ?_
  | with_reducible refine' wi_enum ?_
  | with_reducible refine' wi_enumT ?_
  | with_reducible refine' wi_zip ?_
  | with_reducible refine' wg_name ?_
  | with_reducible refine' wg_sub ?_
  | with_reducible refine' wgs_nil ?_
  | with_reducible refine' wgs_cons ?_
  | ((with_reducible refine' wg_tup ?ht ?hn ?_); (case ht => walk_at "ist"); (case hn => rfl))
  | with_reducible refine' w2_add ?_
  | with_reducible refine' w2_sub ?_
  | with_reducible refine' w2_lt ?_
  | with_reducible refine' w2_le ?_
  | with_reducible refine' w2_gt ?_
  | with_reducible refine' w2_ge ?_
  | with_reducible refine' w2_eqI ?_
  | with_reducible refine' w2_neI ?_
  | with_reducible refine' w2_eqT ?_
  | with_reducible refine' w2_neT ?_
  | with_reducible refine' w2_eqB ?_
  | with_reducible refine' w2_neB ?_
  | with_reducible refine' w2_isN ?_
  | with_reducible refine' w2_notN ?_
  | with_reducible refine' w2_isB ?_
  | with_reducible refine' w2_inT ?_
  | with_reducible refine' w1_neg ?_
  | with_reducible refine' wl_abs ?_
  | with_reducible refine' wl_max2 ?_
  | with_reducible refine' wl_min2 ?_
  | with_reducible refine' wl_intB ?_
  | ((with_reducible refine' w2_div ?h ?_); case h => first | omega | (constructor <;> omega))
  | ((with_reducible refine' w2_mod ?h ?_); case h => omega)
  | ((with_reducible refine' w2_catT ?h ?_); case h => walk_at "len")
  | ((with_reducible refine' wsl_T ?h ?_); case h => walk_at "len")
  | ((with_reducible refine' wl_lenT ?h ?_); case h => walk_at "len")
  | ((with_reducible refine' wl_len ?h ?_); case h => walk_at "isl")
  | ((with_reducible refine' wl_len ?h ?_); case h => walk_at "isl")
  | ((with_reducible refine' wm_append ?sw ?hl ?_); (case sw => walk_at "swap"); (case hl => walk_at "len")))
local macro_rules | `(tactic| walk_at "b1") => `(tactic| first | with_reducible refine' ws_seq ?_ | walk_at "b0")
local macro_rules | `(tactic| walk_at "bx") => `(tactic| first
  | refine ⟨_, rfl, ?_⟩
  | refine ⟨_, _, rfl, ?_⟩
  | refine ⟨ty_L (by walk_at "isl"), ?_⟩
  | refine ⟨ty_S, ?_⟩
  | refine spl_t (by rfl) ?_
  | refine spl_f (by rfl) ?_
  | exact rfl)
local macro_rules | `(tactic| walk_at "bm") => `(tactic| repeat (first | walk_at "b1" | walk_at "bx"))
local macro_rules | `(tactic| walk_at "bn") => `(tactic| repeat (first | walk_at "b0" | walk_at "bx"))
local macro_rules | `(tactic| walk_at "b0") => `(tactic| with_reducible refine' c_deepens ?_)
local macro_rules | `(tactic| walk_at "b0") => `(tactic| ((with_reducible refine' c_depths_of ?hl ?_); (case hl => walk_at "len")))
local macro_rules | `(tactic| walk_at "b0") => `(tactic| with_reducible refine' c_is_wholeI ?_)
local macro_rules | `(tactic| walk_at "b0") => `(tactic| with_reducible refine' c_flipped ?_)
local macro_rules | `(tactic| walk_at "b0") => `(tactic| ((with_reducible refine' c_is_right_row ?hl ?_); (case hl => walk_at "len")))
local macro_rules | `(tactic| walk_at "b0") => `(tactic| ((with_reducible refine' c_asked_row ?hl ?_); (case hl => walk_at "len")))
local macro_rules | `(tactic| walk_at "b0") => `(tactic| ((with_reducible refine' c_depths ?hl ?_); (case hl => walk_at "len")))
local macro_rules | `(tactic| walk_at "b0") => `(tactic| ((with_reducible refine' c_is_right ?hl ?_); (case hl => walk_at "len")))
local macro_rules | `(tactic| walk_at "b0") => `(tactic| ((with_reducible refine' c__law_depths ?hl ?_); (case hl => walk_at "len")))
local macro_rules | `(tactic| walk_at "b0") => `(tactic| ((with_reducible refine' c__law_good ?hl ?_); (case hl => walk_at "len")))
local macro_rules | `(tactic| walk_at "b0") => `(tactic| ((with_reducible refine' wl_listOf ?hx ?_); (case hx => walk_at "isl")))
local macro_rules | `(tactic| walk_at "b0") => `(tactic| with_reducible refine' w2_notB ?_)
local macro_rules | `(tactic| walk_at "own") => `(tactic| exact own_l (by walk_at "mem"))
local macro_rules | `(tactic| walk_at "b0") => `(tactic| with_reducible refine' we_fld ?_)
local macro_rules | `(tactic| walk_at "b0") => `(tactic| refine ⟨_, _, _, _, _, rfl, own_l (by walk_at "mem"), Grw.cl (by assumption), Grw.nr (by assumption), by rfl, ?_⟩)
local macro_rules | `(tactic| walk_at "b0") => `(tactic| refine ⟨_, _, _, _, _, rfl, fun H' o => o.ex _ _ (by assumption), Grw.cl (by assumption), Grw.nr (by assumption), by rfl, ?_⟩)
local macro_rules | `(tactic| walk_at "b0") => `(tactic| with_reducible refine' we_meth ?_)
local macro_rules | `(tactic| walk_at "b0") => `(tactic| refine ⟨_, _, _, rfl, own_l (by walk_at "mem"), by rfl, ?_⟩)
local macro_rules | `(tactic| walk_at "b0") => `(tactic| refine ⟨_, _, _, rfl, fun H' o => o.ex _ _ (by assumption), by rfl, ?_⟩)
local macro_rules | `(tactic| walk_at "gown") => `(tactic| first | exact own_l (by walk_at "mem") | exact fun H' o => o.ex _ _ (by assumption))
local macro_rules | `(tactic| walk_at "b0") => `(tactic| with_reducible refine' wm_countT ?_)
local macro_rules | `(tactic| walk_at "b0") => `(tactic| with_reducible refine' we_methU ?_)
theorem c_turns_ev {K : PySem.W.Frag} {C : CA} {H0 : Hp} {s : Ld} {Q : V → Ld → Prop} {E : XK} {r : List Bool} (hX : Ex03 K C) (hl : r.length ≤ 40) (h0 : r.length % 2 = 0) (q : ∀ x d a (c : Nat) (ps : List Nat), c ≤ r.length → (∀ j, j ≤ r.length → hgt (r.take c) ≤ hgt (r.take j)) → ps.Nodup → (∀ p ∈ ps, p < r.length) → isR (flp (inz ps) r) = true → (ps.length : Int) = tnNum r c → Q (.ref x) ⟨(a, .lst (natsV ps)) :: (x, tIns C d a (c : Nat)) :: s.L, s.T⟩) : WC H0 (sp_turns K C) E [.str (T r)] s Q := fun H o R k =>
  ⟨r, hX, rfl, hl, fun h => absurd h (by omega), fun _ H' x d a c ps e hx ha nd h1 h2 g1 g2 g3 g4 g5 g6 => by
    have na : a ∉ [x] := (List.nodup_cons.mp nd).1
    have w1 := own_add (o.ext e) (fresh_back o.ex hx) (own_key o hx) h1
    have w2 := own_add w1 (fresh_back o.ex ha) (fun hm => by
      rcases List.mem_cons.mp hm with z | hm
      · exact na (by rw [z]; exact List.mem_cons_self)
      · exact own_key o ha hm) h2
    exact k _ _ _ w2 (q x d a c ps g1 g2 g3 g4 g5 g6)⟩
end BM
namespace BM
open PySem L2 Evl
local macro_rules | `(tactic| walk_at "mem") => `(tactic| first | exact List.mem_cons_self | (refine List.mem_cons_of_mem _ ?_; walk_at "mem"))
local macro_rules | `(tactic| walk_at "swap") => `(tactic| first | exact Swap.here | (apply Swap.there; walk_at "swap"))
local macro_rules | `(tactic| walk_at "subl") => `(tactic| first | exact List.Sublist.refl _ | exact List.nil_sublist _ | (refine List.Sublist.cons_cons _ ?_; walk_at "subl") | (refine List.Sublist.cons _ ?_; walk_at "subl"))
local macro_rules | `(tactic| walk_at "sub") => `(tactic| first | exact Sub.refl _ | (refine ⟨?_, ?_⟩ <;> walk_at "subl"))
local macro_rules | `(tactic| walk_at "isl") => `(tactic| first | exact isL_own (by walk_at "mem") | exact isL_old (by assumption) | assumption)
local macro_rules | `(tactic| walk_at "ist") => `(tactic| first | exact isT_own (by walk_at "mem") | exact isT_old (by assumption) | assumption)
local macro_rules | `(tactic| walk_at "len") => `(tactic| first | omega | decide | (simp only [List.length_map, List.length_take, List.length_drop, List.length_append, List.length_cons, List.length_nil, List.length_reverse, dps_len, flp_len]; omega) | (simp [dps_len, flp_len]; omega) | simp)
local macro_rules | `(tactic| walk_at "b0") => `(tactic| first
  | with_reducible refine' ws_set ?_
  | with_reducible refine' ws_par ?_
  | with_reducible refine' ws_asg ?_
  | with_reducible refine' ws_drop ?_
  | with_reducible refine' ws_ret ?_
  | with_reducible refine' ws_if ?_
  | with_reducible refine' ws_next ?_
  | with_reducible refine' ws_brk ?_
  | with_reducible refine' ws_cont ?_
  | ((with_reducible refine' we_var ?hv ?_); case hv => rfl)
  | with_reducible refine' we_c ?_
  | with_reducible refine' we_op ?_
  | with_reducible refine' we_un ?_
  | with_reducible refine' we_if ?_
  | with_reducible refine' we_and ?_
  | with_reducible refine' we_or ?_
  | with_reducible refine' we_not ?_
  | with_reducible refine' wa_nil ?_
  | with_reducible refine' wa_cons ?_
  | (with_reducible refine' we_lst ?_)
  | (with_reducible refine' we_tup ?_)
  | with_reducible refine' we_cb ?_
  | with_reducible refine' we_call0 ?_
  | with_reducible refine' we_sl ?_
  | with_reducible refine' wo_none ?_
  | (with_reducible refine' wo_some ?_)
  | with_reducible refine' wt_test ?_
  | with_reducible refine' wt_B ?_
  | with_reducible refine' wt_and ?_
  | with_reducible refine' wt_or ?_
  | with_reducible refine' wt_not ?_
  | with_reducible refine' wt_yes ?_
  | with_reducible refine' we_chain ?_
  | with_reducible refine' we_chain3 ?_
  | with_reducible refine' we_revT ?_
  | with_reducible refine' we_revL ?_
  | with_reducible refine' we_bm ?_
  | with_reducible refine' we_bm0 ?_
  | with_reducible refine' ws_for ?_
  | with_reducible refine' we_lc ?_
  | with_reducible refine' wi_list ?_
  | with_reducible refine' wi_tup ?_
  | with_reducible refine' wi_T ?_
  | with_reducible refine' wi_rng1 ?_
  | with_reducible refine' wi_rng2 ?_
  | with_reducible refine' wi_rng3 ?_
  | with_reducible refine' wi_enum ?_
  | with_reducible refine' wi_enumT ?_
  | with_reducible refine' wi_zip ?_
  | with_reducible refine' wg_name ?_
  | with_reducible refine' wg_sub ?_
  | with_reducible refine' wgs_nil ?_
  | with_reducible refine' wgs_cons ?_
  | ((with_reducible refine' wg_tup ?ht ?hn ?_); (case ht => walk_at "ist"); (case hn => rfl))
  | with_reducible refine' w2_add ?_
  | with_reducible refine' w2_sub ?_
  | with_reducible refine' w2_lt ?_
  | with_reducible refine' w2_le ?_
  | with_reducible refine' w2_gt ?_
  | with_reducible refine' w2_ge ?_
  | with_reducible refine' w2_eqI ?_
  | with_reducible refine' w2_neI ?_
  | with_reducible refine' w2_eqT ?_
  | with_reducible refine' w2_neT ?_
  | with_reducible refine' w2_eqB ?_
  | with_reducible refine' w2_neB ?_
  | with_reducible refine' w2_isN ?_
  | with_reducible refine' w2_notN ?_
  | with_reducible refine' w2_isB ?_
  | with_reducible refine' w2_inT ?_
  | with_reducible refine' w1_neg ?_
  | with_reducible refine' wl_abs ?_
  | with_reducible refine' wl_max2 ?_
  | with_reducible refine' wl_min2 ?_
  | with_reducible refine' wl_intB ?_
  | ((with_reducible refine' w2_div ?h ?_); case h => first | omega | (constructor <;> omega))
  | ((with_reducible refine' w2_mod ?h ?_); case h => omega)
  | ((with_reducible refine' w2_catT ?h ?_); case h => walk_at "len")
  | ((with_reducible refine' wsl_T ?h ?_); case h => walk_at "len")
  | ((with_reducible refine' wl_lenT ?h ?_); case h => walk_at "len")
  | ((with_reducible refine' wl_len ?h ?_); case h => walk_at "isl")
  | ((with_reducible refine' wl_len ?h ?_); case h => walk_at "isl")
  | ((with_reducible refine' wm_append ?sw ?hl ?_); (case sw => walk_at "swap"); (case hl => walk_at "len")))
local macro_rules | `(tactic| walk_at "b1") => `(tactic| first | with_reducible refine' ws_seq ?_ | walk_at "b0")
local macro_rules | `(tactic| walk_at "bx") => `(tactic| first
  | refine ⟨_, rfl, ?_⟩
  | refine ⟨_, _, rfl, ?_⟩
  | refine ⟨ty_L (by walk_at "isl"), ?_⟩
  | refine ⟨ty_S, ?_⟩
  | refine spl_t (by rfl) ?_
  | refine spl_f (by rfl) ?_
  | exact rfl)
local macro_rules | `(tactic| walk_at "bm") => `(tactic| repeat (first | walk_at "b1" | walk_at "bx"))
local macro_rules | `(tactic| walk_at "bn") => `(tactic| repeat (first | walk_at "b0" | walk_at "bx"))
local macro_rules | `(tactic| walk_at "b0") => `(tactic| with_reducible refine' c_deepens ?_)
local macro_rules | `(tactic| walk_at "b0") => `(tactic| ((with_reducible refine' c_depths_of ?hl ?_); (case hl => walk_at "len")))
local macro_rules | `(tactic| walk_at "b0") => `(tactic| with_reducible refine' c_is_wholeI ?_)
local macro_rules | `(tactic| walk_at "b0") => `(tactic| with_reducible refine' c_flipped ?_)
local macro_rules | `(tactic| walk_at "b0") => `(tactic| ((with_reducible refine' c_is_right_row ?hl ?_); (case hl => walk_at "len")))
local macro_rules | `(tactic| walk_at "b0") => `(tactic| ((with_reducible refine' c_asked_row ?hl ?_); (case hl => walk_at "len")))
local macro_rules | `(tactic| walk_at "b0") => `(tactic| ((with_reducible refine' c_depths ?hl ?_); (case hl => walk_at "len")))
local macro_rules | `(tactic| walk_at "b0") => `(tactic| ((with_reducible refine' c_is_right ?hl ?_); (case hl => walk_at "len")))
local macro_rules | `(tactic| walk_at "b0") => `(tactic| ((with_reducible refine' c__law_depths ?hl ?_); (case hl => walk_at "len")))
local macro_rules | `(tactic| walk_at "b0") => `(tactic| ((with_reducible refine' c__law_good ?hl ?_); (case hl => walk_at "len")))
local macro_rules | `(tactic| walk_at "b0") => `(tactic| ((with_reducible refine' wl_listOf ?hx ?_); (case hx => walk_at "isl")))
local macro_rules | `(tactic| walk_at "b0") => `(tactic| with_reducible refine' w2_notB ?_)
local macro_rules | `(tactic| walk_at "own") => `(tactic| exact own_l (by walk_at "mem"))
local macro_rules | `(tactic| walk_at "b0") => `(tactic| with_reducible refine' we_fld ?_)
local macro_rules | `(tactic| walk_at "b0") => `(tactic| refine ⟨_, _, _, _, _, rfl, own_l (by walk_at "mem"), Grw.cl (by assumption), Grw.nr (by assumption), by rfl, ?_⟩)
local macro_rules | `(tactic| walk_at "b0") => `(tactic| refine ⟨_, _, _, _, _, rfl, fun H' o => o.ex _ _ (by assumption), Grw.cl (by assumption), Grw.nr (by assumption), by rfl, ?_⟩)
local macro_rules | `(tactic| walk_at "b0") => `(tactic| with_reducible refine' we_meth ?_)
local macro_rules | `(tactic| walk_at "b0") => `(tactic| refine ⟨_, _, _, rfl, own_l (by walk_at "mem"), by rfl, ?_⟩)
local macro_rules | `(tactic| walk_at "b0") => `(tactic| refine ⟨_, _, _, rfl, fun H' o => o.ex _ _ (by assumption), by rfl, ?_⟩)
local macro_rules | `(tactic| walk_at "gown") => `(tactic| first | exact own_l (by walk_at "mem") | exact fun H' o => o.ex _ _ (by assumption))
local macro_rules | `(tactic| walk_at "b0") => `(tactic| with_reducible refine' wm_countT ?_)
local macro_rules | `(tactic| walk_at "b0") => `(tactic| with_reducible refine' we_methU ?_)
end BM
namespace BM
/-! ### stretches turned round: depths -/
/-- the places with a depth below nothing -/
def blw (r : List Bool) : List Nat := (List.range (r.length + 1)).filter fun j => decide (hgt (r.take j) < 0)
def bl (r : List Bool) : Nat := (blw r).getLastD 0
end BM
namespace BM
open PySem L2 Evl
/-- pairs, each a tuple that is tracked -/
def PrT (H : Hp) (xs : List V) (ps : List (Int × Int)) : Prop := Paired (fun x (p : Int × Int) => ∃ t, x = V.ref t ∧ H t = some (.tup [.int p.1, .int p.2])) xs ps
theorem PrT.ex {H H' : Hp} (e : Ex H H') {xs : List V} {ps : List (Int × Int)} (h : PrT H xs ps) : PrT H' xs ps := Paired.mapP h fun a b ⟨t, h1, h2⟩ => ⟨t, h1, e _ _ h2⟩
end BM
namespace BM
open PySem L2 Evl
local macro_rules | `(tactic| walk_at "mem") => `(tactic| first | exact List.mem_cons_self | (refine List.mem_cons_of_mem _ ?_; walk_at "mem"))
local macro_rules | `(tactic| walk_at "swap") => `(tactic| first | exact Swap.here | (apply Swap.there; walk_at "swap"))
local macro_rules | `(tactic| walk_at "subl") => `(tactic| first | exact List.Sublist.refl _ | exact List.nil_sublist _ | (refine List.Sublist.cons_cons _ ?_; walk_at "subl") | (refine List.Sublist.cons _ ?_; walk_at "subl"))
local macro_rules | `(tactic| walk_at "sub") => `(tactic| first | exact Sub.refl _ | (refine ⟨?_, ?_⟩ <;> walk_at "subl"))
local macro_rules | `(tactic| walk_at "isl") => `(tactic| first | exact isL_own (by walk_at "mem") | exact isL_old (by assumption) | assumption)
local macro_rules | `(tactic| walk_at "ist") => `(tactic| first | exact isT_own (by walk_at "mem") | exact isT_old (by assumption) | assumption)
local macro_rules | `(tactic| walk_at "len") => `(tactic| first | omega | decide | (simp only [List.length_map, List.length_take, List.length_drop, List.length_append, List.length_cons, List.length_nil, List.length_reverse, dps_len, flp_len]; omega) | (simp [dps_len, flp_len]; omega) | simp)
local macro_rules | `(tactic| walk_at "b0") => `(tactic| first
  | with_reducible refine' ws_set ?_
  | with_reducible refine' ws_par ?_
  | with_reducible refine' ws_asg ?_
  | with_reducible refine' ws_drop ?_
  | with_reducible refine' ws_ret ?_
  | with_reducible refine' ws_if ?_
  | with_reducible refine' ws_next ?_
  | with_reducible refine' ws_brk ?_
  | with_reducible refine' ws_cont ?_
  | ((with_reducible refine' we_var ?hv ?_); case hv => rfl)
  | with_reducible refine' we_c ?_
  | with_reducible refine' we_op ?_
  | with_reducible refine' we_un ?_
  | with_reducible refine' we_if ?_
  | with_reducible refine' we_and ?_
  | with_reducible refine' we_or ?_
  | with_reducible refine' we_not ?_
  | with_reducible refine' wa_nil ?_
  | with_reducible refine' wa_cons ?_
  | (with_reducible refine' we_lst ?_)
  | (with_reducible refine' we_tup ?_)
  | with_reducible refine' we_cb ?_
  | with_reducible refine' we_call0 ?_
  | with_reducible refine' we_sl ?_
  | with_reducible refine' wo_none ?_
  | (with_reducible refine' wo_some ?_)
  | with_reducible refine' wt_test ?_
  | with_reducible refine' wt_B ?_
  | with_reducible refine' wt_and ?_
  | with_reducible refine' wt_or ?_
  | with_reducible refine' wt_not ?_
  | with_reducible refine' wt_yes ?_
  | with_reducible refine' we_chain ?_
  | with_reducible refine' we_chain3 ?_
  | with_reducible refine' we_revT ?_
  | with_reducible refine' we_revL ?_
  | with_reducible refine' we_bm ?_
  | with_reducible refine' we_bm0 ?_
  | with_reducible refine' ws_for ?_
  | with_reducible refine' we_lc ?_
  | with_reducible refine' wi_list ?_
  | with_reducible refine' wi_tup ?_
  | with_reducible refine' wi_T ?_
  | with_reducible refine' wi_rng1 ?_
  | with_reducible refine' wi_rng2 ?_
  | with_reducible refine' wi_rng3 ?_
  | with_reducible refine' wi_enum ?_
  | with_reducible refine' wi_enumT ?_
  | with_reducible refine' wi_zip ?_
  | with_reducible refine' wg_name ?_
  | with_reducible refine' wg_sub ?_
  | with_reducible refine' wgs_nil ?_
  | with_reducible refine' wgs_cons ?_
  | ((with_reducible refine' wg_tup ?ht ?hn ?_); (case ht => walk_at "ist"); (case hn => rfl))
  | with_reducible refine' w2_add ?_
  | with_reducible refine' w2_sub ?_
  | with_reducible refine' w2_lt ?_
  | with_reducible refine' w2_le ?_
  | with_reducible refine' w2_gt ?_
  | with_reducible refine' w2_ge ?_
  | with_reducible refine' w2_eqI ?_
  | with_reducible refine' w2_neI ?_
  | with_reducible refine' w2_eqT ?_
  | with_reducible refine' w2_neT ?_
  | with_reducible refine' w2_eqB ?_
  | with_reducible refine' w2_neB ?_
  | with_reducible refine' w2_isN ?_
  | with_reducible refine' w2_notN ?_
  | with_reducible refine' w2_isB ?_
  | with_reducible refine' w2_inT ?_
  | with_reducible refine' w1_neg ?_
  | with_reducible refine' wl_abs ?_
  | with_reducible refine' wl_max2 ?_
  | with_reducible refine' wl_min2 ?_
  | with_reducible refine' wl_intB ?_
  | ((with_reducible refine' w2_div ?h ?_); case h => first | omega | (constructor <;> omega))
  | ((with_reducible refine' w2_mod ?h ?_); case h => omega)
  | ((with_reducible refine' w2_catT ?h ?_); case h => walk_at "len")
  | ((with_reducible refine' wsl_T ?h ?_); case h => walk_at "len")
  | ((with_reducible refine' wl_lenT ?h ?_); case h => walk_at "len")
  | ((with_reducible refine' wl_len ?h ?_); case h => walk_at "isl")
  | ((with_reducible refine' wl_len ?h ?_); case h => walk_at "isl")
  | ((with_reducible refine' wm_append ?sw ?hl ?_); (case sw => walk_at "swap"); (case hl => walk_at "len")))
local macro_rules | `(tactic| walk_at "b1") => `(tactic| first | with_reducible refine' ws_seq ?_ | walk_at "b0")
local macro_rules | `(tactic| walk_at "bx") => `(tactic| first
  | refine ⟨_, rfl, ?_⟩
  | refine ⟨_, _, rfl, ?_⟩
  | refine ⟨ty_L (by walk_at "isl"), ?_⟩
  | refine ⟨ty_S, ?_⟩
  | refine spl_t (by rfl) ?_
  | refine spl_f (by rfl) ?_
  | exact rfl)
local macro_rules | `(tactic| walk_at "bm") => `(tactic| repeat (first | walk_at "b1" | walk_at "bx"))
local macro_rules | `(tactic| walk_at "bn") => `(tactic| repeat (first | walk_at "b0" | walk_at "bx"))
local macro_rules | `(tactic| walk_at "b0") => `(tactic| with_reducible refine' c_deepens ?_)
local macro_rules | `(tactic| walk_at "b0") => `(tactic| ((with_reducible refine' c_depths_of ?hl ?_); (case hl => walk_at "len")))
local macro_rules | `(tactic| walk_at "b0") => `(tactic| with_reducible refine' c_is_wholeI ?_)
local macro_rules | `(tactic| walk_at "b0") => `(tactic| with_reducible refine' c_flipped ?_)
local macro_rules | `(tactic| walk_at "b0") => `(tactic| ((with_reducible refine' c_is_right_row ?hl ?_); (case hl => walk_at "len")))
local macro_rules | `(tactic| walk_at "b0") => `(tactic| ((with_reducible refine' c_asked_row ?hl ?_); (case hl => walk_at "len")))
local macro_rules | `(tactic| walk_at "b0") => `(tactic| ((with_reducible refine' c_depths ?hl ?_); (case hl => walk_at "len")))
local macro_rules | `(tactic| walk_at "b0") => `(tactic| ((with_reducible refine' c_is_right ?hl ?_); (case hl => walk_at "len")))
local macro_rules | `(tactic| walk_at "b0") => `(tactic| ((with_reducible refine' c__law_depths ?hl ?_); (case hl => walk_at "len")))
local macro_rules | `(tactic| walk_at "b0") => `(tactic| ((with_reducible refine' c__law_good ?hl ?_); (case hl => walk_at "len")))
local macro_rules | `(tactic| walk_at "b0") => `(tactic| ((with_reducible refine' wl_listOf ?hx ?_); (case hx => walk_at "isl")))
local macro_rules | `(tactic| walk_at "b0") => `(tactic| with_reducible refine' w2_notB ?_)
local macro_rules | `(tactic| walk_at "own") => `(tactic| exact own_l (by walk_at "mem"))
local macro_rules | `(tactic| walk_at "b0") => `(tactic| with_reducible refine' we_fld ?_)
local macro_rules | `(tactic| walk_at "b0") => `(tactic| refine ⟨_, _, _, _, _, rfl, own_l (by walk_at "mem"), Grw.cl (by assumption), Grw.nr (by assumption), by rfl, ?_⟩)
local macro_rules | `(tactic| walk_at "b0") => `(tactic| refine ⟨_, _, _, _, _, rfl, fun H' o => o.ex _ _ (by assumption), Grw.cl (by assumption), Grw.nr (by assumption), by rfl, ?_⟩)
local macro_rules | `(tactic| walk_at "b0") => `(tactic| with_reducible refine' we_meth ?_)
local macro_rules | `(tactic| walk_at "b0") => `(tactic| refine ⟨_, _, _, rfl, own_l (by walk_at "mem"), by rfl, ?_⟩)
local macro_rules | `(tactic| walk_at "b0") => `(tactic| refine ⟨_, _, _, rfl, fun H' o => o.ex _ _ (by assumption), by rfl, ?_⟩)
local macro_rules | `(tactic| walk_at "gown") => `(tactic| first | exact own_l (by walk_at "mem") | exact fun H' o => o.ex _ _ (by assumption))
local macro_rules | `(tactic| walk_at "b0") => `(tactic| with_reducible refine' wm_countT ?_)
local macro_rules | `(tactic| walk_at "b0") => `(tactic| with_reducible refine' we_methU ?_)
end BM
namespace BM
open PySem L2 Evl
local macro_rules | `(tactic| walk_at "mem") => `(tactic| first | exact List.mem_cons_self | (refine List.mem_cons_of_mem _ ?_; walk_at "mem"))
local macro_rules | `(tactic| walk_at "swap") => `(tactic| first | exact Swap.here | (apply Swap.there; walk_at "swap"))
local macro_rules | `(tactic| walk_at "subl") => `(tactic| first | exact List.Sublist.refl _ | exact List.nil_sublist _ | (refine List.Sublist.cons_cons _ ?_; walk_at "subl") | (refine List.Sublist.cons _ ?_; walk_at "subl"))
local macro_rules | `(tactic| walk_at "sub") => `(tactic| first | exact Sub.refl _ | (refine ⟨?_, ?_⟩ <;> walk_at "subl"))
local macro_rules | `(tactic| walk_at "isl") => `(tactic| first | exact isL_own (by walk_at "mem") | exact isL_old (by assumption) | assumption)
local macro_rules | `(tactic| walk_at "ist") => `(tactic| first | exact isT_own (by walk_at "mem") | exact isT_old (by assumption) | assumption)
local macro_rules | `(tactic| walk_at "len") => `(tactic| first | omega | decide | (simp only [List.length_map, List.length_take, List.length_drop, List.length_append, List.length_cons, List.length_nil, List.length_reverse, dps_len, flp_len]; omega) | (simp [dps_len, flp_len]; omega) | simp)
local macro_rules | `(tactic| walk_at "b0") => `(tactic| first
  | with_reducible refine' ws_set ?_
  | with_reducible refine' ws_par ?_
  | with_reducible refine' ws_asg ?_
  | with_reducible refine' ws_drop ?_
  | with_reducible refine' ws_ret ?_
  | with_reducible refine' ws_if ?_
  | with_reducible refine' ws_next ?_
  | with_reducible refine' ws_brk ?_
  | with_reducible refine' ws_cont ?_
  | ((with_reducible refine' we_var ?hv ?_); case hv => rfl)
  | with_reducible refine' we_c ?_
  | with_reducible refine' we_op ?_
  | with_reducible refine' we_un ?_
  | with_reducible refine' we_if ?_
  | with_reducible refine' we_and ?_
  | with_reducible refine' we_or ?_
  | with_reducible refine' we_not ?_
  | with_reducible refine' wa_nil ?_
  | with_reducible refine' wa_cons ?_
  | (with_reducible refine' we_lst ?_)
  | (with_reducible refine' we_tup ?_)
  | with_reducible refine' we_cb ?_
  | with_reducible refine' we_call0 ?_
  | with_reducible refine' we_sl ?_
  | with_reducible refine' wo_none ?_
  | (with_reducible refine' wo_some ?_)
  | with_reducible refine' wt_test ?_
  | with_reducible refine' wt_B ?_
  | with_reducible refine' wt_and ?_
  | with_reducible refine' wt_or ?_
  | with_reducible refine' wt_not ?_
  | with_reducible refine' wt_yes ?_
  | with_reducible refine' we_chain ?_
  | with_reducible refine' we_chain3 ?_
  | with_reducible refine' we_revT ?_
  | with_reducible refine' we_revL ?_
  | with_reducible refine' we_bm ?_
  | with_reducible refine' we_bm0 ?_
  | with_reducible refine' ws_for ?_
  | with_reducible refine' we_lc ?_
  | with_reducible refine' wi_list ?_
  | with_reducible refine' wi_tup ?_
  | with_reducible refine' wi_T ?_
  | with_reducible refine' wi_rng1 ?_
  | with_reducible refine' wi_rng2 ?_
  | with_reducible refine' wi_rng3 ?_
  | with_reducible refine' wi_enum ?_
  | with_reducible refine' wi_enumT ?_
  | with_reducible refine' wi_zip ?_
  | with_reducible refine' wg_name ?_
  | with_reducible refine' wg_sub ?_
  | with_reducible refine' wgs_nil ?_
  | with_reducible refine' wgs_cons ?_
  | ((with_reducible refine' wg_tup ?ht ?hn ?_); (case ht => walk_at "ist"); (case hn => rfl))
  | with_reducible refine' w2_add ?_
  | with_reducible refine' w2_sub ?_
  | with_reducible refine' w2_lt ?_
  | with_reducible refine' w2_le ?_
  | with_reducible refine' w2_gt ?_
  | with_reducible refine' w2_ge ?_
  | with_reducible refine' w2_eqI ?_
  | with_reducible refine' w2_neI ?_
  | with_reducible refine' w2_eqT ?_
  | with_reducible refine' w2_neT ?_
  | with_reducible refine' w2_eqB ?_
  | with_reducible refine' w2_neB ?_
  | with_reducible refine' w2_isN ?_
  | with_reducible refine' w2_notN ?_
  | with_reducible refine' w2_isB ?_
  | with_reducible refine' w2_inT ?_
  | with_reducible refine' w1_neg ?_
  | with_reducible refine' wl_abs ?_
  | with_reducible refine' wl_max2 ?_
  | with_reducible refine' wl_min2 ?_
  | with_reducible refine' wl_intB ?_
  | ((with_reducible refine' w2_div ?h ?_); case h => first | omega | (constructor <;> omega))
  | ((with_reducible refine' w2_mod ?h ?_); case h => omega)
  | ((with_reducible refine' w2_catT ?h ?_); case h => walk_at "len")
  | ((with_reducible refine' wsl_T ?h ?_); case h => walk_at "len")
  | ((with_reducible refine' wl_lenT ?h ?_); case h => walk_at "len")
  | ((with_reducible refine' wl_len ?h ?_); case h => walk_at "isl")
  | ((with_reducible refine' wl_len ?h ?_); case h => walk_at "isl")
  | ((with_reducible refine' wm_append ?sw ?hl ?_); (case sw => walk_at "swap"); (case hl => walk_at "len")))
local macro_rules | `(tactic| walk_at "b1") => `(tactic| first | with_reducible refine' ws_seq ?_ | walk_at "b0")
local macro_rules | `(tactic| walk_at "bx") => `(tactic| first
  | refine ⟨_, rfl, ?_⟩
  | refine ⟨_, _, rfl, ?_⟩
  | refine ⟨ty_L (by walk_at "isl"), ?_⟩
  | refine ⟨ty_S, ?_⟩
  | refine spl_t (by rfl) ?_
  | refine spl_f (by rfl) ?_
  | exact rfl)
local macro_rules | `(tactic| walk_at "bm") => `(tactic| repeat (first | walk_at "b1" | walk_at "bx"))
local macro_rules | `(tactic| walk_at "bn") => `(tactic| repeat (first | walk_at "b0" | walk_at "bx"))
local macro_rules | `(tactic| walk_at "b0") => `(tactic| with_reducible refine' c_deepens ?_)
local macro_rules | `(tactic| walk_at "b0") => `(tactic| ((with_reducible refine' c_depths_of ?hl ?_); (case hl => walk_at "len")))
local macro_rules | `(tactic| walk_at "b0") => `(tactic| with_reducible refine' c_is_wholeI ?_)
local macro_rules | `(tactic| walk_at "b0") => `(tactic| with_reducible refine' c_flipped ?_)
local macro_rules | `(tactic| walk_at "b0") => `(tactic| ((with_reducible refine' c_is_right_row ?hl ?_); (case hl => walk_at "len")))
local macro_rules | `(tactic| walk_at "b0") => `(tactic| ((with_reducible refine' c_asked_row ?hl ?_); (case hl => walk_at "len")))
local macro_rules | `(tactic| walk_at "b0") => `(tactic| ((with_reducible refine' c_depths ?hl ?_); (case hl => walk_at "len")))
local macro_rules | `(tactic| walk_at "b0") => `(tactic| ((with_reducible refine' c_is_right ?hl ?_); (case hl => walk_at "len")))
local macro_rules | `(tactic| walk_at "b0") => `(tactic| ((with_reducible refine' c__law_depths ?hl ?_); (case hl => walk_at "len")))
local macro_rules | `(tactic| walk_at "b0") => `(tactic| ((with_reducible refine' c__law_good ?hl ?_); (case hl => walk_at "len")))
local macro_rules | `(tactic| walk_at "b0") => `(tactic| ((with_reducible refine' wl_listOf ?hx ?_); (case hx => walk_at "isl")))
local macro_rules | `(tactic| walk_at "b0") => `(tactic| with_reducible refine' w2_notB ?_)
local macro_rules | `(tactic| walk_at "own") => `(tactic| exact own_l (by walk_at "mem"))
local macro_rules | `(tactic| walk_at "b0") => `(tactic| with_reducible refine' we_fld ?_)
local macro_rules | `(tactic| walk_at "b0") => `(tactic| refine ⟨_, _, _, _, _, rfl, own_l (by walk_at "mem"), Grw.cl (by assumption), Grw.nr (by assumption), by rfl, ?_⟩)
local macro_rules | `(tactic| walk_at "b0") => `(tactic| refine ⟨_, _, _, _, _, rfl, fun H' o => o.ex _ _ (by assumption), Grw.cl (by assumption), Grw.nr (by assumption), by rfl, ?_⟩)
local macro_rules | `(tactic| walk_at "b0") => `(tactic| with_reducible refine' we_meth ?_)
local macro_rules | `(tactic| walk_at "b0") => `(tactic| refine ⟨_, _, _, rfl, own_l (by walk_at "mem"), by rfl, ?_⟩)
local macro_rules | `(tactic| walk_at "b0") => `(tactic| refine ⟨_, _, _, rfl, fun H' o => o.ex _ _ (by assumption), by rfl, ?_⟩)
local macro_rules | `(tactic| walk_at "gown") => `(tactic| first | exact own_l (by walk_at "mem") | exact fun H' o => o.ex _ _ (by assumption))
local macro_rules | `(tactic| walk_at "b0") => `(tactic| with_reducible refine' wm_countT ?_)
local macro_rules | `(tactic| walk_at "b0") => `(tactic| with_reducible refine' we_methU ?_)
end BM
namespace BM
open PySem L2 Evl
local macro_rules | `(tactic| walk_at "mem") => `(tactic| first | exact List.mem_cons_self | (refine List.mem_cons_of_mem _ ?_; walk_at "mem"))
local macro_rules | `(tactic| walk_at "swap") => `(tactic| first | exact Swap.here | (apply Swap.there; walk_at "swap"))
local macro_rules | `(tactic| walk_at "subl") => `(tactic| first | exact List.Sublist.refl _ | exact List.nil_sublist _ | (refine List.Sublist.cons_cons _ ?_; walk_at "subl") | (refine List.Sublist.cons _ ?_; walk_at "subl"))
local macro_rules | `(tactic| walk_at "sub") => `(tactic| first | exact Sub.refl _ | (refine ⟨?_, ?_⟩ <;> walk_at "subl"))
local macro_rules | `(tactic| walk_at "isl") => `(tactic| first | exact isL_own (by walk_at "mem") | exact isL_old (by assumption) | assumption)
local macro_rules | `(tactic| walk_at "ist") => `(tactic| first | exact isT_own (by walk_at "mem") | exact isT_old (by assumption) | assumption)
local macro_rules | `(tactic| walk_at "len") => `(tactic| first | omega | decide | (simp only [List.length_map, List.length_take, List.length_drop, List.length_append, List.length_cons, List.length_nil, List.length_reverse, dps_len, flp_len]; omega) | (simp [dps_len, flp_len]; omega) | simp)
local macro_rules | `(tactic| walk_at "b0") => `(tactic| first
  | with_reducible refine' ws_set ?_
  | with_reducible refine' ws_par ?_
  | with_reducible refine' ws_asg ?_
  | with_reducible refine' ws_drop ?_
  | with_reducible refine' ws_ret ?_
  | with_reducible refine' ws_if ?_
  | with_reducible refine' ws_next ?_
  | with_reducible refine' ws_brk ?_
  | with_reducible refine' ws_cont ?_
  | ((with_reducible refine' we_var ?hv ?_); case hv => rfl)
  | with_reducible refine' we_c ?_
  | with_reducible refine' we_op ?_
  | with_reducible refine' we_un ?_
  | with_reducible refine' we_if ?_
  | with_reducible refine' we_and ?_
  | with_reducible refine' we_or ?_
  | with_reducible refine' we_not ?_
  | with_reducible refine' wa_nil ?_
  | with_reducible refine' wa_cons ?_
  | (with_reducible refine' we_lst ?_)
  | (with_reducible refine' we_tup ?_)
  | with_reducible refine' we_cb ?_
  | with_reducible refine' we_call0 ?_
  | with_reducible refine' we_sl ?_
  | with_reducible refine' wo_none ?_
  | (with_reducible refine' wo_some ?_)
  | with_reducible refine' wt_test ?_
  | with_reducible refine' wt_B ?_
  | with_reducible refine' wt_and ?_
  | with_reducible refine' wt_or ?_
  | with_reducible refine' wt_not ?_
  | with_reducible refine' wt_yes ?_
  | with_reducible refine' we_chain ?_
  | with_reducible refine' we_chain3 ?_
  | with_reducible refine' we_revT ?_
  | with_reducible refine' we_revL ?_
  | with_reducible refine' we_bm ?_
  | with_reducible refine' we_bm0 ?_
  | with_reducible refine' ws_for ?_
  | with_reducible refine' we_lc ?_
  | with_reducible refine' wi_list ?_
  | with_reducible refine' wi_tup ?_
  | with_reducible refine' wi_T ?_
  | with_reducible refine' wi_rng1 ?_
  | with_reducible refine' wi_rng2 ?_
  | with_reducible refine' wi_rng3 ?_
  | with_reducible refine' wi_enum ?_
  | with_reducible refine' wi_enumT ?_
  | with_reducible refine' wi_zip ?_
  | with_reducible refine' wg_name ?_
  | with_reducible refine' wg_sub ?_
  | with_reducible refine' wgs_nil ?_
  | with_reducible refine' wgs_cons ?_
  | ((with_reducible refine' wg_tup ?ht ?hn ?_); (case ht => walk_at "ist"); (case hn => rfl))
  | with_reducible refine' w2_add ?_
  | with_reducible refine' w2_sub ?_
  | with_reducible refine' w2_lt ?_
  | with_reducible refine' w2_le ?_
  | with_reducible refine' w2_gt ?_
  | with_reducible refine' w2_ge ?_
  | with_reducible refine' w2_eqI ?_
  | with_reducible refine' w2_neI ?_
  | with_reducible refine' w2_eqT ?_
  | with_reducible refine' w2_neT ?_
  | with_reducible refine' w2_eqB ?_
  | with_reducible refine' w2_neB ?_
  | with_reducible refine' w2_isN ?_
  | with_reducible refine' w2_notN ?_
  | with_reducible refine' w2_isB ?_
  | with_reducible refine' w2_inT ?_
  | with_reducible refine' w1_neg ?_
  | with_reducible refine' wl_abs ?_
  | with_reducible refine' wl_max2 ?_
  | with_reducible refine' wl_min2 ?_
  | with_reducible refine' wl_intB ?_
  | ((with_reducible refine' w2_div ?h ?_); case h => first | omega | (constructor <;> omega))
  | ((with_reducible refine' w2_mod ?h ?_); case h => omega)
  | ((with_reducible refine' w2_catT ?h ?_); case h => walk_at "len")
  | ((with_reducible refine' wsl_T ?h ?_); case h => walk_at "len")
  | ((with_reducible refine' wl_lenT ?h ?_); case h => walk_at "len")
  | ((with_reducible refine' wl_len ?h ?_); case h => walk_at "isl")
  | ((with_reducible refine' wl_len ?h ?_); case h => walk_at "isl")
  | ((with_reducible refine' wm_append ?sw ?hl ?_); (case sw => walk_at "swap"); (case hl => walk_at "len")))
local macro_rules | `(tactic| walk_at "b1") => `(tactic| first | with_reducible refine' ws_seq ?_ | walk_at "b0")
local macro_rules | `(tactic| walk_at "bx") => `(tactic| first
  | refine ⟨_, rfl, ?_⟩
  | refine ⟨_, _, rfl, ?_⟩
  | refine ⟨ty_L (by walk_at "isl"), ?_⟩
  | refine ⟨ty_S, ?_⟩
  | refine spl_t (by rfl) ?_
  | refine spl_f (by rfl) ?_
  | exact rfl)
local macro_rules | `(tactic| walk_at "bm") => `(tactic| repeat (first | walk_at "b1" | walk_at "bx"))
local macro_rules | `(tactic| walk_at "bn") => `(tactic| repeat (first | walk_at "b0" | walk_at "bx"))
local macro_rules | `(tactic| walk_at "b0") => `(tactic| with_reducible refine' c_deepens ?_)
local macro_rules | `(tactic| walk_at "b0") => `(tactic| ((with_reducible refine' c_depths_of ?hl ?_); (case hl => walk_at "len")))
local macro_rules | `(tactic| walk_at "b0") => `(tactic| with_reducible refine' c_is_wholeI ?_)
local macro_rules | `(tactic| walk_at "b0") => `(tactic| with_reducible refine' c_flipped ?_)
local macro_rules | `(tactic| walk_at "b0") => `(tactic| ((with_reducible refine' c_is_right_row ?hl ?_); (case hl => walk_at "len")))
local macro_rules | `(tactic| walk_at "b0") => `(tactic| ((with_reducible refine' c_asked_row ?hl ?_); (case hl => walk_at "len")))
local macro_rules | `(tactic| walk_at "b0") => `(tactic| ((with_reducible refine' c_depths ?hl ?_); (case hl => walk_at "len")))
local macro_rules | `(tactic| walk_at "b0") => `(tactic| ((with_reducible refine' c_is_right ?hl ?_); (case hl => walk_at "len")))
local macro_rules | `(tactic| walk_at "b0") => `(tactic| ((with_reducible refine' c__law_depths ?hl ?_); (case hl => walk_at "len")))
local macro_rules | `(tactic| walk_at "b0") => `(tactic| ((with_reducible refine' c__law_good ?hl ?_); (case hl => walk_at "len")))
local macro_rules | `(tactic| walk_at "b0") => `(tactic| ((with_reducible refine' wl_listOf ?hx ?_); (case hx => walk_at "isl")))
local macro_rules | `(tactic| walk_at "b0") => `(tactic| with_reducible refine' w2_notB ?_)
local macro_rules | `(tactic| walk_at "own") => `(tactic| exact own_l (by walk_at "mem"))
local macro_rules | `(tactic| walk_at "b0") => `(tactic| with_reducible refine' we_fld ?_)
local macro_rules | `(tactic| walk_at "b0") => `(tactic| refine ⟨_, _, _, _, _, rfl, own_l (by walk_at "mem"), Grw.cl (by assumption), Grw.nr (by assumption), by rfl, ?_⟩)
local macro_rules | `(tactic| walk_at "b0") => `(tactic| refine ⟨_, _, _, _, _, rfl, fun H' o => o.ex _ _ (by assumption), Grw.cl (by assumption), Grw.nr (by assumption), by rfl, ?_⟩)
local macro_rules | `(tactic| walk_at "b0") => `(tactic| with_reducible refine' we_meth ?_)
local macro_rules | `(tactic| walk_at "b0") => `(tactic| refine ⟨_, _, _, rfl, own_l (by walk_at "mem"), by rfl, ?_⟩)
local macro_rules | `(tactic| walk_at "b0") => `(tactic| refine ⟨_, _, _, rfl, fun H' o => o.ex _ _ (by assumption), by rfl, ?_⟩)
local macro_rules | `(tactic| walk_at "gown") => `(tactic| first | exact own_l (by walk_at "mem") | exact fun H' o => o.ex _ _ (by assumption))
local macro_rules | `(tactic| walk_at "b0") => `(tactic| with_reducible refine' wm_countT ?_)
local macro_rules | `(tactic| walk_at "b0") => `(tactic| with_reducible refine' we_methU ?_)
end BM
namespace BM
open PySem L2 Evl
local macro_rules | `(tactic| walk_at "mem") => `(tactic| first | exact List.mem_cons_self | (refine List.mem_cons_of_mem _ ?_; walk_at "mem"))
local macro_rules | `(tactic| walk_at "swap") => `(tactic| first | exact Swap.here | (apply Swap.there; walk_at "swap"))
local macro_rules | `(tactic| walk_at "subl") => `(tactic| first | exact List.Sublist.refl _ | exact List.nil_sublist _ | (refine List.Sublist.cons_cons _ ?_; walk_at "subl") | (refine List.Sublist.cons _ ?_; walk_at "subl"))
local macro_rules | `(tactic| walk_at "sub") => `(tactic| first | exact Sub.refl _ | (refine ⟨?_, ?_⟩ <;> walk_at "subl"))
local macro_rules | `(tactic| walk_at "isl") => `(tactic| first | exact isL_own (by walk_at "mem") | exact isL_old (by assumption) | assumption)
local macro_rules | `(tactic| walk_at "ist") => `(tactic| first | exact isT_own (by walk_at "mem") | exact isT_old (by assumption) | assumption)
local macro_rules | `(tactic| walk_at "len") => `(tactic| first | omega | decide | (simp only [List.length_map, List.length_take, List.length_drop, List.length_append, List.length_cons, List.length_nil, List.length_reverse, dps_len, flp_len]; omega) | (simp [dps_len, flp_len]; omega) | simp)
local macro_rules | `(tactic| walk_at "b0") => `(tactic| first
  | with_reducible refine' ws_set ?_
  | with_reducible refine' ws_par ?_
  | with_reducible refine' ws_asg ?_
  | with_reducible refine' ws_drop ?_
  | with_reducible refine' ws_ret ?_
  | with_reducible refine' ws_if ?_
  | with_reducible refine' ws_next ?_
  | with_reducible refine' ws_brk ?_
  | with_reducible refine' ws_cont ?_
  | ((with_reducible refine' we_var ?hv ?_); case hv => rfl)
  | with_reducible refine' we_c ?_
  | with_reducible refine' we_op ?_
  | with_reducible refine' we_un ?_
  | with_reducible refine' we_if ?_
  | with_reducible refine' we_and ?_
  | with_reducible refine' we_or ?_
  | with_reducible refine' we_not ?_
  | with_reducible refine' wa_nil ?_
  | with_reducible refine' wa_cons ?_
  | (with_reducible refine' we_lst ?_)
  | (with_reducible refine' we_tup ?_)
  | with_reducible refine' we_cb ?_
  | with_reducible refine' we_call0 ?_
  | with_reducible refine' we_sl ?_
  | with_reducible refine' wo_none ?_
  | (with_reducible refine' wo_some ?_)
  | with_reducible refine' wt_test ?_
  | with_reducible refine' wt_B ?_
  | with_reducible refine' wt_and ?_
  | with_reducible refine' wt_or ?_
  | with_reducible refine' wt_not ?_
  | with_reducible refine' wt_yes ?_
  | with_reducible refine' we_chain ?_
  | with_reducible refine' we_chain3 ?_
  | with_reducible refine' we_revT ?_
  | with_reducible refine' we_revL ?_
  | with_reducible refine' we_bm ?_
  | with_reducible refine' we_bm0 ?_
  | with_reducible refine' ws_for ?_
  | with_reducible refine' we_lc ?_
  | with_reducible refine' wi_list ?_
  | with_reducible refine' wi_tup ?_
  | with_reducible refine' wi_T ?_
  | with_reducible refine' wi_rng1 ?_
  | with_reducible refine' wi_rng2 ?_
  | with_reducible refine' wi_rng3 ?_
  | with_reducible refine' wi_enum ?_
  | with_reducible refine' wi_enumT ?_
  | with_reducible refine' wi_zip ?_
  | with_reducible refine' wg_name ?_
  | with_reducible refine' wg_sub ?_
  | with_reducible refine' wgs_nil ?_
  | with_reducible refine' wgs_cons ?_
  | ((with_reducible refine' wg_tup ?ht ?hn ?_); (case ht => walk_at "ist"); (case hn => rfl))
  | with_reducible refine' w2_add ?_
  | with_reducible refine' w2_sub ?_
  | with_reducible refine' w2_lt ?_
  | with_reducible refine' w2_le ?_
  | with_reducible refine' w2_gt ?_
  | with_reducible refine' w2_ge ?_
  | with_reducible refine' w2_eqI ?_
  | with_reducible refine' w2_neI ?_
  | with_reducible refine' w2_eqT ?_
  | with_reducible refine' w2_neT ?_
  | with_reducible refine' w2_eqB ?_
  | with_reducible refine' w2_neB ?_
  | with_reducible refine' w2_isN ?_
  | with_reducible refine' w2_notN ?_
  | with_reducible refine' w2_isB ?_
  | with_reducible refine' w2_inT ?_
  | with_reducible refine' w1_neg ?_
  | with_reducible refine' wl_abs ?_
  | with_reducible refine' wl_max2 ?_
  | with_reducible refine' wl_min2 ?_
  | with_reducible refine' wl_intB ?_
  | ((with_reducible refine' w2_div ?h ?_); case h => first | omega | (constructor <;> omega))
  | ((with_reducible refine' w2_mod ?h ?_); case h => omega)
  | ((with_reducible refine' w2_catT ?h ?_); case h => walk_at "len")
  | ((with_reducible refine' wsl_T ?h ?_); case h => walk_at "len")
  | ((with_reducible refine' wl_lenT ?h ?_); case h => walk_at "len")
  | ((with_reducible refine' wl_len ?h ?_); case h => walk_at "isl")
  | ((with_reducible refine' wl_len ?h ?_); case h => walk_at "isl")
  | ((with_reducible refine' wm_append ?sw ?hl ?_); (case sw => walk_at "swap"); (case hl => walk_at "len")))
local macro_rules | `(tactic| walk_at "b1") => `(tactic| first | with_reducible refine' ws_seq ?_ | walk_at "b0")
local macro_rules | `(tactic| walk_at "bx") => `(tactic| first
  | refine ⟨_, rfl, ?_⟩
  | refine ⟨_, _, rfl, ?_⟩
  | refine ⟨ty_L (by walk_at "isl"), ?_⟩
  | refine ⟨ty_S, ?_⟩
  | refine spl_t (by rfl) ?_
  | refine spl_f (by rfl) ?_
  | exact rfl)
local macro_rules | `(tactic| walk_at "bm") => `(tactic| repeat (first | walk_at "b1" | walk_at "bx"))
local macro_rules | `(tactic| walk_at "bn") => `(tactic| repeat (first | walk_at "b0" | walk_at "bx"))
local macro_rules | `(tactic| walk_at "b0") => `(tactic| with_reducible refine' c_deepens ?_)
local macro_rules | `(tactic| walk_at "b0") => `(tactic| ((with_reducible refine' c_depths_of ?hl ?_); (case hl => walk_at "len")))
local macro_rules | `(tactic| walk_at "b0") => `(tactic| with_reducible refine' c_is_wholeI ?_)
local macro_rules | `(tactic| walk_at "b0") => `(tactic| with_reducible refine' c_flipped ?_)
local macro_rules | `(tactic| walk_at "b0") => `(tactic| ((with_reducible refine' c_is_right_row ?hl ?_); (case hl => walk_at "len")))
local macro_rules | `(tactic| walk_at "b0") => `(tactic| ((with_reducible refine' c_asked_row ?hl ?_); (case hl => walk_at "len")))
local macro_rules | `(tactic| walk_at "b0") => `(tactic| ((with_reducible refine' c_depths ?hl ?_); (case hl => walk_at "len")))
local macro_rules | `(tactic| walk_at "b0") => `(tactic| ((with_reducible refine' c_is_right ?hl ?_); (case hl => walk_at "len")))
local macro_rules | `(tactic| walk_at "b0") => `(tactic| ((with_reducible refine' c__law_depths ?hl ?_); (case hl => walk_at "len")))
local macro_rules | `(tactic| walk_at "b0") => `(tactic| ((with_reducible refine' c__law_good ?hl ?_); (case hl => walk_at "len")))
local macro_rules | `(tactic| walk_at "b0") => `(tactic| ((with_reducible refine' wl_listOf ?hx ?_); (case hx => walk_at "isl")))
local macro_rules | `(tactic| walk_at "b0") => `(tactic| with_reducible refine' w2_notB ?_)
local macro_rules | `(tactic| walk_at "own") => `(tactic| exact own_l (by walk_at "mem"))
local macro_rules | `(tactic| walk_at "b0") => `(tactic| with_reducible refine' we_fld ?_)
local macro_rules | `(tactic| walk_at "b0") => `(tactic| refine ⟨_, _, _, _, _, rfl, own_l (by walk_at "mem"), Grw.cl (by assumption), Grw.nr (by assumption), by rfl, ?_⟩)
local macro_rules | `(tactic| walk_at "b0") => `(tactic| refine ⟨_, _, _, _, _, rfl, fun H' o => o.ex _ _ (by assumption), Grw.cl (by assumption), Grw.nr (by assumption), by rfl, ?_⟩)
local macro_rules | `(tactic| walk_at "b0") => `(tactic| with_reducible refine' we_meth ?_)
local macro_rules | `(tactic| walk_at "b0") => `(tactic| refine ⟨_, _, _, rfl, own_l (by walk_at "mem"), by rfl, ?_⟩)
local macro_rules | `(tactic| walk_at "b0") => `(tactic| refine ⟨_, _, _, rfl, fun H' o => o.ex _ _ (by assumption), by rfl, ?_⟩)
local macro_rules | `(tactic| walk_at "gown") => `(tactic| first | exact own_l (by walk_at "mem") | exact fun H' o => o.ex _ _ (by assumption))
local macro_rules | `(tactic| walk_at "b0") => `(tactic| with_reducible refine' wm_countT ?_)
local macro_rules | `(tactic| walk_at "b0") => `(tactic| with_reducible refine' we_methU ?_)
end BM
namespace BM
open PySem L2 Evl
local macro_rules | `(tactic| walk_at "mem") => `(tactic| first | exact List.mem_cons_self | (refine List.mem_cons_of_mem _ ?_; walk_at "mem"))
local macro_rules | `(tactic| walk_at "swap") => `(tactic| first | exact Swap.here | (apply Swap.there; walk_at "swap"))
local macro_rules | `(tactic| walk_at "subl") => `(tactic| first | exact List.Sublist.refl _ | exact List.nil_sublist _ | (refine List.Sublist.cons_cons _ ?_; walk_at "subl") | (refine List.Sublist.cons _ ?_; walk_at "subl"))
local macro_rules | `(tactic| walk_at "sub") => `(tactic| first | exact Sub.refl _ | (refine ⟨?_, ?_⟩ <;> walk_at "subl"))
local macro_rules | `(tactic| walk_at "isl") => `(tactic| first | exact isL_own (by walk_at "mem") | exact isL_old (by assumption) | assumption)
local macro_rules | `(tactic| walk_at "ist") => `(tactic| first | exact isT_own (by walk_at "mem") | exact isT_old (by assumption) | assumption)
local macro_rules | `(tactic| walk_at "len") => `(tactic| first | omega | decide | (simp only [List.length_map, List.length_take, List.length_drop, List.length_append, List.length_cons, List.length_nil, List.length_reverse, dps_len, flp_len]; omega) | (simp [dps_len, flp_len]; omega) | simp)
local macro_rules | `(tactic| walk_at "b0") => `(tactic| first
  | with_reducible refine' ws_set ?_
  | with_reducible refine' ws_par ?_
  | with_reducible refine' ws_asg ?_
  | with_reducible refine' ws_drop ?_
  | with_reducible refine' ws_ret ?_
  | with_reducible refine' ws_if ?_
  | with_reducible refine' ws_next ?_
  | with_reducible refine' ws_brk ?_
  | with_reducible refine' ws_cont ?_
  | ((with_reducible refine' we_var ?hv ?_); case hv => rfl)
  | with_reducible refine' we_c ?_
  | with_reducible refine' we_op ?_
  | with_reducible refine' we_un ?_
  | with_reducible refine' we_if ?_
  | with_reducible refine' we_and ?_
  | with_reducible refine' we_or ?_
  | with_reducible refine' we_not ?_
  | with_reducible refine' wa_nil ?_
  | with_reducible refine' wa_cons ?_
  | (with_reducible refine' we_lst ?_)
  | (with_reducible refine' we_tup ?_)
  | with_reducible refine' we_cb ?_
  | with_reducible refine' we_call0 ?_
  | with_reducible refine' we_sl ?_
  | with_reducible refine' wo_none ?_
  | (with_reducible refine' wo_some ?_)
  | with_reducible refine' wt_test ?_
  | with_reducible refine' wt_B ?_
  | with_reducible refine' wt_and ?_
  | with_reducible refine' wt_or ?_
  | with_reducible refine' wt_not ?_
  | with_reducible refine' wt_yes ?_
  | with_reducible refine' we_chain ?_
  | with_reducible refine' we_chain3 ?_
  | with_reducible refine' we_revT ?_
  | with_reducible refine' we_revL ?_
  | with_reducible refine' we_bm ?_
  | with_reducible refine' we_bm0 ?_
  | with_reducible refine' ws_for ?_
  | with_reducible refine' we_lc ?_
  | with_reducible refine' wi_list ?_
  | with_reducible refine' wi_tup ?_
  | with_reducible refine' wi_T ?_
  | with_reducible refine' wi_rng1 ?_
  | with_reducible refine' wi_rng2 ?_
  | with_reducible refine' wi_rng3 ?_
  | with_reducible refine' wi_enum ?_
  | with_reducible refine' wi_enumT ?_
  | with_reducible refine' wi_zip ?_
  | with_reducible refine' wg_name ?_
  | with_reducible refine' wg_sub ?_
  | with_reducible refine' wgs_nil ?_
  | with_reducible refine' wgs_cons ?_
  | ((with_reducible refine' wg_tup ?ht ?hn ?_); (case ht => walk_at "ist"); (case hn => rfl))
  | with_reducible refine' w2_add ?_
  | with_reducible refine' w2_sub ?_
  | with_reducible refine' w2_lt ?_
  | with_reducible refine' w2_le ?_
  | with_reducible refine' w2_gt ?_
  | with_reducible refine' w2_ge ?_
  | with_reducible refine' w2_eqI ?_
  | with_reducible refine' w2_neI ?_
  | with_reducible refine' w2_eqT ?_
  | with_reducible refine' w2_neT ?_
  | with_reducible refine' w2_eqB ?_
  | with_reducible refine' w2_neB ?_
  | with_reducible refine' w2_isN ?_
  | with_reducible refine' w2_notN ?_
  | with_reducible refine' w2_isB ?_
  | with_reducible refine' w2_inT ?_
  | with_reducible refine' w1_neg ?_
  | with_reducible refine' wl_abs ?_
  | with_reducible refine' wl_max2 ?_
  | with_reducible refine' wl_min2 ?_
  | with_reducible refine' wl_intB ?_
  | ((with_reducible refine' w2_div ?h ?_); case h => first | omega | (constructor <;> omega))
  | ((with_reducible refine' w2_mod ?h ?_); case h => omega)
  | ((with_reducible refine' w2_catT ?h ?_); case h => walk_at "len")
  | ((with_reducible refine' wsl_T ?h ?_); case h => walk_at "len")
  | ((with_reducible refine' wl_lenT ?h ?_); case h => walk_at "len")
  | ((with_reducible refine' wl_len ?h ?_); case h => walk_at "isl")
  | ((with_reducible refine' wl_len ?h ?_); case h => walk_at "isl")
  | ((with_reducible refine' wm_append ?sw ?hl ?_); (case sw => walk_at "swap"); (case hl => walk_at "len")))
local macro_rules | `(tactic| walk_at "b1") => `(tactic| first | with_reducible refine' ws_seq ?_ | walk_at "b0")
local macro_rules | `(tactic| walk_at "bx") => `(tactic| first
  | refine ⟨_, rfl, ?_⟩
  | refine ⟨_, _, rfl, ?_⟩
  | refine ⟨ty_L (by walk_at "isl"), ?_⟩
  | refine ⟨ty_S, ?_⟩
  | refine spl_t (by rfl) ?_
  | refine spl_f (by rfl) ?_
  | exact rfl)
local macro_rules | `(tactic| walk_at "bm") => `(tactic| repeat (first | walk_at "b1" | walk_at "bx"))
local macro_rules | `(tactic| walk_at "bn") => `(tactic| repeat (first | walk_at "b0" | walk_at "bx"))
local macro_rules | `(tactic| walk_at "b0") => `(tactic| with_reducible refine' c_deepens ?_)
local macro_rules | `(tactic| walk_at "b0") => `(tactic| ((with_reducible refine' c_depths_of ?hl ?_); (case hl => walk_at "len")))
local macro_rules | `(tactic| walk_at "b0") => `(tactic| with_reducible refine' c_is_wholeI ?_)
local macro_rules | `(tactic| walk_at "b0") => `(tactic| with_reducible refine' c_flipped ?_)
local macro_rules | `(tactic| walk_at "b0") => `(tactic| ((with_reducible refine' c_is_right_row ?hl ?_); (case hl => walk_at "len")))
local macro_rules | `(tactic| walk_at "b0") => `(tactic| ((with_reducible refine' c_asked_row ?hl ?_); (case hl => walk_at "len")))
local macro_rules | `(tactic| walk_at "b0") => `(tactic| ((with_reducible refine' c_depths ?hl ?_); (case hl => walk_at "len")))
local macro_rules | `(tactic| walk_at "b0") => `(tactic| ((with_reducible refine' c_is_right ?hl ?_); (case hl => walk_at "len")))
local macro_rules | `(tactic| walk_at "b0") => `(tactic| ((with_reducible refine' c__law_depths ?hl ?_); (case hl => walk_at "len")))
local macro_rules | `(tactic| walk_at "b0") => `(tactic| ((with_reducible refine' c__law_good ?hl ?_); (case hl => walk_at "len")))
local macro_rules | `(tactic| walk_at "b0") => `(tactic| ((with_reducible refine' wl_listOf ?hx ?_); (case hx => walk_at "isl")))
local macro_rules | `(tactic| walk_at "b0") => `(tactic| with_reducible refine' w2_notB ?_)
local macro_rules | `(tactic| walk_at "own") => `(tactic| exact own_l (by walk_at "mem"))
local macro_rules | `(tactic| walk_at "b0") => `(tactic| with_reducible refine' we_fld ?_)
local macro_rules | `(tactic| walk_at "b0") => `(tactic| refine ⟨_, _, _, _, _, rfl, own_l (by walk_at "mem"), Grw.cl (by assumption), Grw.nr (by assumption), by rfl, ?_⟩)
local macro_rules | `(tactic| walk_at "b0") => `(tactic| refine ⟨_, _, _, _, _, rfl, fun H' o => o.ex _ _ (by assumption), Grw.cl (by assumption), Grw.nr (by assumption), by rfl, ?_⟩)
local macro_rules | `(tactic| walk_at "b0") => `(tactic| with_reducible refine' we_meth ?_)
local macro_rules | `(tactic| walk_at "b0") => `(tactic| refine ⟨_, _, _, rfl, own_l (by walk_at "mem"), by rfl, ?_⟩)
local macro_rules | `(tactic| walk_at "b0") => `(tactic| refine ⟨_, _, _, rfl, fun H' o => o.ex _ _ (by assumption), by rfl, ?_⟩)
local macro_rules | `(tactic| walk_at "gown") => `(tactic| first | exact own_l (by walk_at "mem") | exact fun H' o => o.ex _ _ (by assumption))
local macro_rules | `(tactic| walk_at "b0") => `(tactic| with_reducible refine' wm_countT ?_)
local macro_rules | `(tactic| walk_at "b0") => `(tactic| with_reducible refine' we_methU ?_)
local macro_rules | `(tactic| walk_at "tsub") => `(tactic| first | exact fun _ m => List.mem_append_left _ m | exact fun _ m => m | (refine List.Subset.trans ?_ (List.subset_cons_self _ _); walk_at "tsub"))
end BM
namespace BM
open PySem L2 Evl
local macro_rules | `(tactic| walk_at "mem") => `(tactic| first | exact List.mem_cons_self | (refine List.mem_cons_of_mem _ ?_; walk_at "mem"))
local macro_rules | `(tactic| walk_at "swap") => `(tactic| first | exact Swap.here | (apply Swap.there; walk_at "swap"))
local macro_rules | `(tactic| walk_at "subl") => `(tactic| first | exact List.Sublist.refl _ | exact List.nil_sublist _ | (refine List.Sublist.cons_cons _ ?_; walk_at "subl") | (refine List.Sublist.cons _ ?_; walk_at "subl"))
local macro_rules | `(tactic| walk_at "sub") => `(tactic| first | exact Sub.refl _ | (refine ⟨?_, ?_⟩ <;> walk_at "subl"))
local macro_rules | `(tactic| walk_at "isl") => `(tactic| first | exact isL_own (by walk_at "mem") | exact isL_old (by assumption) | assumption)
local macro_rules | `(tactic| walk_at "ist") => `(tactic| first | exact isT_own (by walk_at "mem") | exact isT_old (by assumption) | assumption)
local macro_rules | `(tactic| walk_at "len") => `(tactic| first | omega | decide | (simp only [List.length_map, List.length_take, List.length_drop, List.length_append, List.length_cons, List.length_nil, List.length_reverse, dps_len, flp_len]; omega) | (simp [dps_len, flp_len]; omega) | simp)
local macro_rules | `(tactic| walk_at "b0") => `(tactic| first
  | with_reducible refine' ws_set ?_
  | with_reducible refine' ws_par ?_
  | with_reducible refine' ws_asg ?_
  | with_reducible refine' ws_drop ?_
  | with_reducible refine' ws_ret ?_
  | with_reducible refine' ws_if ?_
  | with_reducible refine' ws_next ?_
  | with_reducible refine' ws_brk ?_
  | with_reducible refine' ws_cont ?_
  | ((with_reducible refine' we_var ?hv ?_); case hv => rfl)
  | with_reducible refine' we_c ?_
  | with_reducible refine' we_op ?_
  | with_reducible refine' we_un ?_
  | with_reducible refine' we_if ?_
  | with_reducible refine' we_and ?_
  | with_reducible refine' we_or ?_
  | with_reducible refine' we_not ?_
  | with_reducible refine' wa_nil ?_
  | with_reducible refine' wa_cons ?_
  | (with_reducible refine' we_lst ?_)
  | (with_reducible refine' we_tup ?_)
  | with_reducible refine' we_cb ?_
  | with_reducible refine' we_call0 ?_
  | with_reducible refine' we_sl ?_
  | with_reducible refine' wo_none ?_
  | (with_reducible refine' wo_some ?_)
  | with_reducible refine' wt_test ?_
  | with_reducible refine' wt_B ?_
  | with_reducible refine' wt_and ?_
  | with_reducible refine' wt_or ?_
  | with_reducible refine' wt_not ?_
  | with_reducible refine' wt_yes ?_
  | with_reducible refine' we_chain ?_
  | with_reducible refine' we_chain3 ?_
  | with_reducible refine' we_revT ?_
  | with_reducible refine' we_revL ?_
  | with_reducible refine' we_bm ?_
  | with_reducible refine' we_bm0 ?_
  | with_reducible refine' ws_for ?_
  | with_reducible refine' we_lc ?_
  | with_reducible refine' wi_list ?_
  | with_reducible refine' wi_tup ?_
  | with_reducible refine' wi_T ?_
  | with_reducible refine' wi_rng1 ?_
  | with_reducible refine' wi_rng2 ?_
  | with_reducible refine' wi_rng3 ?_
  | with_reducible refine' wi_enum ?_
  | with_reducible refine' wi_enumT ?_
  | with_reducible refine' wi_zip ?_
  | with_reducible refine' wg_name ?_
  | with_reducible refine' wg_sub ?_
  | with_reducible refine' wgs_nil ?_
  | with_reducible refine' wgs_cons ?_
  | ((with_reducible refine' wg_tup ?ht ?hn ?_); (case ht => walk_at "ist"); (case hn => rfl))
  | with_reducible refine' w2_add ?_
  | with_reducible refine' w2_sub ?_
  | with_reducible refine' w2_lt ?_
  | with_reducible refine' w2_le ?_
  | with_reducible refine' w2_gt ?_
  | with_reducible refine' w2_ge ?_
  | with_reducible refine' w2_eqI ?_
  | with_reducible refine' w2_neI ?_
  | with_reducible refine' w2_eqT ?_
  | with_reducible refine' w2_neT ?_
  | with_reducible refine' w2_eqB ?_
  | with_reducible refine' w2_neB ?_
  | with_reducible refine' w2_isN ?_
  | with_reducible refine' w2_notN ?_
  | with_reducible refine' w2_isB ?_
  | with_reducible refine' w2_inT ?_
  | with_reducible refine' w1_neg ?_
  | with_reducible refine' wl_abs ?_
  | with_reducible refine' wl_max2 ?_
  | with_reducible refine' wl_min2 ?_
  | with_reducible refine' wl_intB ?_
  | ((with_reducible refine' w2_div ?h ?_); case h => first | omega | (constructor <;> omega))
  | ((with_reducible refine' w2_mod ?h ?_); case h => omega)
  | ((with_reducible refine' w2_catT ?h ?_); case h => walk_at "len")
  | ((with_reducible refine' wsl_T ?h ?_); case h => walk_at "len")
  | ((with_reducible refine' wl_lenT ?h ?_); case h => walk_at "len")
  | ((with_reducible refine' wl_len ?h ?_); case h => walk_at "isl")
  | ((with_reducible refine' wl_len ?h ?_); case h => walk_at "isl")
  | ((with_reducible refine' wm_append ?sw ?hl ?_); (case sw => walk_at "swap"); (case hl => walk_at "len")))
local macro_rules | `(tactic| walk_at "b1") => `(tactic| first | with_reducible refine' ws_seq ?_ | walk_at "b0")
local macro_rules | `(tactic| walk_at "bx") => `(tactic| first
  | refine ⟨_, rfl, ?_⟩
  | refine ⟨_, _, rfl, ?_⟩
  | refine ⟨ty_L (by walk_at "isl"), ?_⟩
  | refine ⟨ty_S, ?_⟩
  | refine spl_t (by rfl) ?_
  | refine spl_f (by rfl) ?_
  | exact rfl)
local macro_rules | `(tactic| walk_at "bm") => `(tactic| repeat (first | walk_at "b1" | walk_at "bx"))
local macro_rules | `(tactic| walk_at "bn") => `(tactic| repeat (first | walk_at "b0" | walk_at "bx"))
local macro_rules | `(tactic| walk_at "b0") => `(tactic| with_reducible refine' c_deepens ?_)
local macro_rules | `(tactic| walk_at "b0") => `(tactic| ((with_reducible refine' c_depths_of ?hl ?_); (case hl => walk_at "len")))
local macro_rules | `(tactic| walk_at "b0") => `(tactic| with_reducible refine' c_is_wholeI ?_)
local macro_rules | `(tactic| walk_at "b0") => `(tactic| with_reducible refine' c_flipped ?_)
local macro_rules | `(tactic| walk_at "b0") => `(tactic| ((with_reducible refine' c_is_right_row ?hl ?_); (case hl => walk_at "len")))
local macro_rules | `(tactic| walk_at "b0") => `(tactic| ((with_reducible refine' c_asked_row ?hl ?_); (case hl => walk_at "len")))
local macro_rules | `(tactic| walk_at "b0") => `(tactic| ((with_reducible refine' c_depths ?hl ?_); (case hl => walk_at "len")))
local macro_rules | `(tactic| walk_at "b0") => `(tactic| ((with_reducible refine' c_is_right ?hl ?_); (case hl => walk_at "len")))
local macro_rules | `(tactic| walk_at "b0") => `(tactic| ((with_reducible refine' c__law_depths ?hl ?_); (case hl => walk_at "len")))
local macro_rules | `(tactic| walk_at "b0") => `(tactic| ((with_reducible refine' c__law_good ?hl ?_); (case hl => walk_at "len")))
local macro_rules | `(tactic| walk_at "b0") => `(tactic| ((with_reducible refine' wl_listOf ?hx ?_); (case hx => walk_at "isl")))
local macro_rules | `(tactic| walk_at "b0") => `(tactic| with_reducible refine' w2_notB ?_)
local macro_rules | `(tactic| walk_at "own") => `(tactic| exact own_l (by walk_at "mem"))
local macro_rules | `(tactic| walk_at "b0") => `(tactic| with_reducible refine' we_fld ?_)
local macro_rules | `(tactic| walk_at "b0") => `(tactic| refine ⟨_, _, _, _, _, rfl, own_l (by walk_at "mem"), Grw.cl (by assumption), Grw.nr (by assumption), by rfl, ?_⟩)
local macro_rules | `(tactic| walk_at "b0") => `(tactic| refine ⟨_, _, _, _, _, rfl, fun H' o => o.ex _ _ (by assumption), Grw.cl (by assumption), Grw.nr (by assumption), by rfl, ?_⟩)
local macro_rules | `(tactic| walk_at "b0") => `(tactic| with_reducible refine' we_meth ?_)
local macro_rules | `(tactic| walk_at "b0") => `(tactic| refine ⟨_, _, _, rfl, own_l (by walk_at "mem"), by rfl, ?_⟩)
local macro_rules | `(tactic| walk_at "b0") => `(tactic| refine ⟨_, _, _, rfl, fun H' o => o.ex _ _ (by assumption), by rfl, ?_⟩)
local macro_rules | `(tactic| walk_at "gown") => `(tactic| first | exact own_l (by walk_at "mem") | exact fun H' o => o.ex _ _ (by assumption))
local macro_rules | `(tactic| walk_at "b0") => `(tactic| with_reducible refine' wm_countT ?_)
local macro_rules | `(tactic| walk_at "b0") => `(tactic| with_reducible refine' we_methU ?_)
end BM
namespace BM
open PySem PySem.Spec PyProof.Rows L2 Evl
/-! ### two ledgers, one behind another; a new beginning -/
section
variable {H0 : Hp} {σ : L2.St} {s : Ld} {te : TE} {t : TS} {D : Dl} {Q : V → Ld → Prop}
theorem ws_nd (h : (s.L.map (·.1)).Nodup → WS H0 t σ s D) : WS H0 t σ s D := fun H o => h o.nd H o
theorem we_nd (h : (s.L.map (·.1)).Nodup → WE H0 te σ s Q) : WE H0 te σ s Q := fun H o => h o.nd H o
theorem swap_mem {p : Addr} {o : HO} (o' : HO) : ∀ {L : List (Addr × HO)}, (p, o) ∈ L → (L.map (·.1)).Nodup → ∃ L', Swap p o o' L L' ∧ (p, o') ∈ L' ∧ ∀ e ∈ L, e.1 ≠ p → e ∈ L'
  | e :: L, h, nd => by
    have nd' := List.nodup_cons.mp nd
    by_cases he : e = (p, o)
    · subst he
      exact ⟨_, .here, List.mem_cons_self, fun e he hne => by
        rcases List.mem_cons.mp he with rfl | he
        · exact absurd rfl hne
        · exact List.mem_cons_of_mem _ he⟩
    · have h2 : (p, o) ∈ L := by
        rcases List.mem_cons.mp h with h | h
        · exact absurd h.symm he
        · exact h
      obtain ⟨L', h3, h4, h5⟩ := swap_mem o' h2 nd'.2
      exact ⟨_, .there h3, List.mem_cons_of_mem _ h4, fun x hx hne => by
        rcases List.mem_cons.mp hx with rfl | hx
        · exact List.mem_cons_self
        · exact List.mem_cons_of_mem _ (h5 x hx hne)⟩
end
/-! ### a method of one of several classes -/
section
variable {X : Cx} {CX : CXT} {E : XK} {m : Str} {pos apos : Pos} {e o : Expr} {es : List Expr} {ta : TE} {t : TA}
def tMethN (Z : List (Addr × Sp)) (m : Str) (E : XK) (ta : TE) (t : TA) : TE := fun σ H Q => ta σ H fun x H1 => ∃ a C dx fs sp, x = .ref a ∧ H1 a = some (.ins C dx fs) ∧ fs.lookup m = none ∧ (C, sp) ∈ Z ∧ t σ H1 fun vs H2 => sp (x :: vs) H2 Q E
end
section
variable {K : PySem.W.Frag} {H0 : Hp} {σ : L2.St} {s : Ld} {ta : TA} {te : TE} {Q : V → Ld → Prop} {m : Str} {E : XK} {Z : List (Addr × Sp)}
theorem we_methN (h : WE H0 te σ s fun x s1 => ∃ a C dx fs sp, x = .ref a ∧ (∀ H, Own H0 H s1 → H a = some (.ins C dx fs)) ∧ fs.lookup m = none ∧ (C, sp) ∈ Z ∧ WA H0 ta σ s1 fun vs s2 => WC H0 sp E (x :: vs) s2 Q) : WE H0 (tMethN Z m E te ta) σ s Q := fun H o R k =>
  h H o _ fun x H1 s1 o1 ⟨a, C, dx, fs, sp, e, ha, hl, hm, h1⟩ => ⟨a, C, dx, fs, sp, e, ha H1 o1, hl, hm, h1 H1 o1 _ fun vs H2 s2 o2 h2 => h2 H2 o2 R k⟩
/-! ### lists of two things compared -/
end
/-! ### any answer -/
end BM
namespace BM
open PySem L2 Evl
local macro_rules | `(tactic| walk_at "mem") => `(tactic| first | exact List.mem_cons_self | (refine List.mem_cons_of_mem _ ?_; walk_at "mem"))
local macro_rules | `(tactic| walk_at "swap") => `(tactic| first | exact Swap.here | (apply Swap.there; walk_at "swap"))
local macro_rules | `(tactic| walk_at "subl") => `(tactic| first | exact List.Sublist.refl _ | exact List.nil_sublist _ | (refine List.Sublist.cons_cons _ ?_; walk_at "subl") | (refine List.Sublist.cons _ ?_; walk_at "subl"))
local macro_rules | `(tactic| walk_at "sub") => `(tactic| first | exact Sub.refl _ | (refine ⟨?_, ?_⟩ <;> walk_at "subl"))
local macro_rules | `(tactic| walk_at "isl") => `(tactic| first | exact isL_own (by walk_at "mem") | exact isL_old (by assumption) | assumption)
local macro_rules | `(tactic| walk_at "ist") => `(tactic| first | exact isT_own (by walk_at "mem") | exact isT_old (by assumption) | assumption)
local macro_rules | `(tactic| walk_at "len") => `(tactic| first | omega | decide | (simp only [List.length_map, List.length_take, List.length_drop, List.length_append, List.length_cons, List.length_nil, List.length_reverse, dps_len, flp_len]; omega) | (simp [dps_len, flp_len]; omega) | simp)
local macro_rules | `(tactic| walk_at "b0") => `(tactic| first
  | with_reducible refine' ws_set ?_
  | with_reducible refine' ws_par ?_
  | with_reducible refine' ws_asg ?_
  | with_reducible refine' ws_drop ?_
  | with_reducible refine' ws_ret ?_
  | with_reducible refine' ws_if ?_
  | with_reducible refine' ws_next ?_
  | with_reducible refine' ws_brk ?_
  | with_reducible refine' ws_cont ?_
  | ((with_reducible refine' we_var ?hv ?_); case hv => rfl)
  | with_reducible refine' we_c ?_
  | with_reducible refine' we_op ?_
  | with_reducible refine' we_un ?_
  | with_reducible refine' we_if ?_
  | with_reducible refine' we_and ?_
  | with_reducible refine' we_or ?_
  | with_reducible refine' we_not ?_
  | with_reducible refine' wa_nil ?_
  | with_reducible refine' wa_cons ?_
  | (with_reducible refine' we_lst ?_)
  | (with_reducible refine' we_tup ?_)
  | with_reducible refine' we_cb ?_
  | with_reducible refine' we_call0 ?_
  | with_reducible refine' we_sl ?_
  | with_reducible refine' wo_none ?_
  | (with_reducible refine' wo_some ?_)
  | with_reducible refine' wt_test ?_
  | with_reducible refine' wt_B ?_
  | with_reducible refine' wt_and ?_
  | with_reducible refine' wt_or ?_
  | with_reducible refine' wt_not ?_
  | with_reducible refine' wt_yes ?_
  | with_reducible refine' we_chain ?_
  | with_reducible refine' we_chain3 ?_
  | with_reducible refine' we_revT ?_
  | with_reducible refine' we_revL ?_
  | with_reducible refine' we_bm ?_
  | with_reducible refine' we_bm0 ?_
  | with_reducible refine' ws_for ?_
  | with_reducible refine' we_lc ?_
  | with_reducible refine' wi_list ?_
  | with_reducible refine' wi_tup ?_
  | with_reducible refine' wi_T ?_
  | with_reducible refine' wi_rng1 ?_
  | with_reducible refine' wi_rng2 ?_
  | with_reducible refine' wi_rng3 ?_
  | with_reducible refine' wi_enum ?_
  | with_reducible refine' wi_enumT ?_
  | with_reducible refine' wi_zip ?_
  | with_reducible refine' wg_name ?_
  | with_reducible refine' wg_sub ?_
  | with_reducible refine' wgs_nil ?_
  | with_reducible refine' wgs_cons ?_
  | ((with_reducible refine' wg_tup ?ht ?hn ?_); (case ht => walk_at "ist"); (case hn => rfl))
  | with_reducible refine' w2_add ?_
  | with_reducible refine' w2_sub ?_
  | with_reducible refine' w2_lt ?_
  | with_reducible refine' w2_le ?_
  | with_reducible refine' w2_gt ?_
  | with_reducible refine' w2_ge ?_
  | with_reducible refine' w2_eqI ?_
  | with_reducible refine' w2_neI ?_
  | with_reducible refine' w2_eqT ?_
  | with_reducible refine' w2_neT ?_
  | with_reducible refine' w2_eqB ?_
  | with_reducible refine' w2_neB ?_
  | with_reducible refine' w2_isN ?_
  | with_reducible refine' w2_notN ?_
  | with_reducible refine' w2_isB ?_
  | with_reducible refine' w2_inT ?_
  | with_reducible refine' w1_neg ?_
  | with_reducible refine' wl_abs ?_
  | with_reducible refine' wl_max2 ?_
  | with_reducible refine' wl_min2 ?_
  | with_reducible refine' wl_intB ?_
  | ((with_reducible refine' w2_div ?h ?_); case h => first | omega | (constructor <;> omega))
  | ((with_reducible refine' w2_mod ?h ?_); case h => omega)
  | ((with_reducible refine' w2_catT ?h ?_); case h => walk_at "len")
  | ((with_reducible refine' wsl_T ?h ?_); case h => walk_at "len")
  | ((with_reducible refine' wl_lenT ?h ?_); case h => walk_at "len")
  | ((with_reducible refine' wl_len ?h ?_); case h => walk_at "isl")
  | ((with_reducible refine' wl_len ?h ?_); case h => walk_at "isl")
  | ((with_reducible refine' wm_append ?sw ?hl ?_); (case sw => walk_at "swap"); (case hl => walk_at "len")))
local macro_rules | `(tactic| walk_at "b1") => `(tactic| first | with_reducible refine' ws_seq ?_ | walk_at "b0")
local macro_rules | `(tactic| walk_at "bx") => `(tactic| first
  | refine ⟨_, rfl, ?_⟩
  | refine ⟨_, _, rfl, ?_⟩
  | refine ⟨ty_L (by walk_at "isl"), ?_⟩
  | refine ⟨ty_S, ?_⟩
  | refine spl_t (by rfl) ?_
  | refine spl_f (by rfl) ?_
  | exact rfl)
local macro_rules | `(tactic| walk_at "bm") => `(tactic| repeat (first | walk_at "b1" | walk_at "bx"))
local macro_rules | `(tactic| walk_at "bn") => `(tactic| repeat (first | walk_at "b0" | walk_at "bx"))
local macro_rules | `(tactic| walk_at "b0") => `(tactic| with_reducible refine' c_deepens ?_)
local macro_rules | `(tactic| walk_at "b0") => `(tactic| ((with_reducible refine' c_depths_of ?hl ?_); (case hl => walk_at "len")))
local macro_rules | `(tactic| walk_at "b0") => `(tactic| with_reducible refine' c_is_wholeI ?_)
local macro_rules | `(tactic| walk_at "b0") => `(tactic| with_reducible refine' c_flipped ?_)
local macro_rules | `(tactic| walk_at "b0") => `(tactic| ((with_reducible refine' c_is_right_row ?hl ?_); (case hl => walk_at "len")))
local macro_rules | `(tactic| walk_at "b0") => `(tactic| ((with_reducible refine' c_asked_row ?hl ?_); (case hl => walk_at "len")))
local macro_rules | `(tactic| walk_at "b0") => `(tactic| ((with_reducible refine' c_depths ?hl ?_); (case hl => walk_at "len")))
local macro_rules | `(tactic| walk_at "b0") => `(tactic| ((with_reducible refine' c_is_right ?hl ?_); (case hl => walk_at "len")))
local macro_rules | `(tactic| walk_at "b0") => `(tactic| ((with_reducible refine' c__law_depths ?hl ?_); (case hl => walk_at "len")))
local macro_rules | `(tactic| walk_at "b0") => `(tactic| ((with_reducible refine' c__law_good ?hl ?_); (case hl => walk_at "len")))
local macro_rules | `(tactic| walk_at "b0") => `(tactic| ((with_reducible refine' wl_listOf ?hx ?_); (case hx => walk_at "isl")))
local macro_rules | `(tactic| walk_at "b0") => `(tactic| with_reducible refine' w2_notB ?_)
local macro_rules | `(tactic| walk_at "own") => `(tactic| exact own_l (by walk_at "mem"))
local macro_rules | `(tactic| walk_at "b0") => `(tactic| with_reducible refine' we_fld ?_)
local macro_rules | `(tactic| walk_at "b0") => `(tactic| refine ⟨_, _, _, _, _, rfl, own_l (by walk_at "mem"), Grw.cl (by assumption), Grw.nr (by assumption), by rfl, ?_⟩)
local macro_rules | `(tactic| walk_at "b0") => `(tactic| refine ⟨_, _, _, _, _, rfl, fun H' o => o.ex _ _ (by assumption), Grw.cl (by assumption), Grw.nr (by assumption), by rfl, ?_⟩)
local macro_rules | `(tactic| walk_at "b0") => `(tactic| with_reducible refine' we_meth ?_)
local macro_rules | `(tactic| walk_at "b0") => `(tactic| refine ⟨_, _, _, rfl, own_l (by walk_at "mem"), by rfl, ?_⟩)
local macro_rules | `(tactic| walk_at "b0") => `(tactic| refine ⟨_, _, _, rfl, fun H' o => o.ex _ _ (by assumption), by rfl, ?_⟩)
local macro_rules | `(tactic| walk_at "gown") => `(tactic| first | exact own_l (by walk_at "mem") | exact fun H' o => o.ex _ _ (by assumption))
local macro_rules | `(tactic| walk_at "b0") => `(tactic| with_reducible refine' wm_countT ?_)
local macro_rules | `(tactic| walk_at "b0") => `(tactic| with_reducible refine' we_methU ?_)
local macro_rules | `(tactic| walk_at "b0") => `(tactic| with_reducible refine' we_methN ?_)
end BM
namespace BM
open PySem L2 Evl
local macro_rules | `(tactic| walk_at "mem") => `(tactic| first | exact List.mem_cons_self | (refine List.mem_cons_of_mem _ ?_; walk_at "mem"))
local macro_rules | `(tactic| walk_at "swap") => `(tactic| first | exact Swap.here | (apply Swap.there; walk_at "swap"))
local macro_rules | `(tactic| walk_at "subl") => `(tactic| first | exact List.Sublist.refl _ | exact List.nil_sublist _ | (refine List.Sublist.cons_cons _ ?_; walk_at "subl") | (refine List.Sublist.cons _ ?_; walk_at "subl"))
local macro_rules | `(tactic| walk_at "sub") => `(tactic| first | exact Sub.refl _ | (refine ⟨?_, ?_⟩ <;> walk_at "subl"))
local macro_rules | `(tactic| walk_at "isl") => `(tactic| first | exact isL_own (by walk_at "mem") | exact isL_old (by assumption) | assumption)
local macro_rules | `(tactic| walk_at "ist") => `(tactic| first | exact isT_own (by walk_at "mem") | exact isT_old (by assumption) | assumption)
local macro_rules | `(tactic| walk_at "len") => `(tactic| first | omega | decide | (simp only [List.length_map, List.length_take, List.length_drop, List.length_append, List.length_cons, List.length_nil, List.length_reverse, dps_len, flp_len]; omega) | (simp [dps_len, flp_len]; omega) | simp)
local macro_rules | `(tactic| walk_at "b0") => `(tactic| first
  | with_reducible refine' ws_set ?_
  | with_reducible refine' ws_par ?_
  | with_reducible refine' ws_asg ?_
  | with_reducible refine' ws_drop ?_
  | with_reducible refine' ws_ret ?_
  | with_reducible refine' ws_if ?_
  | with_reducible refine' ws_next ?_
  | with_reducible refine' ws_brk ?_
  | with_reducible refine' ws_cont ?_
  | ((with_reducible refine' we_var ?hv ?_); case hv => rfl)
  | with_reducible refine' we_c ?_
  | with_reducible refine' we_op ?_
  | with_reducible refine' we_un ?_
  | with_reducible refine' we_if ?_
  | with_reducible refine' we_and ?_
  | with_reducible refine' we_or ?_
  | with_reducible refine' we_not ?_
  | with_reducible refine' wa_nil ?_
  | with_reducible refine' wa_cons ?_
  | (with_reducible refine' we_lst ?_)
  | (with_reducible refine' we_tup ?_)
  | with_reducible refine' we_cb ?_
  | with_reducible refine' we_call0 ?_
  | with_reducible refine' we_sl ?_
  | with_reducible refine' wo_none ?_
  | (with_reducible refine' wo_some ?_)
  | with_reducible refine' wt_test ?_
  | with_reducible refine' wt_B ?_
  | with_reducible refine' wt_and ?_
  | with_reducible refine' wt_or ?_
  | with_reducible refine' wt_not ?_
  | with_reducible refine' wt_yes ?_
  | with_reducible refine' we_chain ?_
  | with_reducible refine' we_chain3 ?_
  | with_reducible refine' we_revT ?_
  | with_reducible refine' we_revL ?_
  | with_reducible refine' we_bm ?_
  | with_reducible refine' we_bm0 ?_
  | with_reducible refine' ws_for ?_
  | with_reducible refine' we_lc ?_
  | with_reducible refine' wi_list ?_
  | with_reducible refine' wi_tup ?_
  | with_reducible refine' wi_T ?_
  | with_reducible refine' wi_rng1 ?_
  | with_reducible refine' wi_rng2 ?_
  | with_reducible refine' wi_rng3 ?_
  | with_reducible refine' wi_enum ?_
  | with_reducible refine' wi_enumT ?_
  | with_reducible refine' wi_zip ?_
  | with_reducible refine' wg_name ?_
  | with_reducible refine' wg_sub ?_
  | with_reducible refine' wgs_nil ?_
  | with_reducible refine' wgs_cons ?_
  | ((with_reducible refine' wg_tup ?ht ?hn ?_); (case ht => walk_at "ist"); (case hn => rfl))
  | with_reducible refine' w2_add ?_
  | with_reducible refine' w2_sub ?_
  | with_reducible refine' w2_lt ?_
  | with_reducible refine' w2_le ?_
  | with_reducible refine' w2_gt ?_
  | with_reducible refine' w2_ge ?_
  | with_reducible refine' w2_eqI ?_
  | with_reducible refine' w2_neI ?_
  | with_reducible refine' w2_eqT ?_
  | with_reducible refine' w2_neT ?_
  | with_reducible refine' w2_eqB ?_
  | with_reducible refine' w2_neB ?_
  | with_reducible refine' w2_isN ?_
  | with_reducible refine' w2_notN ?_
  | with_reducible refine' w2_isB ?_
  | with_reducible refine' w2_inT ?_
  | with_reducible refine' w1_neg ?_
  | with_reducible refine' wl_abs ?_
  | with_reducible refine' wl_max2 ?_
  | with_reducible refine' wl_min2 ?_
  | with_reducible refine' wl_intB ?_
  | ((with_reducible refine' w2_div ?h ?_); case h => first | omega | (constructor <;> omega))
  | ((with_reducible refine' w2_mod ?h ?_); case h => omega)
  | ((with_reducible refine' w2_catT ?h ?_); case h => walk_at "len")
  | ((with_reducible refine' wsl_T ?h ?_); case h => walk_at "len")
  | ((with_reducible refine' wl_lenT ?h ?_); case h => walk_at "len")
  | ((with_reducible refine' wl_len ?h ?_); case h => walk_at "isl")
  | ((with_reducible refine' wl_len ?h ?_); case h => walk_at "isl")
  | ((with_reducible refine' wm_append ?sw ?hl ?_); (case sw => walk_at "swap"); (case hl => walk_at "len")))
local macro_rules | `(tactic| walk_at "b1") => `(tactic| first | with_reducible refine' ws_seq ?_ | walk_at "b0")
local macro_rules | `(tactic| walk_at "bx") => `(tactic| first
  | refine ⟨_, rfl, ?_⟩
  | refine ⟨_, _, rfl, ?_⟩
  | refine ⟨ty_L (by walk_at "isl"), ?_⟩
  | refine ⟨ty_S, ?_⟩
  | refine spl_t (by rfl) ?_
  | refine spl_f (by rfl) ?_
  | exact rfl)
local macro_rules | `(tactic| walk_at "bm") => `(tactic| repeat (first | walk_at "b1" | walk_at "bx"))
local macro_rules | `(tactic| walk_at "bn") => `(tactic| repeat (first | walk_at "b0" | walk_at "bx"))
local macro_rules | `(tactic| walk_at "b0") => `(tactic| with_reducible refine' c_deepens ?_)
local macro_rules | `(tactic| walk_at "b0") => `(tactic| ((with_reducible refine' c_depths_of ?hl ?_); (case hl => walk_at "len")))
local macro_rules | `(tactic| walk_at "b0") => `(tactic| with_reducible refine' c_is_wholeI ?_)
local macro_rules | `(tactic| walk_at "b0") => `(tactic| with_reducible refine' c_flipped ?_)
local macro_rules | `(tactic| walk_at "b0") => `(tactic| ((with_reducible refine' c_is_right_row ?hl ?_); (case hl => walk_at "len")))
local macro_rules | `(tactic| walk_at "b0") => `(tactic| ((with_reducible refine' c_asked_row ?hl ?_); (case hl => walk_at "len")))
local macro_rules | `(tactic| walk_at "b0") => `(tactic| ((with_reducible refine' c_depths ?hl ?_); (case hl => walk_at "len")))
local macro_rules | `(tactic| walk_at "b0") => `(tactic| ((with_reducible refine' c_is_right ?hl ?_); (case hl => walk_at "len")))
local macro_rules | `(tactic| walk_at "b0") => `(tactic| ((with_reducible refine' c__law_depths ?hl ?_); (case hl => walk_at "len")))
local macro_rules | `(tactic| walk_at "b0") => `(tactic| ((with_reducible refine' c__law_good ?hl ?_); (case hl => walk_at "len")))
local macro_rules | `(tactic| walk_at "b0") => `(tactic| ((with_reducible refine' wl_listOf ?hx ?_); (case hx => walk_at "isl")))
local macro_rules | `(tactic| walk_at "b0") => `(tactic| with_reducible refine' w2_notB ?_)
local macro_rules | `(tactic| walk_at "own") => `(tactic| exact own_l (by walk_at "mem"))
local macro_rules | `(tactic| walk_at "b0") => `(tactic| with_reducible refine' we_fld ?_)
local macro_rules | `(tactic| walk_at "b0") => `(tactic| refine ⟨_, _, _, _, _, rfl, own_l (by walk_at "mem"), Grw.cl (by assumption), Grw.nr (by assumption), by rfl, ?_⟩)
local macro_rules | `(tactic| walk_at "b0") => `(tactic| refine ⟨_, _, _, _, _, rfl, fun H' o => o.ex _ _ (by assumption), Grw.cl (by assumption), Grw.nr (by assumption), by rfl, ?_⟩)
local macro_rules | `(tactic| walk_at "b0") => `(tactic| with_reducible refine' we_meth ?_)
local macro_rules | `(tactic| walk_at "b0") => `(tactic| refine ⟨_, _, _, rfl, own_l (by walk_at "mem"), by rfl, ?_⟩)
local macro_rules | `(tactic| walk_at "b0") => `(tactic| refine ⟨_, _, _, rfl, fun H' o => o.ex _ _ (by assumption), by rfl, ?_⟩)
local macro_rules | `(tactic| walk_at "gown") => `(tactic| first | exact own_l (by walk_at "mem") | exact fun H' o => o.ex _ _ (by assumption))
local macro_rules | `(tactic| walk_at "b0") => `(tactic| with_reducible refine' wm_countT ?_)
local macro_rules | `(tactic| walk_at "b0") => `(tactic| with_reducible refine' we_methU ?_)
/-- a list of lists: each is new or stood before, and is so -/
def RowsG (O : Addr → List V → Prop) (f : Addr) (xs : List V) (s : Ld) (G : List (Addr × List V) → List V → Prop) : Prop := (f, HO.lst xs) ∈ s.L ∧ ∀ x ∈ xs, ∃ u ys, x = V.ref u ∧ G s.T ys ∧ (((u, HO.lst ys) ∈ s.L ∧ u ≠ f) ∨ O u ys)
/-- the new list's place is no other -/
theorem new_ne {p f : Addr} {o o' : HO} {L : List (Addr × HO)} (nd : (((p, o) :: L).map (·.1)).Nodup) (h : (f, o') ∈ L) : p ≠ f := fun e => (List.nodup_cons.mp nd).1 (by rw [e]; exact List.mem_map.mpr ⟨_, h, rfl⟩)
local macro_rules | `(tactic| walk_at "mem") => `(tactic| assumption)
end BM
namespace BM
open PySem L2 Evl
local macro_rules | `(tactic| walk_at "mem") => `(tactic| first | exact List.mem_cons_self | (refine List.mem_cons_of_mem _ ?_; walk_at "mem"))
local macro_rules | `(tactic| walk_at "swap") => `(tactic| first | exact Swap.here | (apply Swap.there; walk_at "swap"))
local macro_rules | `(tactic| walk_at "subl") => `(tactic| first | exact List.Sublist.refl _ | exact List.nil_sublist _ | (refine List.Sublist.cons_cons _ ?_; walk_at "subl") | (refine List.Sublist.cons _ ?_; walk_at "subl"))
local macro_rules | `(tactic| walk_at "sub") => `(tactic| first | exact Sub.refl _ | (refine ⟨?_, ?_⟩ <;> walk_at "subl"))
local macro_rules | `(tactic| walk_at "isl") => `(tactic| first | exact isL_own (by walk_at "mem") | exact isL_old (by assumption) | assumption)
local macro_rules | `(tactic| walk_at "ist") => `(tactic| first | exact isT_own (by walk_at "mem") | exact isT_old (by assumption) | assumption)
local macro_rules | `(tactic| walk_at "len") => `(tactic| first | omega | decide | (simp only [List.length_map, List.length_take, List.length_drop, List.length_append, List.length_cons, List.length_nil, List.length_reverse, dps_len, flp_len]; omega) | (simp [dps_len, flp_len]; omega) | simp)
local macro_rules | `(tactic| walk_at "b0") => `(tactic| first
  | with_reducible refine' ws_set ?_
  | with_reducible refine' ws_par ?_
  | with_reducible refine' ws_asg ?_
  | with_reducible refine' ws_drop ?_
  | with_reducible refine' ws_ret ?_
  | with_reducible refine' ws_if ?_
  | with_reducible refine' ws_next ?_
  | with_reducible refine' ws_brk ?_
  | with_reducible refine' ws_cont ?_
  | ((with_reducible refine' we_var ?hv ?_); case hv => rfl)
  | with_reducible refine' we_c ?_
  | with_reducible refine' we_op ?_
  | with_reducible refine' we_un ?_
  | with_reducible refine' we_if ?_
  | with_reducible refine' we_and ?_
  | with_reducible refine' we_or ?_
  | with_reducible refine' we_not ?_
  | with_reducible refine' wa_nil ?_
  | with_reducible refine' wa_cons ?_
  | (with_reducible refine' we_lst ?_)
  | (with_reducible refine' we_tup ?_)
  | with_reducible refine' we_cb ?_
  | with_reducible refine' we_call0 ?_
  | with_reducible refine' we_sl ?_
  | with_reducible refine' wo_none ?_
  | (with_reducible refine' wo_some ?_)
  | with_reducible refine' wt_test ?_
  | with_reducible refine' wt_B ?_
  | with_reducible refine' wt_and ?_
  | with_reducible refine' wt_or ?_
  | with_reducible refine' wt_not ?_
  | with_reducible refine' wt_yes ?_
  | with_reducible refine' we_chain ?_
  | with_reducible refine' we_chain3 ?_
  | with_reducible refine' we_revT ?_
  | with_reducible refine' we_revL ?_
  | with_reducible refine' we_bm ?_
  | with_reducible refine' we_bm0 ?_
  | with_reducible refine' ws_for ?_
  | with_reducible refine' we_lc ?_
  | with_reducible refine' wi_list ?_
  | with_reducible refine' wi_tup ?_
  | with_reducible refine' wi_T ?_
  | with_reducible refine' wi_rng1 ?_
  | with_reducible refine' wi_rng2 ?_
  | with_reducible refine' wi_rng3 ?_
  | with_reducible refine' wi_enum ?_
  | with_reducible refine' wi_enumT ?_
  | with_reducible refine' wi_zip ?_
  | with_reducible refine' wg_name ?_
  | with_reducible refine' wg_sub ?_
  | with_reducible refine' wgs_nil ?_
  | with_reducible refine' wgs_cons ?_
  | ((with_reducible refine' wg_tup ?ht ?hn ?_); (case ht => walk_at "ist"); (case hn => rfl))
  | with_reducible refine' w2_add ?_
  | with_reducible refine' w2_sub ?_
  | with_reducible refine' w2_lt ?_
  | with_reducible refine' w2_le ?_
  | with_reducible refine' w2_gt ?_
  | with_reducible refine' w2_ge ?_
  | with_reducible refine' w2_eqI ?_
  | with_reducible refine' w2_neI ?_
  | with_reducible refine' w2_eqT ?_
  | with_reducible refine' w2_neT ?_
  | with_reducible refine' w2_eqB ?_
  | with_reducible refine' w2_neB ?_
  | with_reducible refine' w2_isN ?_
  | with_reducible refine' w2_notN ?_
  | with_reducible refine' w2_isB ?_
  | with_reducible refine' w2_inT ?_
  | with_reducible refine' w1_neg ?_
  | with_reducible refine' wl_abs ?_
  | with_reducible refine' wl_max2 ?_
  | with_reducible refine' wl_min2 ?_
  | with_reducible refine' wl_intB ?_
  | ((with_reducible refine' w2_div ?h ?_); case h => first | omega | (constructor <;> omega))
  | ((with_reducible refine' w2_mod ?h ?_); case h => omega)
  | ((with_reducible refine' w2_catT ?h ?_); case h => walk_at "len")
  | ((with_reducible refine' wsl_T ?h ?_); case h => walk_at "len")
  | ((with_reducible refine' wl_lenT ?h ?_); case h => walk_at "len")
  | ((with_reducible refine' wl_len ?h ?_); case h => walk_at "isl")
  | ((with_reducible refine' wl_len ?h ?_); case h => walk_at "isl")
  | ((with_reducible refine' wm_append ?sw ?hl ?_); (case sw => walk_at "swap"); (case hl => walk_at "len")))
local macro_rules | `(tactic| walk_at "b1") => `(tactic| first | with_reducible refine' ws_seq ?_ | walk_at "b0")
local macro_rules | `(tactic| walk_at "bx") => `(tactic| first
  | refine ⟨_, rfl, ?_⟩
  | refine ⟨_, _, rfl, ?_⟩
  | refine ⟨ty_L (by walk_at "isl"), ?_⟩
  | refine ⟨ty_S, ?_⟩
  | refine spl_t (by rfl) ?_
  | refine spl_f (by rfl) ?_
  | exact rfl)
local macro_rules | `(tactic| walk_at "bm") => `(tactic| repeat (first | walk_at "b1" | walk_at "bx"))
local macro_rules | `(tactic| walk_at "bn") => `(tactic| repeat (first | walk_at "b0" | walk_at "bx"))
local macro_rules | `(tactic| walk_at "b0") => `(tactic| with_reducible refine' c_deepens ?_)
local macro_rules | `(tactic| walk_at "b0") => `(tactic| ((with_reducible refine' c_depths_of ?hl ?_); (case hl => walk_at "len")))
local macro_rules | `(tactic| walk_at "b0") => `(tactic| with_reducible refine' c_is_wholeI ?_)
local macro_rules | `(tactic| walk_at "b0") => `(tactic| with_reducible refine' c_flipped ?_)
local macro_rules | `(tactic| walk_at "b0") => `(tactic| ((with_reducible refine' c_is_right_row ?hl ?_); (case hl => walk_at "len")))
local macro_rules | `(tactic| walk_at "b0") => `(tactic| ((with_reducible refine' c_asked_row ?hl ?_); (case hl => walk_at "len")))
local macro_rules | `(tactic| walk_at "b0") => `(tactic| ((with_reducible refine' c_depths ?hl ?_); (case hl => walk_at "len")))
local macro_rules | `(tactic| walk_at "b0") => `(tactic| ((with_reducible refine' c_is_right ?hl ?_); (case hl => walk_at "len")))
local macro_rules | `(tactic| walk_at "b0") => `(tactic| ((with_reducible refine' c__law_depths ?hl ?_); (case hl => walk_at "len")))
local macro_rules | `(tactic| walk_at "b0") => `(tactic| ((with_reducible refine' c__law_good ?hl ?_); (case hl => walk_at "len")))
local macro_rules | `(tactic| walk_at "b0") => `(tactic| ((with_reducible refine' wl_listOf ?hx ?_); (case hx => walk_at "isl")))
local macro_rules | `(tactic| walk_at "b0") => `(tactic| with_reducible refine' w2_notB ?_)
local macro_rules | `(tactic| walk_at "own") => `(tactic| exact own_l (by walk_at "mem"))
local macro_rules | `(tactic| walk_at "b0") => `(tactic| with_reducible refine' we_fld ?_)
local macro_rules | `(tactic| walk_at "b0") => `(tactic| refine ⟨_, _, _, _, _, rfl, own_l (by walk_at "mem"), Grw.cl (by assumption), Grw.nr (by assumption), by rfl, ?_⟩)
local macro_rules | `(tactic| walk_at "b0") => `(tactic| refine ⟨_, _, _, _, _, rfl, fun H' o => o.ex _ _ (by assumption), Grw.cl (by assumption), Grw.nr (by assumption), by rfl, ?_⟩)
local macro_rules | `(tactic| walk_at "b0") => `(tactic| with_reducible refine' we_meth ?_)
local macro_rules | `(tactic| walk_at "b0") => `(tactic| refine ⟨_, _, _, rfl, own_l (by walk_at "mem"), by rfl, ?_⟩)
local macro_rules | `(tactic| walk_at "b0") => `(tactic| refine ⟨_, _, _, rfl, fun H' o => o.ex _ _ (by assumption), by rfl, ?_⟩)
local macro_rules | `(tactic| walk_at "gown") => `(tactic| first | exact own_l (by walk_at "mem") | exact fun H' o => o.ex _ _ (by assumption))
local macro_rules | `(tactic| walk_at "b0") => `(tactic| with_reducible refine' wm_countT ?_)
local macro_rules | `(tactic| walk_at "b0") => `(tactic| with_reducible refine' we_methU ?_)
local macro_rules | `(tactic| walk_at "mem") => `(tactic| assumption)
/-- each is a pair, new or from before -/
def PM (H : Hp) (T : List (Addr × List V)) (xs : List V) : Prop := ∀ x ∈ xs, ∃ (t : Addr) (i j : Int), x = V.ref t ∧ ((t, [V.int i, V.int j]) ∈ T ∨ H t = some (.tup [V.int i, V.int j]))
theorem PM.sub {H : Hp} {T T' : List (Addr × List V)} {xs ys : List V} (h : PM H T xs) (hy : ∀ y ∈ ys, y ∈ xs) (hT : T ⊆ T') : PM H T' ys := fun y h1 => by
  obtain ⟨t, i, j, e, ht⟩ := h y (hy y h1)
  exact ⟨t, i, j, e, ht.imp (fun h => hT h) id⟩
theorem PM.nil {H : Hp} {T : List (Addr × List V)} : PM H T [] := fun y hy => by cases hy
theorem PM.cons {H : Hp} {T : List (Addr × List V)} {t : Addr} {i j : Int} {xs : List V} (h : (t, [V.int i, V.int j]) ∈ T) (r : PM H T xs) : PM H T (.ref t :: xs) := fun y hy => by
  rcases List.mem_cons.mp hy with rfl | hy
  · exact ⟨t, i, j, rfl, .inl h⟩
  · exact r y hy
def PrG (H : Hp) (n : Nat) (T : List (Addr × List V)) (ys : List V) : Prop := PM H T ys ∧ ys.length ≤ n
/-- a list of lists, as it was written -/
def RowsN (H : Hp) (xs : List V) (L : List (Addr × HO)) (T : List (Addr × List V)) (n : Nat) : Prop := ∀ x ∈ xs, ∃ (u : Addr) (ys : List V), x = V.ref u ∧ PrG H n T ys ∧ ((u, HO.lst ys) ∈ L ∨ H u = some (.lst ys))
theorem RowsN.nil {H : Hp} {L : List (Addr × HO)} {T : List (Addr × List V)} {n : Nat} : RowsN H [] L T n := fun x hx => by cases hx
theorem RowsN.cons {H : Hp} {L : List (Addr × HO)} {T : List (Addr × List V)} {n : Nat} {u : Addr} {ys xs : List V} (h1 : (u, HO.lst ys) ∈ L ∨ H u = some (.lst ys)) (h2 : PM H T ys) (h3 : ys.length ≤ n) (r : RowsN H xs L T n) : RowsN H (.ref u :: xs) L T n := fun x hx => by
  rcases List.mem_cons.mp hx with rfl | hx
  · exact ⟨u, ys, rfl, ⟨h2, h3⟩, h1⟩
  · exact r x hx
end BM
namespace BM
open PySem L2 Evl
local macro_rules | `(tactic| walk_at "mem") => `(tactic| first | exact List.mem_cons_self | (refine List.mem_cons_of_mem _ ?_; walk_at "mem"))
local macro_rules | `(tactic| walk_at "swap") => `(tactic| first | exact Swap.here | (apply Swap.there; walk_at "swap"))
local macro_rules | `(tactic| walk_at "subl") => `(tactic| first | exact List.Sublist.refl _ | exact List.nil_sublist _ | (refine List.Sublist.cons_cons _ ?_; walk_at "subl") | (refine List.Sublist.cons _ ?_; walk_at "subl"))
local macro_rules | `(tactic| walk_at "sub") => `(tactic| first | exact Sub.refl _ | (refine ⟨?_, ?_⟩ <;> walk_at "subl"))
local macro_rules | `(tactic| walk_at "isl") => `(tactic| first | exact isL_own (by walk_at "mem") | exact isL_old (by assumption) | assumption)
local macro_rules | `(tactic| walk_at "ist") => `(tactic| first | exact isT_own (by walk_at "mem") | exact isT_old (by assumption) | assumption)
local macro_rules | `(tactic| walk_at "len") => `(tactic| first | omega | decide | (simp only [List.length_map, List.length_take, List.length_drop, List.length_append, List.length_cons, List.length_nil, List.length_reverse, dps_len, flp_len]; omega) | (simp [dps_len, flp_len]; omega) | simp)
local macro_rules | `(tactic| walk_at "b0") => `(tactic| first
  | with_reducible refine' ws_set ?_
  | with_reducible refine' ws_par ?_
  | with_reducible refine' ws_asg ?_
  | with_reducible refine' ws_drop ?_
  | with_reducible refine' ws_ret ?_
  | with_reducible refine' ws_if ?_
  | with_reducible refine' ws_next ?_
  | with_reducible refine' ws_brk ?_
  | with_reducible refine' ws_cont ?_
  | ((with_reducible refine' we_var ?hv ?_); case hv => rfl)
  | with_reducible refine' we_c ?_
  | with_reducible refine' we_op ?_
  | with_reducible refine' we_un ?_
  | with_reducible refine' we_if ?_
  | with_reducible refine' we_and ?_
  | with_reducible refine' we_or ?_
  | with_reducible refine' we_not ?_
  | with_reducible refine' wa_nil ?_
  | with_reducible refine' wa_cons ?_
  | (with_reducible refine' we_lst ?_)
  | (with_reducible refine' we_tup ?_)
  | with_reducible refine' we_cb ?_
  | with_reducible refine' we_call0 ?_
  | with_reducible refine' we_sl ?_
  | with_reducible refine' wo_none ?_
  | (with_reducible refine' wo_some ?_)
  | with_reducible refine' wt_test ?_
  | with_reducible refine' wt_B ?_
  | with_reducible refine' wt_and ?_
  | with_reducible refine' wt_or ?_
  | with_reducible refine' wt_not ?_
  | with_reducible refine' wt_yes ?_
  | with_reducible refine' we_chain ?_
  | with_reducible refine' we_chain3 ?_
  | with_reducible refine' we_revT ?_
  | with_reducible refine' we_revL ?_
  | with_reducible refine' we_bm ?_
  | with_reducible refine' we_bm0 ?_
  | with_reducible refine' ws_for ?_
  | with_reducible refine' we_lc ?_
  | with_reducible refine' wi_list ?_
  | with_reducible refine' wi_tup ?_
  | with_reducible refine' wi_T ?_
  | with_reducible refine' wi_rng1 ?_
  | with_reducible refine' wi_rng2 ?_
  | with_reducible refine' wi_rng3 ?_
  | with_reducible refine' wi_enum ?_
  | with_reducible refine' wi_enumT ?_
  | with_reducible refine' wi_zip ?_
  | with_reducible refine' wg_name ?_
  | with_reducible refine' wg_sub ?_
  | with_reducible refine' wgs_nil ?_
  | with_reducible refine' wgs_cons ?_
  | ((with_reducible refine' wg_tup ?ht ?hn ?_); (case ht => walk_at "ist"); (case hn => rfl))
  | with_reducible refine' w2_add ?_
  | with_reducible refine' w2_sub ?_
  | with_reducible refine' w2_lt ?_
  | with_reducible refine' w2_le ?_
  | with_reducible refine' w2_gt ?_
  | with_reducible refine' w2_ge ?_
  | with_reducible refine' w2_eqI ?_
  | with_reducible refine' w2_neI ?_
  | with_reducible refine' w2_eqT ?_
  | with_reducible refine' w2_neT ?_
  | with_reducible refine' w2_eqB ?_
  | with_reducible refine' w2_neB ?_
  | with_reducible refine' w2_isN ?_
  | with_reducible refine' w2_notN ?_
  | with_reducible refine' w2_isB ?_
  | with_reducible refine' w2_inT ?_
  | with_reducible refine' w1_neg ?_
  | with_reducible refine' wl_abs ?_
  | with_reducible refine' wl_max2 ?_
  | with_reducible refine' wl_min2 ?_
  | with_reducible refine' wl_intB ?_
  | ((with_reducible refine' w2_div ?h ?_); case h => first | omega | (constructor <;> omega))
  | ((with_reducible refine' w2_mod ?h ?_); case h => omega)
  | ((with_reducible refine' w2_catT ?h ?_); case h => walk_at "len")
  | ((with_reducible refine' wsl_T ?h ?_); case h => walk_at "len")
  | ((with_reducible refine' wl_lenT ?h ?_); case h => walk_at "len")
  | ((with_reducible refine' wl_len ?h ?_); case h => walk_at "isl")
  | ((with_reducible refine' wl_len ?h ?_); case h => walk_at "isl")
  | ((with_reducible refine' wm_append ?sw ?hl ?_); (case sw => walk_at "swap"); (case hl => walk_at "len")))
local macro_rules | `(tactic| walk_at "b1") => `(tactic| first | with_reducible refine' ws_seq ?_ | walk_at "b0")
local macro_rules | `(tactic| walk_at "bx") => `(tactic| first
  | refine ⟨_, rfl, ?_⟩
  | refine ⟨_, _, rfl, ?_⟩
  | refine ⟨ty_L (by walk_at "isl"), ?_⟩
  | refine ⟨ty_S, ?_⟩
  | refine spl_t (by rfl) ?_
  | refine spl_f (by rfl) ?_
  | exact rfl)
local macro_rules | `(tactic| walk_at "bm") => `(tactic| repeat (first | walk_at "b1" | walk_at "bx"))
local macro_rules | `(tactic| walk_at "bn") => `(tactic| repeat (first | walk_at "b0" | walk_at "bx"))
local macro_rules | `(tactic| walk_at "b0") => `(tactic| with_reducible refine' c_deepens ?_)
local macro_rules | `(tactic| walk_at "b0") => `(tactic| ((with_reducible refine' c_depths_of ?hl ?_); (case hl => walk_at "len")))
local macro_rules | `(tactic| walk_at "b0") => `(tactic| with_reducible refine' c_is_wholeI ?_)
local macro_rules | `(tactic| walk_at "b0") => `(tactic| with_reducible refine' c_flipped ?_)
local macro_rules | `(tactic| walk_at "b0") => `(tactic| ((with_reducible refine' c_is_right_row ?hl ?_); (case hl => walk_at "len")))
local macro_rules | `(tactic| walk_at "b0") => `(tactic| ((with_reducible refine' c_asked_row ?hl ?_); (case hl => walk_at "len")))
local macro_rules | `(tactic| walk_at "b0") => `(tactic| ((with_reducible refine' c_depths ?hl ?_); (case hl => walk_at "len")))
local macro_rules | `(tactic| walk_at "b0") => `(tactic| ((with_reducible refine' c_is_right ?hl ?_); (case hl => walk_at "len")))
local macro_rules | `(tactic| walk_at "b0") => `(tactic| ((with_reducible refine' c__law_depths ?hl ?_); (case hl => walk_at "len")))
local macro_rules | `(tactic| walk_at "b0") => `(tactic| ((with_reducible refine' c__law_good ?hl ?_); (case hl => walk_at "len")))
local macro_rules | `(tactic| walk_at "b0") => `(tactic| ((with_reducible refine' wl_listOf ?hx ?_); (case hx => walk_at "isl")))
local macro_rules | `(tactic| walk_at "b0") => `(tactic| with_reducible refine' w2_notB ?_)
local macro_rules | `(tactic| walk_at "own") => `(tactic| exact own_l (by walk_at "mem"))
local macro_rules | `(tactic| walk_at "b0") => `(tactic| with_reducible refine' we_fld ?_)
local macro_rules | `(tactic| walk_at "b0") => `(tactic| refine ⟨_, _, _, _, _, rfl, own_l (by walk_at "mem"), Grw.cl (by assumption), Grw.nr (by assumption), by rfl, ?_⟩)
local macro_rules | `(tactic| walk_at "b0") => `(tactic| refine ⟨_, _, _, _, _, rfl, fun H' o => o.ex _ _ (by assumption), Grw.cl (by assumption), Grw.nr (by assumption), by rfl, ?_⟩)
local macro_rules | `(tactic| walk_at "b0") => `(tactic| with_reducible refine' we_meth ?_)
local macro_rules | `(tactic| walk_at "b0") => `(tactic| refine ⟨_, _, _, rfl, own_l (by walk_at "mem"), by rfl, ?_⟩)
local macro_rules | `(tactic| walk_at "b0") => `(tactic| refine ⟨_, _, _, rfl, fun H' o => o.ex _ _ (by assumption), by rfl, ?_⟩)
local macro_rules | `(tactic| walk_at "gown") => `(tactic| first | exact own_l (by walk_at "mem") | exact fun H' o => o.ex _ _ (by assumption))
local macro_rules | `(tactic| walk_at "b0") => `(tactic| with_reducible refine' wm_countT ?_)
local macro_rules | `(tactic| walk_at "b0") => `(tactic| with_reducible refine' we_methU ?_)
local macro_rules | `(tactic| walk_at "mem") => `(tactic| assumption)
theorem uniq_key {a : Addr} {o o' : HO} : ∀ {L : List (Addr × HO)}, (L.map (·.1)).Nodup → (a, o) ∈ L → (a, o') ∈ L → o = o'
  | e :: L, nd, h1, h2 => by
    have nd' := List.nodup_cons.mp nd
    rcases List.mem_cons.mp h1 with e1 | h1
    · rcases List.mem_cons.mp h2 with e2 | h2
      · rw [← e1] at e2
        exact (Prod.mk.inj e2).2.symm
      · exact absurd (List.mem_map.mpr ⟨_, h2, rfl⟩) (by rw [← e1] at nd'; exact nd'.1)
    · rcases List.mem_cons.mp h2 with e2 | h2
      · exact absurd (List.mem_map.mpr ⟨_, h1, rfl⟩) (by rw [← e2] at nd'; exact nd'.1)
      · exact uniq_key nd'.2 h1 h2
theorem RowsG.mono {O : Addr → List V → Prop} {f : Addr} {xs : List V} {s s1 : Ld} {G : List (Addr × List V) → List V → Prop} (h : RowsG O f xs s G) (hs : ∀ e ∈ s.L, e ∈ s1.L) (hG : ∀ ys, G s.T ys → G s1.T ys) : RowsG O f xs s1 G := ⟨hs _ h.1, fun x hx => by
  obtain ⟨u, ys, e, hg, hh⟩ := h.2 x hx
  exact ⟨u, ys, e, hG _ hg, hh.imp (fun h => ⟨hs _ h.1, h.2⟩) id⟩⟩
theorem PrG.mono {H : Hp} {n : Nat} {T T' : List (Addr × List V)} (h : ∀ e ∈ T, e ∈ T') {ys : List V} (g : PrG H n T ys) : PrG H n T' ys := ⟨g.1.sub (fun _ h => h) h, g.2⟩
end BM
namespace BM
open PySem L2 Evl
local macro_rules | `(tactic| walk_at "mem") => `(tactic| first | exact List.mem_cons_self | (refine List.mem_cons_of_mem _ ?_; walk_at "mem"))
local macro_rules | `(tactic| walk_at "swap") => `(tactic| first | exact Swap.here | (apply Swap.there; walk_at "swap"))
local macro_rules | `(tactic| walk_at "subl") => `(tactic| first | exact List.Sublist.refl _ | exact List.nil_sublist _ | (refine List.Sublist.cons_cons _ ?_; walk_at "subl") | (refine List.Sublist.cons _ ?_; walk_at "subl"))
local macro_rules | `(tactic| walk_at "sub") => `(tactic| first | exact Sub.refl _ | (refine ⟨?_, ?_⟩ <;> walk_at "subl"))
local macro_rules | `(tactic| walk_at "isl") => `(tactic| first | exact isL_own (by walk_at "mem") | exact isL_old (by assumption) | assumption)
local macro_rules | `(tactic| walk_at "ist") => `(tactic| first | exact isT_own (by walk_at "mem") | exact isT_old (by assumption) | assumption)
local macro_rules | `(tactic| walk_at "len") => `(tactic| first | omega | decide | (simp only [List.length_map, List.length_take, List.length_drop, List.length_append, List.length_cons, List.length_nil, List.length_reverse, dps_len, flp_len]; omega) | (simp [dps_len, flp_len]; omega) | simp)
local macro_rules | `(tactic| walk_at "b0") => `(tactic| first
  | with_reducible refine' ws_set ?_
  | with_reducible refine' ws_par ?_
  | with_reducible refine' ws_asg ?_
  | with_reducible refine' ws_drop ?_
  | with_reducible refine' ws_ret ?_
  | with_reducible refine' ws_if ?_
  | with_reducible refine' ws_next ?_
  | with_reducible refine' ws_brk ?_
  | with_reducible refine' ws_cont ?_
  | ((with_reducible refine' we_var ?hv ?_); case hv => rfl)
  | with_reducible refine' we_c ?_
  | with_reducible refine' we_op ?_
  | with_reducible refine' we_un ?_
  | with_reducible refine' we_if ?_
  | with_reducible refine' we_and ?_
  | with_reducible refine' we_or ?_
  | with_reducible refine' we_not ?_
  | with_reducible refine' wa_nil ?_
  | with_reducible refine' wa_cons ?_
  | (with_reducible refine' we_lst ?_)
  | (with_reducible refine' we_tup ?_)
  | with_reducible refine' we_cb ?_
  | with_reducible refine' we_call0 ?_
  | with_reducible refine' we_sl ?_
  | with_reducible refine' wo_none ?_
  | (with_reducible refine' wo_some ?_)
  | with_reducible refine' wt_test ?_
  | with_reducible refine' wt_B ?_
  | with_reducible refine' wt_and ?_
  | with_reducible refine' wt_or ?_
  | with_reducible refine' wt_not ?_
  | with_reducible refine' wt_yes ?_
  | with_reducible refine' we_chain ?_
  | with_reducible refine' we_chain3 ?_
  | with_reducible refine' we_revT ?_
  | with_reducible refine' we_revL ?_
  | with_reducible refine' we_bm ?_
  | with_reducible refine' we_bm0 ?_
  | with_reducible refine' ws_for ?_
  | with_reducible refine' we_lc ?_
  | with_reducible refine' wi_list ?_
  | with_reducible refine' wi_tup ?_
  | with_reducible refine' wi_T ?_
  | with_reducible refine' wi_rng1 ?_
  | with_reducible refine' wi_rng2 ?_
  | with_reducible refine' wi_rng3 ?_
  | with_reducible refine' wi_enum ?_
  | with_reducible refine' wi_enumT ?_
  | with_reducible refine' wi_zip ?_
  | with_reducible refine' wg_name ?_
  | with_reducible refine' wg_sub ?_
  | with_reducible refine' wgs_nil ?_
  | with_reducible refine' wgs_cons ?_
  | ((with_reducible refine' wg_tup ?ht ?hn ?_); (case ht => walk_at "ist"); (case hn => rfl))
  | with_reducible refine' w2_add ?_
  | with_reducible refine' w2_sub ?_
  | with_reducible refine' w2_lt ?_
  | with_reducible refine' w2_le ?_
  | with_reducible refine' w2_gt ?_
  | with_reducible refine' w2_ge ?_
  | with_reducible refine' w2_eqI ?_
  | with_reducible refine' w2_neI ?_
  | with_reducible refine' w2_eqT ?_
  | with_reducible refine' w2_neT ?_
  | with_reducible refine' w2_eqB ?_
  | with_reducible refine' w2_neB ?_
  | with_reducible refine' w2_isN ?_
  | with_reducible refine' w2_notN ?_
  | with_reducible refine' w2_isB ?_
  | with_reducible refine' w2_inT ?_
  | with_reducible refine' w1_neg ?_
  | with_reducible refine' wl_abs ?_
  | with_reducible refine' wl_max2 ?_
  | with_reducible refine' wl_min2 ?_
  | with_reducible refine' wl_intB ?_
  | ((with_reducible refine' w2_div ?h ?_); case h => first | omega | (constructor <;> omega))
  | ((with_reducible refine' w2_mod ?h ?_); case h => omega)
  | ((with_reducible refine' w2_catT ?h ?_); case h => walk_at "len")
  | ((with_reducible refine' wsl_T ?h ?_); case h => walk_at "len")
  | ((with_reducible refine' wl_lenT ?h ?_); case h => walk_at "len")
  | ((with_reducible refine' wl_len ?h ?_); case h => walk_at "isl")
  | ((with_reducible refine' wl_len ?h ?_); case h => walk_at "isl")
  | ((with_reducible refine' wm_append ?sw ?hl ?_); (case sw => walk_at "swap"); (case hl => walk_at "len")))
local macro_rules | `(tactic| walk_at "b1") => `(tactic| first | with_reducible refine' ws_seq ?_ | walk_at "b0")
local macro_rules | `(tactic| walk_at "bx") => `(tactic| first
  | refine ⟨_, rfl, ?_⟩
  | refine ⟨_, _, rfl, ?_⟩
  | refine ⟨ty_L (by walk_at "isl"), ?_⟩
  | refine ⟨ty_S, ?_⟩
  | refine spl_t (by rfl) ?_
  | refine spl_f (by rfl) ?_
  | exact rfl)
local macro_rules | `(tactic| walk_at "bm") => `(tactic| repeat (first | walk_at "b1" | walk_at "bx"))
local macro_rules | `(tactic| walk_at "bn") => `(tactic| repeat (first | walk_at "b0" | walk_at "bx"))
local macro_rules | `(tactic| walk_at "b0") => `(tactic| with_reducible refine' c_deepens ?_)
local macro_rules | `(tactic| walk_at "b0") => `(tactic| ((with_reducible refine' c_depths_of ?hl ?_); (case hl => walk_at "len")))
local macro_rules | `(tactic| walk_at "b0") => `(tactic| with_reducible refine' c_is_wholeI ?_)
local macro_rules | `(tactic| walk_at "b0") => `(tactic| with_reducible refine' c_flipped ?_)
local macro_rules | `(tactic| walk_at "b0") => `(tactic| ((with_reducible refine' c_is_right_row ?hl ?_); (case hl => walk_at "len")))
local macro_rules | `(tactic| walk_at "b0") => `(tactic| ((with_reducible refine' c_asked_row ?hl ?_); (case hl => walk_at "len")))
local macro_rules | `(tactic| walk_at "b0") => `(tactic| ((with_reducible refine' c_depths ?hl ?_); (case hl => walk_at "len")))
local macro_rules | `(tactic| walk_at "b0") => `(tactic| ((with_reducible refine' c_is_right ?hl ?_); (case hl => walk_at "len")))
local macro_rules | `(tactic| walk_at "b0") => `(tactic| ((with_reducible refine' c__law_depths ?hl ?_); (case hl => walk_at "len")))
local macro_rules | `(tactic| walk_at "b0") => `(tactic| ((with_reducible refine' c__law_good ?hl ?_); (case hl => walk_at "len")))
local macro_rules | `(tactic| walk_at "b0") => `(tactic| ((with_reducible refine' wl_listOf ?hx ?_); (case hx => walk_at "isl")))
local macro_rules | `(tactic| walk_at "b0") => `(tactic| with_reducible refine' w2_notB ?_)
local macro_rules | `(tactic| walk_at "own") => `(tactic| exact own_l (by walk_at "mem"))
local macro_rules | `(tactic| walk_at "b0") => `(tactic| with_reducible refine' we_fld ?_)
local macro_rules | `(tactic| walk_at "b0") => `(tactic| refine ⟨_, _, _, _, _, rfl, own_l (by walk_at "mem"), Grw.cl (by assumption), Grw.nr (by assumption), by rfl, ?_⟩)
local macro_rules | `(tactic| walk_at "b0") => `(tactic| refine ⟨_, _, _, _, _, rfl, fun H' o => o.ex _ _ (by assumption), Grw.cl (by assumption), Grw.nr (by assumption), by rfl, ?_⟩)
local macro_rules | `(tactic| walk_at "b0") => `(tactic| with_reducible refine' we_meth ?_)
local macro_rules | `(tactic| walk_at "b0") => `(tactic| refine ⟨_, _, _, rfl, own_l (by walk_at "mem"), by rfl, ?_⟩)
local macro_rules | `(tactic| walk_at "b0") => `(tactic| refine ⟨_, _, _, rfl, fun H' o => o.ex _ _ (by assumption), by rfl, ?_⟩)
local macro_rules | `(tactic| walk_at "gown") => `(tactic| first | exact own_l (by walk_at "mem") | exact fun H' o => o.ex _ _ (by assumption))
local macro_rules | `(tactic| walk_at "b0") => `(tactic| with_reducible refine' wm_countT ?_)
local macro_rules | `(tactic| walk_at "b0") => `(tactic| with_reducible refine' we_methU ?_)
local macro_rules | `(tactic| walk_at "mem") => `(tactic| assumption)
end BM
namespace BM
open PySem PySem.Spec PyProof.Rows L2 Evl
/-! ### dicts whose keys are tuples: the display of one pair -/
def tDispT (trs : List (TE × TE)) : TE := fun σ H Q => ∀ p, H p = none → tPairs trs σ (upd H p (.dT [])) fun ps H2 => H2 p = some (.dT []) ∧ ∃ (ks : List Key) (b : Addr) (v : V), ps = [(.ref b, v)] ∧ H2 b = some (.tup (ks.map kV)) ∧ Q (.ref p) (upd H2 p (.dT [(ks, v)]))
theorem pe_dispT {X : Cx} {pos : Pos} {k v : Expr} {trs : List (TE × TE)} (hu : X.A.units + 1 < cLine) (h : PPs X pos [some k] [v] trs) : PE X (.Dict [some k] [v] pos) (tDispT trs) := by
  refine ⟨fun pins s σ H Q I q => ?_⟩
  have hn := I.hok.fresh (Nat.le_refl s.heap.objs.size)
  have I1 := I.laid (a := s.heap.objs.size) (o := .dT []) (h' := s.heap.push { cls := .type "dict", data := .dict #[] }) (t' := s.toks) (fun _ _ q => Heap.get?_push_of_some _ q) (Nat.le_refl _) (dt_empty s.heap I.big)
  refine wpAny_Dict_any rfl rfl (List.cons_ne_nil _ _) (by show 1 ≤ 15; decide) (L2.thn (h.run pins _ σ _ _ I1 (q _ hn)) fun ws s2 ⟨ps, H2, I2, rel, e, ks, b, y, ep, eb, q2⟩ => ?_)
  subst ep
  cases rel with
  | @cons pv w2 _ _ r0 rr =>
    cases rr
    obtain ⟨w1, u2⟩ := w2
    obtain ⟨r1, r2⟩ := r0
    cases (show w1 = Value.ref b from r1)
    obtain ⟨z, hd, xs, r, dd⟩ := dt_of I2.hok e
    cases r
    unfold storeAll
    rw [List.forIn_cons]
    refine wpAny_bind (wpAny_bind (wpAny_dictSet_heap (hsz := Nat.zero_le _) (by show _ < cLine; omega) (key_of I2.hok eb) dd fun h' dd' hs => wpAny_pure ?_))
    change wpAny _ _ (pure PUnit.unit) _ _ _
    refine wpAny_pure ⟨.ref s.heap.objs.size, _, ?_, rfl, q2⟩
    obtain ⟨o, es, ep, hq, h2, h3, h4, _, h5⟩ := dd'
    refine d_write I2 (by rw [e]; exact True.intro) hs ⟨o, hq⟩ ⟨by show 1 ≤ sizeLine; decide, hd, _, .cons ⟨rfl, ?_, r2⟩ .nil, o, es, ep, hq, h2, h3, h4, h5⟩
    rw [upd_ne (ne_of eb e (fun z => nomatch z))]
    exact eb
/-- a tuple that is a key -/
def IsTk (s : Ld) (b : Addr) (k : List Key) : Prop := (b, k.map kV) ∈ s.T
section
variable {K : PySem.W.Frag} {H0 : Hp} {σ : L2.St} {s : Ld} {tk td ty tv tx te : TE} {Q : V → Ld → Prop} {D : Dl} {t1 : TS} {g : TG}
theorem we_dispT (h : ∀ p, H0 p = none → WE H0 tk σ ⟨(p, .dT []) :: s.L, s.T⟩ fun x s1 => WE H0 tv σ s1 fun y s2 => ∃ (k : List Key) (b : Addr) (L' : List (Addr × HO)), x = .ref b ∧ IsTk s2 b k ∧ Swap p (.dT []) (.dT [(k, y)]) s2.L L' ∧ Q (.ref p) ⟨L', s2.T⟩) : WE H0 (tDispT [(tk, tv)]) σ s Q := fun H o R k p hp =>
  h p (fresh_back o.ex hp) _ (o.new hp) _ fun x H1 s1 o1 h1 => h1 H1 o1 _ fun y H2 s2 o2 ⟨ky, b, L', e, hb, sw, q⟩ => ⟨(o2.own _ sw.mem).2, ky, b, y, by rw [e], o2.tp _ hb, k _ _ _ (o2.swap sw trivial) q⟩
theorem we_dgetT (h : WE H0 td σ s fun x s1 => WE H0 ty σ s1 fun y s2 => ∃ (a b : Addr) (kvs : List (List Key × V)) (k : List Key) (v : V), x = .ref a ∧ y = .ref b ∧ ((a, HO.dT kvs) ∈ s2.L ∨ ∃ od, (a, HO.frz od (.dT kvs)) ∈ s2.L) ∧ IsTk s2 b k ∧ valV kvs k = some v ∧ Q v s2) : WE H0 (tDGet td ty) σ s Q := fun H o R k =>
  h H o _ fun x H1 s1 o1 h1 => h1 H1 o1 _ fun y H2 s2 o2 ⟨a, b, kvs, ky, v, e, ey, m, hb, hv, q⟩ => ⟨a, v, e, by
    rw [ey, ← hv]
    refine .inr ⟨kvs, ky, b, ?_, rfl, o2.tp _ hb, rfl⟩
    rcases m with m | ⟨od, m⟩
    · exact .inl (o2.own _ m).2
    · exact .inr ⟨od, (o2.own _ m).2⟩, k _ _ _ o2 q⟩
theorem we_dget2T (h : WE H0 td σ s fun x s1 => ∃ a, x = .ref a ∧ (∀ H, Own H0 H s1 → IsD H a) ∧ WE H0 ty σ s1 fun y s2 => WE H0 tx σ s2 fun z s3 => ∃ (b : Addr) (kvs : List (List Key × V)) (k : List Key), y = .ref b ∧ (∀ H, Own H0 H s3 → Rd H a (.dT kvs)) ∧ IsTk s3 b k ∧ Q ((valV kvs k).getD z) s3) : WE H0 (tDGet2 td ty tx) σ s Q := fun H o R k =>
  h H o _ fun x H1 s1 o1 ⟨a, e, hd, h1⟩ => ⟨a, e, hd H1 o1, h1 H1 o1 _ fun y H2 s2 o2 h2 => h2 H2 o2 _ fun z H3 s3 o3 ⟨b, kvs, ky, ey, hr, hb, q⟩ => ⟨valV kvs ky, by
    rw [ey]
    exact .inr ⟨kvs, ky, b, hr H3 o3, rfl, o3.tp _ hb, rfl⟩, k _ _ _ o3 q⟩⟩
theorem isD_L {a : Addr} {kvs : List (List Key × V)} (h : (a, HO.dT kvs) ∈ s.L) : ∀ H, Own H0 H s → IsD H a := fun H o => .inr ⟨kvs, .inl (o.own _ h).2⟩
theorem rd_L {a : Addr} {kvs : List (List Key × V)} (h : (a, HO.dT kvs) ∈ s.L) : ∀ H, Own H0 H s → Rd H a (.dT kvs) := fun H o => .inl (o.own _ h).2
theorem ws_dputT (h : WE H0 tv σ s fun v s1 => WE H0 td σ s1 fun x s2 => WE H0 ty σ s2 fun y s3 => ∃ (a b : Addr) (kvs : List (List Key × V)) (k : List Key), x = .ref a ∧ y = .ref b ∧ (a, HO.dT kvs) ∈ s3.L ∧ IsTk s3 b k ∧ kvs.length < 100000 ∧ ∀ L', (a, HO.dT (putK kvs k v)) ∈ L' → (∀ e ∈ s3.L, e.1 ≠ a → e ∈ L') → D.nx σ ⟨L', s3.T⟩) : WS H0 (sDPut td ty tv) σ s D := fun H o E l =>
  h H o _ fun v H1 s1 o1 h1 => h1 H1 o1 _ fun x H2 s2 o2 h2 => h2 H2 o2 _ fun y H3 s3 o3 ⟨a, b, kvs, k, e, ey, m, hb, hl, q⟩ => by
    obtain ⟨L', sw, g1, g2⟩ := swap_mem (.dT (putK kvs k v)) m o3.nd
    exact ⟨a, _, e, by rw [ey]; exact DPut.t (o3.own _ m).2 (o3.tp _ hb) (sz_lt hl), l.nx _ _ _ (o3.swap sw trivial) (q L' g1 g2)⟩
/-! ### a dict locked while it is walked -/
def lockD (D : Dl) (d : Addr) (od : Obj) (kvs : List (List Key × V)) : Dl :=
  { nx := fun σ s => (d, HO.frz od (.dT kvs)) ∈ s.L ∧ ∀ L', (d, HO.dT kvs) ∈ L' → (∀ e ∈ s.L, e.1 ≠ d → e ∈ L') → D.nx σ ⟨L', s.T⟩
    rt := fun v s => (d, HO.frz od (.dT kvs)) ∈ s.L ∧ ∀ L', (d, HO.dT kvs) ∈ L' → (∀ e ∈ s.L, e.1 ≠ d → e ∈ L') → D.rt v ⟨L', s.T⟩
    bk := fun σ s => (d, HO.frz od (.dT kvs)) ∈ s.L ∧ ∀ L', (d, HO.dT kvs) ∈ L' → (∀ e ∈ s.L, e.1 ≠ d → e ∈ L') → D.bk σ ⟨L', s.T⟩
    ct := fun σ s => (d, HO.frz od (.dT kvs)) ∈ s.L ∧ ∀ L', (d, HO.dT kvs) ∈ L' → (∀ e ∈ s.L, e.1 ≠ d → e ∈ L') → D.ct σ ⟨L', s.T⟩ }
theorem unlock {d : Addr} {od : Obj} {kvs : List (List Key × V)} {H' : Hp} {s' : Ld} (o : Own H0 H' s') (m : (d, HO.frz od (.dT kvs)) ∈ s'.L) : ∃ L', Own H0 (upd H' d (.dT kvs)) ⟨L', s'.T⟩ ∧ (d, HO.dT kvs) ∈ L' ∧ ∀ e ∈ s'.L, e.1 ≠ d → e ∈ L' := by
  obtain ⟨L', sw, g1, g2⟩ := swap_mem (.dT kvs) m o.nd
  exact ⟨L', o.swap sw trivial, g1, g2⟩
theorem ws_lock {d : Addr} {kvs : List (List Key × V)} (m : (d, HO.dT kvs) ∈ s.L) (h : ∀ od L', (d, HO.frz od (.dT kvs)) ∈ L' → (∀ e ∈ s.L, e.1 ≠ d → e ∈ L') → WS H0 t1 σ ⟨L', s.T⟩ (lockD D d od kvs)) : WS H0 (tLock t1) σ s D := fun H o E l => by
  refine ⟨d, _, (o.own _ m).2, trivial, fun od => ?_⟩
  obtain ⟨L', sw, g1, g2⟩ := swap_mem (.frz od (.dT kvs)) m o.nd
  refine h od L' g1 g2 _ (o.swap sw trivial) _ ⟨?_, ?_, ?_, ?_⟩
  · rintro σ' H' s' o' ⟨m', q⟩
    obtain ⟨L2, o2, k1, k2⟩ := unlock o' m'
    exact ⟨(o'.own _ m').2, l.nx _ _ _ o2 (q L2 k1 k2)⟩
  · rintro σ' H' s' o' ⟨m', q⟩
    obtain ⟨L2, o2, k1, k2⟩ := unlock o' m'
    exact ⟨(o'.own _ m').2, l.rt _ _ _ o2 (q L2 k1 k2)⟩
  · rintro σ' H' s' o' ⟨m', q⟩
    obtain ⟨L2, o2, k1, k2⟩ := unlock o' m'
    exact ⟨(o'.own _ m').2, l.bk _ _ _ o2 (q L2 k1 k2)⟩
  · rintro σ' H' s' o' ⟨m', q⟩
    obtain ⟨L2, o2, k1, k2⟩ := unlock o' m'
    exact ⟨(o'.own _ m').2, l.ct _ _ _ o2 (q L2 k1 k2)⟩
theorem wi_keysT {R : It → Ld → Prop} (h : WE H0 td σ s fun x s1 => ∃ (d : Addr) (od : Obj) (kvs : List (List Key × V)), x = .ref d ∧ (d, HO.frz od (.dT kvs)) ∈ s1.L ∧ R (Itkt d od kvs) s1) : WI H0 (iKeys td) σ s R := fun H o R' k =>
  h H o _ fun x H1 s1 o1 ⟨d, od, kvs, e, m, q⟩ => ⟨d, od, e, .inr ⟨kvs, (o1.own _ m).2, k _ H1 s1 o1 q⟩⟩
theorem lp_keysT {d : Addr} {od : Obj} {kvs : List (List Key × V)} (I : Nat → L2.St → Ld → Prop) (h0 : I 0 σ s) (hI : ∀ i σ s, i ≤ kvs.length → I i σ s → (d, HO.frz od (.dT kvs)) ∈ s.L)
    (hs : ∀ i k v σ s q, i < kvs.length → kvs[i]? = some (k, v) → I i σ s → WG H0 g (.ref q) σ ⟨s.L, (q, k.map kV) :: s.T⟩ fun σ2 s2 => WS H0 t1 σ2 s2 (turnD D (I (i + 1)))) (hd : ∀ σ s, I kvs.length σ s → D.nx σ s) : LoopOk H0 (Itkt d od kvs) g t1 σ s D :=
  ⟨kvs.length, _, _, walk_keysT, I, h0, fun i σ s H hi q o => (o.own _ (hI i σ s hi q)).2, fun i x σ s H H' hi q o ⟨e, k, v, p, hk, ex, hp⟩ => ⟨⟨s.L, (p, k.map kV) :: s.T⟩, by
    rw [e]
    exact o.moreT (ts := [(p, k.map kV)]) (fun t ht => by rw [List.mem_singleton.mp ht]; exact hp), by rw [ex]; exact hs i k v σ s p hi hk q⟩, hd⟩
end
end BM
namespace BM
/-! ### right rows near a row: counted, numbered, all -/
def cs (a b : Bool) : Int := if a = b then 0 else 1
theorem cs_nn (a b : Bool) : 0 ≤ cs a b ∧ cs a b ≤ 1 := by
  unfold cs
  split <;> omega
/-- how many ends there are from a depth, with so many still turned over -/
def wy : List Bool → Int → Int → Nat
  | [], d, m => if d = 0 ∧ m = 0 then 1 else 0
  | b :: u, d, m => if d < 0 ∨ m < 0 then 0 else wy u (d + 1) (m - cs true b) + wy u (d - 1) (m - cs false b)
/-- all of them, in order -/
def en : List Bool → Int → Int → List (List Bool)
  | [], d, m => if d = 0 ∧ m = 0 then [[]] else []
  | b :: u, d, m => if d < 0 ∨ m < 0 then [] else (en u (d + 1) (m - cs true b)).map (true :: ·) ++ (en u (d - 1) (m - cs false b)).map (false :: ·)
/-- the one of a number -/
def un : List Bool → Int → Int → Int → List Bool
  | [], _, _, _ => []
  | b :: u, d, m, k => if k < wy u (d + 1) (m - cs true b) then true :: un u (d + 1) (m - cs true b) k else false :: un u (d - 1) (m - cs false b) (k - wy u (d + 1) (m - cs true b))
theorem en_len : ∀ (r : List Bool) (d m : Int), (en r d m).length = wy r d m
  | [], d, m => by
    unfold en wy
    split <;> rfl
  | b :: u, d, m => by
    unfold en wy
    split
    · rfl
    · rw [List.length_append, List.length_map, List.length_map, en_len u, en_len u]
theorem wy_neg {r : List Bool} {d m : Int} (h : d < 0 ∨ m < 0) : wy r d m = 0 := by
  cases r with
  | nil =>
    unfold wy
    rw [if_neg (by omega)]
  | cons b u =>
    unfold wy
    rw [if_pos h]
theorem wy_high : ∀ (r : List Bool) (d m : Int), (r.length : Int) < d → wy r d m = 0
  | [], d, m, h => by
    unfold wy
    rw [if_neg (by simp at h; omega)]
  | b :: u, d, m, h => by
    rw [List.length_cons] at h
    unfold wy
    split
    · rfl
    · rw [wy_high u _ _ (by omega), wy_high u _ _ (by omega)]
theorem en_un : ∀ (r : List Bool) (d m : Int) (k : Nat), k < wy r d m → (en r d m)[k]? = some (un r d m k)
  | [], d, m, k, h => by
    unfold wy at h
    split at h
    · rename_i h0
      unfold en un
      rw [if_pos h0]
      obtain rfl : k = 0 := by omega
      rfl
    · omega
  | b :: u, d, m, k, h => by
    unfold wy at h
    split at h
    · omega
    · rename_i h0
      unfold en un
      rw [if_neg h0]
      by_cases hk : (k : Int) < wy u (d + 1) (m - cs true b)
      · rw [if_pos hk, List.getElem?_append_left (by rw [List.length_map, en_len]; omega), List.getElem?_map, en_un u _ _ k (by omega)]
        rfl
      · rw [if_neg hk, List.getElem?_append_right (by rw [List.length_map, en_len]; omega), List.length_map, en_len, List.getElem?_map]
        rw [en_un u _ _ _ (by omega)]
        rw [show ((k : Int) - wy u (d + 1) (m - cs true b)) = ((k - wy u (d + 1) (m - cs true b) : Nat) : Int) by omega]
        rfl
/-- how many differ -/
def far : List Bool → List Bool → Nat
  | a :: r, b :: u => (if a = b then 0 else 1) + far r u
  | _, _ => 0
/-- never below nothing from a depth, and nothing at the end -/
def okd (d : Int) : List Bool → Bool
  | [] => decide (d = 0)
  | b :: u => decide (0 ≤ d) && okd (d + sg b) u
theorem mem_en : ∀ {r x : List Bool} {d m : Int}, x ∈ en r d m ↔ x.length = r.length ∧ okd d x = true ∧ (far x r : Int) = m
  | [], x, d, m => by
    unfold en
    constructor
    · intro h
      split at h
      · rename_i h0
        rw [List.mem_singleton.mp h]
        exact ⟨rfl, by simp [okd, h0.1], by simp [far, h0.2]⟩
      · cases h
    · rintro ⟨h1, h2, h3⟩
      have hx : x = [] := List.length_eq_zero_iff.mp h1
      subst hx
      have hd : d = 0 := by simpa [okd] using h2
      have hm : m = 0 := by simpa [far] using h3.symm
      rw [if_pos ⟨hd, hm⟩]
      exact List.mem_cons_self
  | b :: u, x, d, m => by
    unfold en
    constructor
    · intro h
      split at h
      · cases h
      · rename_i h0
        rcases List.mem_append.mp h with h | h
        · obtain ⟨y, hy, rfl⟩ := List.mem_map.mp h
          obtain ⟨h1, h2, h3⟩ := mem_en.mp hy
          refine ⟨by rw [List.length_cons, h1]; rfl, ?_, ?_⟩
          · show (decide (0 ≤ d) && okd (d + 1) y) = true
            rw [h2, decide_eq_true (by omega)]
            rfl
          · show (((if true = b then 0 else 1) + far y u : Nat) : Int) = m
            unfold cs at h3
            split at h3 <;> simp_all <;> omega
        · obtain ⟨y, hy, rfl⟩ := List.mem_map.mp h
          obtain ⟨h1, h2, h3⟩ := mem_en.mp hy
          refine ⟨by rw [List.length_cons, h1]; rfl, ?_, ?_⟩
          · show (decide (0 ≤ d) && okd (d + -1) y) = true
            rw [show d + -1 = d - 1 by omega, h2, decide_eq_true (by omega)]
            rfl
          · show (((if false = b then 0 else 1) + far y u : Nat) : Int) = m
            unfold cs at h3
            split at h3 <;> simp_all <;> omega
    · rintro ⟨h1, h2, h3⟩
      cases x with
      | nil => simp at h1
      | cons a y =>
        have hl : y.length = u.length := by simpa using h1
        have h2' : (decide (0 ≤ d) && okd (d + sg a) y) = true := h2
        rw [Bool.and_eq_true] at h2'
        have hd := of_decide_eq_true h2'.1
        have h3' : (((if a = b then 0 else 1) + far y u : Nat) : Int) = m := h3
        rw [if_neg (by split at h3' <;> omega)]
        cases a with
        | true =>
          refine List.mem_append_left _ (List.mem_map.mpr ⟨y, mem_en.mpr ⟨hl, h2'.2, ?_⟩, rfl⟩)
          unfold cs
          split at h3' <;> simp_all <;> omega
        | false =>
          refine List.mem_append_right _ (List.mem_map.mpr ⟨y, mem_en.mpr ⟨hl, h2'.2, ?_⟩, rfl⟩)
          unfold cs
          split at h3' <;> simp_all <;> omega
theorem okd_iff : ∀ {x : List Bool} {d : Int}, okd d x = true ↔ d + hgt x = 0 ∧ ∀ j, j < x.length → 0 ≤ d + hgt (x.take j)
  | [], d => by
    unfold okd
    rw [decide_eq_true_eq]
    constructor
    · intro h
      exact ⟨by simp [hgt, h], fun j hj => absurd hj (Nat.not_lt_zero _)⟩
    · intro h
      simpa [hgt] using h.1
  | b :: u, d => by
    unfold okd
    rw [Bool.and_eq_true, decide_eq_true_eq, okd_iff (x := u)]
    constructor
    · rintro ⟨h0, h1, h2⟩
      refine ⟨by simp only [hgt]; omega, fun j hj => ?_⟩
      cases j with
      | zero => simpa [hgt] using h0
      | succ j =>
        have := h2 j (by simpa using hj)
        simp only [List.take_succ_cons, hgt]
        omega
    · rintro ⟨h1, h2⟩
      refine ⟨by simpa [hgt] using h2 0 (by simp), by simp only [hgt] at h1; omega, fun j hj => ?_⟩
      have := h2 (j + 1) (by simp; omega)
      simp only [List.take_succ_cons, hgt] at this
      omega
theorem okd_isR {x : List Bool} : okd 0 x = isR x := by
  rw [Bool.eq_iff_iff, okd_iff, isR_iff]
  constructor
  · rintro ⟨h1, h2⟩
    refine ⟨by omega, fun j hj => ?_⟩
    rcases Nat.lt_or_eq_of_le hj with h | h
    · have := h2 j h
      omega
    · rw [h, List.take_length]
      omega
  · rintro ⟨h1, h2⟩
    exact ⟨by omega, fun j hj => by have := h2 j (by omega); omega⟩
/-- order: an opener ahead of a closer -/
def lex : List Bool → List Bool → Bool
  | a :: r, b :: u => if a = b then lex r u else a
  | _, _ => false
theorem en_sorted : ∀ (r : List Bool) (d m : Int), (en r d m).Pairwise fun x y => lex x y = true
  | [], d, m => by
    unfold en
    split
    · exact List.pairwise_singleton _ _
    · exact .nil
  | b :: u, d, m => by
    unfold en
    split
    · exact .nil
    · refine List.pairwise_append.mpr ⟨List.pairwise_map.mpr ((en_sorted u _ _).imp fun h => ?_), List.pairwise_map.mpr ((en_sorted u _ _).imp fun h => ?_), fun x hx y hy => ?_⟩
      · simpa [lex] using h
      · simpa [lex] using h
      · obtain ⟨x', _, rfl⟩ := List.mem_map.mp hx
        obtain ⟨y', _, rfl⟩ := List.mem_map.mp hy
        rfl
theorem lex_irr : ∀ x : List Bool, lex x x = false
  | [] => rfl
  | a :: r => by simp [lex, lex_irr r]
theorem en_nodup (r : List Bool) (d m : Int) : (en r d m).Nodup := (en_sorted r d m).imp fun {x y} h e => by
  rw [e, lex_irr] at h
  cases h
theorem lex_asym : ∀ {x y : List Bool}, lex x y = true → lex y x = false
  | [], _, h => by cases h
  | _ :: _, [], h => by cases h
  | a :: r, b :: u, h => by
    unfold lex at h ⊢
    by_cases e : a = b
    · rw [if_pos e] at h
      rw [if_pos e.symm]
      exact lex_asym h
    · rw [if_neg e] at h
      rw [if_neg (fun z => e z.symm)]
      cases a <;> cases b <;> simp_all
/-! all rows never below nothing, bracket by bracket -/
def lw : Nat → List (List Bool)
  | 0 => [[]]
  | n + 1 => (lw n).flatMap fun u => (u ++ [true]) :: if hgt u > 0 then [u ++ [false]] else []
theorem mem_lw : ∀ {n : Nat} {x : List Bool}, x ∈ lw n ↔ x.length = n ∧ ∀ j, j ≤ n → 0 ≤ hgt (x.take j)
  | 0, x => by
    show x ∈ [[]] ↔ _
    rw [List.mem_singleton]
    constructor
    · rintro rfl
      exact ⟨rfl, fun j hj => by simp [hgt]⟩
    · rintro ⟨h, _⟩
      exact List.length_eq_zero_iff.mp h
  | n + 1, x => by
    show x ∈ (lw n).flatMap _ ↔ _
    rw [List.mem_flatMap]
    constructor
    · rintro ⟨u, hu, hx⟩
      obtain ⟨h1, h2⟩ := mem_lw.mp hu
      have key : ∀ b, 0 ≤ hgt u + sg b → (u ++ [b]).length = n + 1 ∧ ∀ j, j ≤ n + 1 → 0 ≤ hgt ((u ++ [b]).take j) := fun b hb => by
        refine ⟨by rw [List.length_append, h1]; rfl, fun j hj => ?_⟩
        rcases Nat.lt_or_ge n j with h | h
        · rw [List.take_of_length_le (by rw [List.length_append, h1]; simp; omega), hgt_app]
          simp only [hgt]
          omega
        · rw [List.take_append_of_le_length (by omega)]
          exact h2 j h
      have hn : 0 ≤ hgt u := by
        have := h2 n (Nat.le_refl _)
        rw [List.take_of_length_le (by omega)] at this
        exact this
      rcases List.mem_cons.mp hx with rfl | hx
      · exact key true (by simp [sg]; omega)
      · split at hx
        · rename_i hp
          rw [List.mem_singleton.mp hx]
          exact key false (by simp [sg]; omega)
        · cases hx
    · rintro ⟨h1, h2⟩
      have hne : x ≠ [] := fun e => by rw [e] at h1; cases h1
      refine ⟨x.dropLast, mem_lw.mpr ⟨by rw [List.length_dropLast, h1]; rfl, fun j hj => ?_⟩, ?_⟩
      · have := h2 j (by omega)
        rw [List.dropLast_eq_take, List.take_take, Nat.min_eq_left (by omega)]
        exact this
      · have hx := List.dropLast_concat_getLast hne
        have hh := h2 (n + 1) (Nat.le_refl _)
        rw [List.take_of_length_le (by omega), ← hx, hgt_app] at hh
        simp only [hgt] at hh
        cases hb : x.getLast hne with
        | true =>
          rw [hb] at hx
          rw [← hx, List.dropLast_concat]
          exact List.mem_cons_self
        | false =>
          rw [hb] at hh hx
          have : hgt x.dropLast > 0 := by simp [sg] at hh; omega
          refine List.mem_cons_of_mem _ ?_
          rw [if_pos this, List.mem_singleton, hx]
theorem lw_nodup : ∀ n, (lw n).Nodup
  | 0 => by simp [lw]
  | n + 1 => by
    show ((lw n).flatMap _).Nodup
    refine List.pairwise_flatMap.mpr ⟨fun u _ => ?_, (lw_nodup n).imp fun {u v} huv => ?_⟩
    · split <;> simp
    · intro x hx y hy exy
      subst exy
      apply huv
      have e1 : x.dropLast = u := by
        rcases List.mem_cons.mp hx with rfl | hx
        · simp
        · split at hx
          · rw [List.mem_singleton.mp hx]; simp
          · cases hx
      have e2 : x.dropLast = v := by
        rcases List.mem_cons.mp hy with rfl | hy
        · simp
        · split at hy
          · rw [List.mem_singleton.mp hy]; simp
          · cases hy
      rw [← e1, e2]
/-- near right rows, both ways -/
theorem en_lw (r : List Bool) (m : Int) : (en r 0 m).Perm ((lw r.length).filter fun x => isR x && decide ((far x r : Int) = m)) := by
  refine (List.perm_ext_iff_of_nodup (en_nodup _ _ _) (List.Nodup.sublist List.filter_sublist (lw_nodup _))).mpr fun x => ?_
  rw [mem_en, List.mem_filter, mem_lw, okd_isR, Bool.and_eq_true, decide_eq_true_eq]
  constructor
  · rintro ⟨h1, h2, h3⟩
    exact ⟨⟨h1, fun j hj => (isR_iff.mp h2).2 j (by omega)⟩, h2, h3⟩
  · rintro ⟨⟨h1, _⟩, h2, h3⟩
    exact ⟨h1, h2, h3⟩
end BM
namespace BM
/-! ### the places that differ -/
def df (x r : List Bool) : List Nat := (List.range r.length).filter fun i => decide (x[i]? ≠ r[i]?)
theorem filt_succ (p : Nat → Bool) (n : Nat) : ((List.range (n + 1)).filter p).length = (if p 0 then 1 else 0) + ((List.range n).filter fun i => p (i + 1)).length := by
  rw [List.range_succ_eq_map, List.filter_cons, List.filter_map, ]
  split
  · rw [List.length_cons, List.length_map]
    simp only [Function.comp_def, Nat.succ_eq_add_one]
    omega
  · rw [List.length_map]
    simp only [Function.comp_def, Nat.succ_eq_add_one]
    omega
theorem far_df : ∀ {x r : List Bool}, x.length = r.length → far x r = (df x r).length
  | [], [], _ => rfl
  | a :: x, b :: r, h => by
    have ih := far_df (x := x) (r := r) (by simpa using h)
    show (if a = b then 0 else 1) + far x r = _
    unfold df at ih ⊢
    rw [List.length_cons, filt_succ, ih]
    congr 1
    by_cases e : a = b <;> simp [e]
  | [], _ :: _, h => by simp at h
  | _ :: _, [], h => by simp at h
theorem df_nodup (x r : List Bool) : (df x r).Nodup := List.Nodup.sublist List.filter_sublist List.nodup_range
theorem df_lt {x r : List Bool} : ∀ p ∈ df x r, p < r.length := fun p hp => List.mem_range.mp (List.mem_filter.mp hp).1
theorem flp_df {x r : List Bool} (h : x.length = r.length) : flp (inz (df x r)) r = x := by
  unfold flp
  apply List.ext_getElem?
  intro i
  rw [List.getElem?_mapIdx]
  by_cases hi : i < r.length
  · have hx : i < x.length := by omega
    rw [List.getElem?_eq_getElem hi, List.getElem?_eq_getElem hx]
    simp only [Option.map_some, mem_inz]
    have hm : i ∈ df x r ↔ x[i] ≠ r[i] := by
      unfold df
      rw [List.mem_filter, List.mem_range, decide_eq_true_eq, List.getElem?_eq_getElem hi, List.getElem?_eq_getElem hx]
      simp [hi]
    by_cases e : x[i] = r[i]
    · rw [if_neg (fun h => hm.mp h e), e]
    · rw [if_pos (hm.mpr e)]
      congr 1
      cases h1 : x[i] <;> cases h2 : r[i] <;> simp_all
  · rw [List.getElem?_eq_none (by omega), List.getElem?_eq_none (by omega)]
    rfl
theorem df_flp {ps : List Nat} {r : List Bool} (nd : ps.Nodup) (hl : ∀ p ∈ ps, p < r.length) : (df (flp (inz ps) r) r).Perm ps := by
  refine (List.perm_ext_iff_of_nodup (df_nodup _ _) nd).mpr fun i => ?_
  unfold df
  rw [List.mem_filter, List.mem_range, decide_eq_true_eq]
  have key : ∀ (hi : i < r.length), ((flp (inz ps) r)[i]? ≠ r[i]? ↔ i ∈ ps) := fun hi => by
    unfold flp
    rw [List.getElem?_mapIdx, List.getElem?_eq_getElem hi]
    simp only [Option.map_some, mem_inz]
    by_cases h : i ∈ ps <;> simp [h]
  constructor
  · rintro ⟨hi, h⟩
    exact (key hi).mp h
  · intro h
    exact ⟨hl i h, (key (hl i h)).mpr h⟩
theorem far_flp {ps : List Nat} {r : List Bool} (nd : ps.Nodup) (hl : ∀ p ∈ ps, p < r.length) : far (flp (inz ps) r) r = ps.length := by
  rw [far_df (flp_len _ _), (df_flp nd hl).length_eq]
theorem far_le : ∀ (x r : List Bool), far x r ≤ r.length
  | [], _ => Nat.zero_le _
  | _ :: _, [] => Nat.zero_le _
  | a :: x, b :: r => by
    have := far_le x r
    show (if a = b then 0 else 1) + far x r ≤ r.length + 1
    split <;> omega
/-! ### the fewest -/
structure Fewest (r : List Bool) (m : Nat) : Prop where
  some : 0 < wy r 0 m
  least : ∀ k : Int, 0 < wy r 0 k → (m : Int) ≤ k
theorem fewest_of {r : List Bool} {c : Nat} {ps : List Nat} (hc : c ≤ r.length) (hmin : ∀ j, j ≤ r.length → hgt (r.take c) ≤ hgt (r.take j)) (nd : ps.Nodup) (hl : ∀ p ∈ ps, p < r.length) (hR : isR (flp (inz ps) r) = true) (hn : (ps.length : Int) = (-hgt (r.take c) + 1) / 2 + (hgt r - hgt (r.take c) + 1) / 2) : Fewest r ps.length := by
  have h0 := hmin 0 (Nat.zero_le _)
  have e00 : hgt (r.take 0) = 0 := rfl
  have hN := hmin r.length (Nat.le_refl _)
  rw [List.take_length] at hN
  refine ⟨?_, fun k hk => ?_⟩
  · rw [← en_len]
    refine List.length_pos_of_mem (a := flp (inz ps) r) (mem_en.mpr ⟨flp_len _ _, by rw [okd_isR]; exact hR, ?_⟩)
    rw [far_flp nd hl]
  · rw [← en_len] at hk
    obtain ⟨x, hx⟩ := List.exists_mem_of_length_pos hk
    obtain ⟨h1, h2, h3⟩ := mem_en.mp hx
    rw [okd_isR] at h2
    have g := turn_least hc (df_nodup x r) df_lt (by rw [flp_df h1]; exact h2) (many := ((-hgt (r.take c) + 1) / 2).toNat) (more := ((hgt r - hgt (r.take c) + 1) / 2).toNat) (by omega) (by omega)
    rw [← far_df h1] at g
    omega
theorem Fewest.uniq {r : List Bool} {m n : Nat} (a : Fewest r m) (b : Fewest r n) : m = n := by
  have h1 := a.least n b.some
  have h2 := b.least m a.some
  omega
theorem wy_odd {r : List Bool} (h : r.length % 2 = 1) (m : Int) : wy r 0 m = 0 := by
  refine Nat.eq_zero_of_not_pos fun hp => ?_
  rw [← en_len] at hp
  obtain ⟨x, hx⟩ := List.exists_mem_of_length_pos hp
  obtain ⟨h1, h2, _⟩ := mem_en.mp hx
  rw [okd_isR] at h2
  have := isR_even h2
  omega
/-! ### counted forward -/
def fw (r : List Bool) : Nat → Int → Int → Nat
  | 0, d, m => if d = 0 ∧ m = 0 then 1 else 0
  | i + 1, d, m => if d < 0 then 0 else fw r i (d - 1) (m - cs true (r.getD i true)) + fw r i (d + 1) (m - cs false (r.getD i true))
theorem fw_neg {r : List Bool} {i : Nat} {d m : Int} (h : d < 0) : fw r i d m = 0 := by
  cases i with
  | zero =>
    unfold fw
    rw [if_neg (by omega)]
  | succ i =>
    unfold fw
    rw [if_pos h]
theorem fw_mneg : ∀ {r : List Bool} {i : Nat} {d m : Int}, m < 0 → fw r i d m = 0
  | r, 0, d, m, h => by
    unfold fw
    rw [if_neg (by omega)]
  | r, i + 1, d, m, h => by
    unfold fw
    have h1 := cs_nn true (r.getD i true)
    have h2 := cs_nn false (r.getD i true)
    rw [fw_mneg (by omega), fw_mneg (by omega)]
    split <;> rfl
theorem fw_high : ∀ {r : List Bool} {i : Nat} {d m : Int}, (i : Int) < m ∨ (i : Int) < d → fw r i d m = 0
  | r, 0, d, m, h => by
    unfold fw
    rw [if_neg (by omega)]
  | r, i + 1, d, m, h => by
    unfold fw
    have h1 := cs_nn true (r.getD i true)
    have h2 := cs_nn false (r.getD i true)
    rw [fw_high (by omega), fw_high (by omega)]
    split <;> rfl
theorem countP_two {α β : Type} (p : β → Bool) (f : α → List β) (p1 p2 : α → Bool) : ∀ (l : List α), (∀ u ∈ l, (f u).countP p = (if p1 u then 1 else 0) + if p2 u then 1 else 0) → (l.flatMap f).countP p = l.countP p1 + l.countP p2
  | [], _ => rfl
  | u :: l, h => by
    have ih := countP_two p f p1 p2 l fun v hv => h v (List.mem_cons_of_mem _ hv)
    have h1 := h u List.mem_cons_self
    rw [List.flatMap_cons, List.countP_append, ih, h1, List.countP_cons, List.countP_cons]
    omega
theorem far_snoc : ∀ {x r : List Bool} (a b : Bool), x.length = r.length → (far (x ++ [a]) (r ++ [b]) : Int) = far x r + cs a b
  | [], [], a, b, _ => by
    show (((if a = b then 0 else 1) + 0 : Nat) : Int) = ((0 : Nat) : Int) + cs a b
    unfold cs
    split <;> rfl
  | c :: x, d :: r, a, b, h => by
    have ih := far_snoc (x := x) (r := r) a b (by simpa using h)
    show (((if c = d then 0 else 1) + far (x ++ [a]) (r ++ [b]) : Nat) : Int) = (((if c = d then 0 else 1) + far x r : Nat) : Int) + cs a b
    omega
  | [], _ :: _, _, _, h => by simp at h
  | _ :: _, [], _, _, h => by simp at h
theorem fw_lw : ∀ (r : List Bool) (i : Nat), i ≤ r.length → ∀ d m : Int, fw r i d m = (lw i).countP fun x => decide (hgt x = d) && decide ((far x (r.take i) : Int) = m)
  | r, 0, _, d, m => by
    unfold fw
    show _ = [[]].countP _
    by_cases h : d = 0 ∧ m = 0
    · rw [if_pos h, h.1, h.2]
      rfl
    · rw [if_neg h]
      have : (decide (hgt [] = d) && decide ((far [] (r.take 0) : Int) = m)) = false := by
        rw [Bool.and_eq_false_iff, decide_eq_false_iff_not, decide_eq_false_iff_not]
        show ¬ (0 : Int) = d ∨ ¬ ((0 : Nat) : Int) = m
        omega
      refine (List.countP_eq_zero.mpr fun x hx => ?_).symm
      rw [List.mem_singleton.mp hx, this]
      decide
  | r, i + 1, hi, d, m => by
    obtain ⟨b, hb⟩ : ∃ b, r[i]? = some b := ⟨_, List.getElem?_eq_getElem (by omega)⟩
    have eg : r.getD i true = b := by rw [List.getD_eq_getElem?_getD, hb]; rfl
    have et : r.take (i + 1) = r.take i ++ [b] := take_snoc hb
    show (if d < 0 then 0 else fw r i (d - 1) (m - cs true (r.getD i true)) + fw r i (d + 1) (m - cs false (r.getD i true))) = ((lw i).flatMap _).countP _
    rw [eg, et]
    have lu : ∀ u ∈ lw i, u.length = (r.take i).length := fun u hu => by rw [(mem_lw.mp hu).1, List.length_take]; omega
    have nn : ∀ u ∈ lw i, 0 ≤ hgt u := fun u hu => by
      have h := mem_lw.mp hu
      have := h.2 i (Nat.le_refl _)
      rw [List.take_of_length_le (by omega)] at this
      exact this
    by_cases hd : d < 0
    · rw [if_pos hd]
      symm
      rw [List.countP_eq_zero]
      intro x hx
      have hx2 : x ∈ lw (i + 1) := hx
      have h := mem_lw.mp hx2
      have := h.2 (i + 1) (Nat.le_refl _)
      rw [List.take_of_length_le (by omega)] at this
      rw [decide_eq_false (show ¬ hgt x = d by omega)]
      simp
    · rw [if_neg hd, fw_lw r i (by omega), fw_lw r i (by omega)]
      symm
      refine countP_two _ _ _ _ _ fun u hu => ?_
      have f1 := far_snoc true b (lu u hu)
      have f2 := far_snoc false b (lu u hu)
      have h1 : hgt (u ++ [true]) = hgt u + 1 := by rw [hgt_app]; rfl
      have h2 : hgt (u ++ [false]) = hgt u - 1 := by rw [hgt_app]; rfl
      have e1 : (decide (hgt (u ++ [true]) = d) && decide ((far (u ++ [true]) (r.take i ++ [b]) : Int) = m)) = (decide (hgt u = d - 1) && decide ((far u (r.take i) : Int) = m - cs true b)) := by
        rw [h1, f1]
        congr 1 <;> exact decide_eq_decide.mpr (by omega)
      have e2 : (decide (hgt (u ++ [false]) = d) && decide ((far (u ++ [false]) (r.take i ++ [b]) : Int) = m)) = (decide (hgt u = d + 1) && decide ((far u (r.take i) : Int) = m - cs false b)) := by
        rw [h2, f2]
        congr 1 <;> exact decide_eq_decide.mpr (by omega)
      rw [List.countP_cons, e1]
      by_cases hp : hgt u > 0
      · rw [if_pos hp, List.countP_cons, e2, List.countP_nil]
        omega
      · rw [if_neg hp, List.countP_nil]
        have : (decide (hgt u = d + 1) && decide ((far u (r.take i) : Int) = m - cs false b)) = false := by
          rw [decide_eq_false (show ¬ hgt u = d + 1 by omega)]
          rfl
        rw [this]
        simp
theorem fw_wy (r : List Bool) (m : Int) : fw r r.length 0 m = wy r 0 m := by
  rw [fw_lw r r.length (Nat.le_refl _), ← en_len, (en_lw r m).length_eq, ← List.countP_eq_length_filter, List.take_length]
  apply List.countP_congr
  intro x hx
  have h := mem_lw.mp hx
  rw [Bool.and_eq_true, Bool.and_eq_true, decide_eq_true_eq, decide_eq_true_eq, isR_iff]
  constructor
  · rintro ⟨h1, h2⟩
    exact ⟨⟨h1, fun j hj => h.2 j (by omega)⟩, h2⟩
  · rintro ⟨⟨h1, _⟩, h2⟩
    exact ⟨h1, h2⟩
end BM
namespace BM
open PySem L2 Evl
/-- the fewest that do -/
def mn (r : List Bool) : Nat := ((List.range (r.length + 1)).find? fun m => decide (0 < wy r 0 (m : Nat))).getD 0
/-- how many right rows are nearest -/
def hm (r : List Bool) : Nat := wy r 0 (mn r : Nat)
theorem wy_le {r : List Bool} {m : Int} (h : 0 < wy r 0 m) : 0 ≤ m ∧ m ≤ (r.length : Int) := by
  rw [← en_len] at h
  obtain ⟨x, hx⟩ := List.exists_mem_of_length_pos h
  obtain ⟨h1, _, h3⟩ := mem_en.mp hx
  have := far_le x r
  omega
theorem mn_spec {r : List Bool} {m : Int} (h : 0 < wy r 0 m) : Fewest r (mn r) := by
  have hb := wy_le h
  have hin : ∃ k ∈ List.range (r.length + 1), (decide (0 < wy r 0 (k : Nat))) = true := ⟨m.toNat, List.mem_range.mpr (by omega), by
    rw [Int.toNat_of_nonneg hb.1]
    exact decide_eq_true h⟩
  cases e : (List.range (r.length + 1)).find? fun m => decide (0 < wy r 0 (m : Nat)) with
  | none =>
    obtain ⟨k, hk, hk2⟩ := hin
    have := List.find?_eq_none.mp e k hk
    rw [hk2] at this
    exact absurd rfl this
  | some k =>
    have hmn : mn r = k := by
      unfold mn
      rw [e]
      rfl
    rw [hmn]
    obtain ⟨hp, as, bs, eq, hno⟩ := List.find?_eq_some_iff_append.mp e
    refine ⟨of_decide_eq_true hp, fun z hz => Int.not_lt.mp fun hlt => ?_⟩
    have hz2 := wy_le hz
    have hk : k < r.length + 1 := List.mem_range.mp (by rw [eq]; exact List.mem_append_right _ List.mem_cons_self)
    have hsorted : (as ++ k :: bs).Pairwise (· < ·) := by rw [← eq]; exact List.pairwise_lt_range
    have hmem : z.toNat ∈ as ++ k :: bs := by rw [← eq]; exact List.mem_range.mpr (by omega)
    rcases List.mem_append.mp hmem with h1 | h1
    · have := hno _ h1
      rw [Int.toNat_of_nonneg hz2.1, decide_eq_true hz] at this
      cases this
    · rcases List.mem_cons.mp h1 with h1 | h1
      · omega
      · have h2 := (List.pairwise_append.mp hsorted).2.1
        have := (List.pairwise_cons.mp h2).1 _ h1
        omega
theorem mn_is {r : List Bool} {m : Nat} (h : Fewest r m) : m = mn r := h.uniq (mn_spec h.some)
theorem mn_le (r : List Bool) : mn r ≤ r.length := by
  unfold mn
  cases e : (List.range (r.length + 1)).find? fun m => decide (0 < wy r 0 (m : Nat)) with
  | none => exact Nat.zero_le _
  | some k =>
    have := List.mem_range.mp (List.mem_of_find?_eq_some e)
    show k ≤ _
    omega
def ik2 (a b : Int) : List Key := [.inl a, .inl b]
def ik3 (a b c : Int) : List Key := [.inl a, .inl b, .inl c]
theorem ik3_inj {a b c a' b' c' : Int} : ik3 a b c = ik3 a' b' c' ↔ a = a' ∧ b = b' ∧ c = c' := by
  unfold ik3
  constructor
  · intro h
    injection h with h1 h2
    injection h2 with h2 h3
    injection h3 with h3 _
    exact ⟨Sum.inl.inj h1, Sum.inl.inj h2, Sum.inl.inj h3⟩
  · rintro ⟨rfl, rfl, rfl⟩
    rfl
theorem ik2_inj {a b a' b' : Int} : ik2 a b = ik2 a' b' ↔ a = a' ∧ b = b' := by
  unfold ik2
  constructor
  · intro h
    injection h with h1 h2
    injection h2 with h2 _
    exact ⟨Sum.inl.inj h1, Sum.inl.inj h2⟩
  · rintro ⟨rfl, rfl⟩
    rfl
/-- what stands in the table -/
def at3 (kvs : List (List Key × V)) (a d m : Int) : V := (valV kvs (ik3 a d m)).getD (.int 0)
def Tab (r : List Bool) (many : Int) (kvs : List (List Key × V)) : Prop := ∀ (a : Nat) (d m : Int), a ≤ r.length → m ≤ many → at3 kvs a d m = .int (wy (r.drop a) d m : Nat)
def sp_counts_of (K : PySem.W.Frag) (C : CA) : Sp := fun vs H Q _ => ∃ (r : List Bool) (many : Int), vs = [.str (T r), .int many] ∧ r.length ≤ 40 ∧ 0 ≤ many ∧ many ≤ 40 ∧ ∀ p H' kvs, H p = none → Ex H H' → H' p = some (.dT kvs) → Tab r many kvs → Q (.ref p) H'
def sp_fewest_of (K : PySem.W.Frag) (C : CA) : Sp := spV fun vs H v => ∃ r : List Bool, Ex03 K C ∧ vs = [.str (T r)] ∧ r.length ≤ 40 ∧ r.length % 2 = 0 ∧ v = .int (mn r : Nat)
def sp_how_many (K : PySem.W.Frag) (C : CA) : Sp := spV fun vs H v => ∃ r : List Bool, Ex03 K C ∧ vs = [.str (T r)] ∧ r.length ≤ 40 ∧ v = .int (hm r : Nat)
def sp_by_number (K : PySem.W.Frag) (C : CA) : Sp := fun vs H Q E => ∃ (r : List Bool) (k : Int), Ex03 K C ∧ vs = [.str (T r), .int k] ∧ r.length ≤ 40 ∧ ((0 ≤ k ∧ k < hm r) → ∀ H', Ex H H' → Q (.str (T (un r 0 (mn r : Nat) k))) H') ∧ (¬ (0 ≤ k ∧ k < hm r) → ∀ H', Ex H H' → E (.ref C.c_BadNumber) none H')
structure Ex06 (K : PySem.W.Frag) (C : CA) : Prop where
  e3 : Ex03 K C
  bn : ExcC K C.c_BadNumber
  bb : PySem.W.exmOne K (.ref C.c_BadNumber) (.ref C.c_BracketError) = some true
def sp__law_far (K : PySem.W.Frag) (C : CA) : Sp := spV fun vs H v => ∃ r x : List Bool, vs = [.str (T r), .str (T x)] ∧ r.length ≤ 1000 ∧ x.length = r.length ∧ v = .int (far x r : Nat)
def lon (xs : List (List Bool)) : List (List Bool) := xs.flatMap fun u => (u ++ [true]) :: if hgt u > 0 then [u ++ [false]] else []
def sp__law_longer (K : PySem.W.Frag) (C : CA) : Sp := spL fun vs H ys => ∃ (a : Addr) (xs : List (List Bool)), vs = [.ref a] ∧ SqL K H a (xs.map fun r => .str (T r)) ∧ xs.length ≤ 1000 ∧ (∀ x ∈ xs, x.length ≤ 100) ∧ ys = (lon xs).map fun r => .str (T r)
def sp__law_every (K : PySem.W.Frag) (C : CA) : Sp := spL fun vs H ys => ∃ r : List Bool, vs = [.str (T r)] ∧ r.length ≤ 10 ∧ ys = (en r 0 (mn r : Nat)).map fun r => .str (T r)
def sp__law_count (K : PySem.W.Frag) (C : CA) : Sp := spU fun vs H xs => ∃ r : List Bool, vs = [.str (T r)] ∧ r.length ≤ 40 ∧ xs = [.int (if 0 < hm r then (mn r : Int) else 0), .int (hm r : Nat)]
def sp__law_refused06 (K : PySem.W.Frag) (C : CA) : Sp := spV fun vs H v => ∃ (r : List Bool) (k : Int), Ex06 K C ∧ vs = [.str (T r), .int k] ∧ r.length ≤ 40 ∧ ¬ (0 ≤ k ∧ k < hm r) ∧ v = .bl true
def sp_law06 (K : PySem.W.Frag) (C : CA) : Sp := spV fun vs H v => ∃ (a : Addr) (ns : List Int), Ex06 K C ∧ vs = [.ref a] ∧ SqL K H a (ns.map V.int) ∧ ns.length ≤ 63 ∧ v = .bl true
end BM
namespace BM
open PySem PySem.Spec PyProof.Rows L2 Evl
/-! ### rows in order -/
theorem lt_B : ∀ {x y : List Bool}, x.length = y.length → ltCps (x.map B) (y.map B) = lex x y
  | [], [], _ => rfl
  | a :: x, b :: y, h => by
    have ih := lt_B (x := x) (y := y) (by simpa using h)
    show (decide (B a < B b) || (B a == B b && ltCps (x.map B) (y.map B))) = if a = b then lex x y else a
    rw [ih]
    cases a <;> cases b <;> simp [B]
  | [], _ :: _, h => by simp at h
  | _ :: _, [], h => by simp at h
theorem lex_total : ∀ {x y : List Bool}, x.length = y.length → lex x y = true ∨ x = y ∨ lex y x = true
  | [], [], _ => .inr (.inl rfl)
  | a :: x, b :: y, h => by
    have ih := lex_total (x := x) (y := y) (by simpa using h)
    unfold lex
    by_cases e : a = b
    · subst e
      simp only [if_true, List.cons.injEq, true_and]
      exact ih
    · rw [if_neg e, if_neg (fun z => e z.symm)]
      cases a <;> cases b <;> simp_all
  | [], _ :: _, h => by simp at h
  | _ :: _, [], h => by simp at h
theorem lex_trans : ∀ {x y z : List Bool}, lex x y = true → lex y z = true → lex x z = true
  | [], _, _, h, _ => by cases h
  | _ :: _, [], _, h, _ => by cases h
  | _ :: _, _ :: _, [], _, h => by cases h
  | a :: x, b :: y, c :: z, h1, h2 => by
    unfold lex at h1 h2 ⊢
    by_cases e1 : a = b
    · subst e1
      rw [if_pos rfl] at h1
      by_cases e2 : a = c
      · rw [if_pos e2] at h2 ⊢
        exact lex_trans h1 h2
      · rw [if_neg e2] at h2 ⊢
        exact h2
    · rw [if_neg e1] at h1
      subst h1
      by_cases e2 : b = c
      · subst e2
        rw [if_neg e1]
      · rw [if_neg e2] at h2
        subst h2
        exact absurd rfl e1
theorem rising_lex {n : Nat} : ∀ (l : List (List Bool)) (x : List Bool), risingS (T x) (l.map T) = true → (x :: l).Nodup → (∀ y ∈ x :: l, y.length = n) → (x :: l).Pairwise fun a b => lex a b = true
  | [], x, _, _, _ => List.pairwise_singleton _ _
  | y :: l, x, h, nd, hl => by
    have h' : (!ltCps (T y).cps.toList (T x).cps.toList && risingS (T y) (l.map T)) = true := h
    rw [Bool.and_eq_true, T_list, T_list] at h'
    have nd' := List.nodup_cons.mp nd
    have lx := hl x List.mem_cons_self
    have ly := hl y (List.mem_cons_of_mem _ List.mem_cons_self)
    have ih := rising_lex l y h'.2 nd'.2 fun z hz => hl z (List.mem_cons_of_mem _ hz)
    rw [lt_B (by omega)] at h'
    have hxy : lex x y = true := by
      rcases lex_total (x := x) (y := y) (by omega) with h | h | h
      · exact h
      · exact absurd (by rw [h]; exact List.mem_cons_self) nd'.1
      · rw [h] at h'
        simp at h'
    refine List.pairwise_cons.mpr ⟨fun z hz => ?_, ih⟩
    rcases List.mem_cons.mp hz with rfl | hz
    · exact hxy
    · exact lex_trans hxy ((List.pairwise_cons.mp ih).1 z hz)
theorem sorted_lex {n : Nat} {l : List (List Bool)} (h : sortedS (l.map T) = true) (nd : l.Nodup) (hl : ∀ y ∈ l, y.length = n) : l.Pairwise fun a b => lex a b = true := by
  cases l with
  | nil => exact .nil
  | cons x l => exact rising_lex l x h nd hl
theorem lex_unique {l1 l2 : List (List Bool)} (p : l1.Perm l2) (h1 : l1.Pairwise fun a b => lex a b = true) (h2 : l2.Pairwise fun a b => lex a b = true) : l1 = l2 :=
  List.Perm.eq_of_pairwise (fun a b _ _ ha hb => by rw [lex_asym ha] at hb; cases hb) h1 h2 p
/-! ### sorted(rows) -/
def Ti (x : Str) : List Bool := x.cps.toList.map fun c => c == 40
theorem Ti_T (r : List Bool) : Ti (T r) = r := by
  unfold Ti
  rw [T_list, List.map_map]
  conv => rhs; rw [← List.map_id r]
  apply List.map_congr_left
  intro b _
  cases b <;> rfl
theorem rows_of_perm {ys : List Str} {rs : List (List Bool)} (h : ys.Perm (rs.map T)) : ∃ us : List (List Bool), ys = us.map T ∧ us.Perm rs := by
  refine ⟨ys.map Ti, ?_, ?_⟩
  · rw [List.map_map]
    conv => lhs; rw [← List.map_id ys]
    apply List.map_congr_left
    intro y hy
    obtain ⟨r, _, rfl⟩ := List.mem_map.mp (h.mem_iff.mp hy)
    show T r = T (Ti (T r))
    rw [Ti_T]
  · have := h.map Ti
    rw [List.map_map] at this
    refine this.trans ?_
    have e : rs.map (Ti ∘ T) = rs := by
      conv => rhs; rw [← List.map_id rs]
      apply List.map_congr_left
      intro r _
      exact Ti_T r
    rw [e]
def aSortedT (K : PySem.W.Frag) : List V → Hp → VK → Prop := fun vs H Q => ∃ (a : Addr) (rs : List (List Bool)), vs = [V.ref a] ∧ SqL K H a (rs.map fun r => .str (T r)) ∧ rs.length < 64 ∧ ∀ (us : List (List Bool)) (p : Addr), us.Perm rs → sortedS (us.map T) = true → H p = none → Q (.ref p) (upd H p (.lst (us.map fun r => .str (T r))))
theorem c_sortedT {X : Cx} : CallR X (.builtin "sorted") (aSortedT X.K) := CallR.imp cr_sortedS fun xs H Q ⟨a, rs, e, hs, hl, q⟩ => ⟨a, rs.map T, e, by rw [List.map_map]; exact hs, by rw [List.length_map]; exact hl, fun ys p hp hso hn => by
  obtain ⟨us, rfl, hu⟩ := rows_of_perm hp
  have := q us p hu hso hn
  rw [List.map_map]
  exact this⟩
section
variable {K : PySem.W.Frag} {H0 : Hp} {σ : L2.St} {s : Ld} {Q : V → Ld → Prop} {D : Dl} {t1 : TS} {g : TG}
theorem wl_sortedT {a : Addr} {rs : List (List Bool)} (hx : IsL K H0 s a (rs.map fun r => .str (T r))) (hl : rs.length < 64) (q : ∀ (us : List (List Bool)) (p : Addr), us.Perm rs → sortedS (us.map T) = true → H0 p = none → Q (.ref p) ⟨(p, .lst (us.map fun r => .str (T r))) :: s.L, s.T⟩) : WL H0 (aSortedT K) [.ref a] s Q := fun H o R k =>
  ⟨a, rs, rfl, hx H o, hl, fun us p h1 h2 hn => k _ _ _ (o.new hn) (q us p h1 h2 (fresh_back o.ex hn))⟩
end
end BM
namespace BM
open PySem L2 Evl
def N_counts_of : List Str := ["row", "many", "found", "at", "depth", "more", "ways", "bracket", "cost"]
def rd_counts_of (K : PySem.W.Frag) (C_ : CA) : TS :=
    (tSeq (tAsg (tDispT [((tTup (tCons (tCB aLenT (tCons (tVar 0) tNil)) (tCons (tC (.int 0)) (tCons (tC (.int 0)) tNil)))), (tC (.int 1)))]) (gName 2))
    (tSeq (tFor (iRng3 (tCons (tOp aSub (tCB aLenT (tCons (tVar 0) tNil)) (tC (.int 1))) (tCons (tUn aNeg (tC (.int 1))) (tCons (tUn aNeg (tC (.int 1))) tNil)))) (gName 3) (tFor (iRng1 (tCons (tOp aAdd (tCB aLenT (tCons (tVar 0) tNil)) (tC (.int 1))) tNil)) (gName 4) (tFor (iRng1 (tCons (tOp aAdd (tVar 1) (tC (.int 1))) tNil)) (gName 5) (tSeq (tAsg (tC (.int 0)) (gName 6))
    (tSeq (tFor (iStr (tC (.str (T [true, false])))) (gName 7) (tSeq (tAsg (tCB aIntB (tCons (tOp rNe (tVar 7) (tOp aIxT (tVar 0) (tVar 3))) tNil)) (gName 8))
    (tAsg (tOp aAdd (tVar 6) (tDGet2 (tVar 2) (tTup (tCons (tOp aAdd (tVar 3) (tC (.int 1))) (tCons (tOp aAdd (tVar 4) (tCall (sp_deepens K C_) [] E0 (tCons (tVar 7) tNil))) (tCons (tOp aSub (tVar 5) (tVar 8)) tNil)))) (tC (.int 0)))) (gName 6))))
    (tIfS (tTest (tOp aGt (tVar 6) (tC (.int 0)))) (sDPut (tVar 2) (tTup (tCons (tVar 3) (tCons (tVar 4) (tCons (tVar 5) tNil)))) (tVar 6)) tNext))))))
    (tRet (tVar 2))))
def N_fewest_of : List Str := ["row"]
def rd_fewest_of (K : PySem.W.Frag) (C_ : CA) : TS :=
    (tRet (tCB (aLenL K) (tCons (tFld K (tCall (sp_turns K C_) [] E0 (tCons (tVar 0) tNil)) "places") tNil)))
def N_how_many : List Str := ["row", "many"]
def rd_how_many (K : PySem.W.Frag) (C_ : CA) : TS :=
    (tSeq (tDrop (tCall (sp_asked_row K C_) [] E0 (tCons (tVar 0) tNil)))
    (tSeq (tIfS (tTest (tOp rEq (tOp aMod (tCB aLenT (tCons (tVar 0) tNil)) (tC (.int 2))) (tC (.int 1)))) (tRet (tC (.int 0))) tNext)
    (tSeq (tAsg (tCall (sp_fewest_of K C_) [] E0 (tCons (tVar 0) tNil)) (gName 1))
    (tRet (tDGet2 (tCall (sp_counts_of K C_) [] E0 (tCons (tVar 0) (tCons (tVar 1) tNil))) (tTup (tCons (tC (.int 0)) (tCons (tC (.int 0)) (tCons (tVar 1) tNil)))) (tC (.int 0)))))))
def N_by_number : List Str := ["row", "number", "counts", "many", "depth", "found", "at", "mine", "ways", "bracket"]
def rd_by_number (K : PySem.W.Frag) (C_ : CA) (E : XK) : TS :=
    (tSeq (tDrop (tCall (sp_asked_row K C_) [] E0 (tCons (tVar 0) tNil)))
    (tSeq (tIfS (tOr (tNot (tB (tCall (sp_is_whole K C_) [] E0 (tCons (tVar 1) tNil)))) (tNot (tTest (tChain aLe aLt (tC (.int 0)) (tVar 1) (tCall (sp_how_many K C_) [] E0 (tCons (tVar 0) tNil)))))) (tRaiseX C_.c_BadNumber E) tNext)
    (tSeq (tPar3 3 4 5 (tCons (tCall (sp_fewest_of K C_) [] E0 (tCons (tVar 0) tNil)) (tCons (tC (.int 0)) (tCons (tC (.str (T []))) tNil))))
    (tSeq (tAsg (tCall (sp_counts_of K C_) [] E0 (tCons (tVar 0) (tCons (tVar 3) tNil))) (gName 2))
    (tSeq (tFor (iEnumT (tCons (tVar 0) tNil)) (gTup K 2 (gCons (gName 6) (gCons (gName 7) gNil))) (tSeq (tAsg (tDGet2 (tVar 2) (tTup (tCons (tOp aAdd (tVar 6) (tC (.int 1))) (tCons (tOp aAdd (tVar 4) (tC (.int 1))) (tCons (tOp aSub (tVar 3) (tCB aIntB (tCons (tOp rNe (tVar 7) (tC (.str (T [true])))) tNil))) tNil)))) (tC (.int 0))) (gName 8))
    (tSeq (tAsg (tIf (tTest (tOp aLt (tVar 1) (tVar 8))) (tC (.str (T [true]))) (tC (.str (T [false])))) (gName 9))
    (tSeq (tAsg (tIf (tTest (tOp rEq (tVar 9) (tC (.str (T [true]))))) (tVar 1) (tOp aSub (tVar 1) (tVar 8))) (gName 1))
    (tSeq (tAsg (tOp aCatT (tVar 5) (tVar 9)) (gName 5))
    (tSeq (tAsg (tOp aAdd (tVar 4) (tCall (sp_deepens K C_) [] E0 (tCons (tVar 9) tNil))) (gName 4))
    (tAsg (tOp aSub (tVar 3) (tCB aIntB (tCons (tOp rNe (tVar 9) (tVar 7)) tNil))) (gName 3))))))))
    (tRet (tVar 5)))))))
def N__law_far : List Str := ["_law_one", "_law_other", "_law_at"]
def rd__law_far (K : PySem.W.Frag) (C_ : CA) : TS :=
    (tRet (tCB (aLenL K) (tCons (tLc (iRng1 (tCons (tCB aLenT (tCons (tVar 0) tNil)) tNil)) (gName 2) (tTest (tOp rNe (tOp aIxT (tVar 0) (tVar 2)) (tOp aIxT (tVar 1) (tVar 2)))) (tVar 2) [2]) tNil)))
def N__law_every : List Str := ["_law_row_here", "_law_bracket", "_law_good_here", "_law_found", "_law_rows", "_law_best", "_law_one"]
def rd__law_every (K : PySem.W.Frag) (C_ : CA) : TS :=
    (tSeq (tPar 3 4 (tCons (tLst tNil) (tCons (tLst (tCons (tC (.str (T []))) tNil)) tNil)))
    (tSeq (tFor (iStr (tVar 0)) (gName 1) (tAsg (tCall (sp__law_longer K C_) [] E0 (tCons (tVar 4) tNil)) (gName 4)))
    (tSeq (tAsg (tLc (iList K (tVar 4)) (gName 6) (tB (tCall (sp__law_good K C_) [] E0 (tCons (tVar 6) tNil))) (tVar 6) [6]) (gName 2))
    (tSeq (tIfS (tTest (tOp (rNeD K) (tVar 2) (tLst tNil))) (tSeq (tAsg (tCB (rMin K) (tCons (tLc (iList K (tVar 2)) (gName 6) tYes (tCall (sp__law_far K C_) [] E0 (tCons (tVar 0) (tCons (tVar 6) tNil))) [6]) tNil)) (gName 5))
    (tAsg (tCB (aSortedT K) (tCons (tLc (iList K (tVar 2)) (gName 6) (tTest (tOp rEq (tCall (sp__law_far K C_) [] E0 (tCons (tVar 0) (tCons (tVar 6) tNil))) (tVar 5))) (tVar 6) [6]) tNil)) (gName 3))) tNext)
    (tRet (tVar 3))))))
def N__law_longer : List Str := ["_law_rows", "_law_found", "_law_one", "_law_depth", "_law_more"]
def rd__law_longer (K : PySem.W.Frag) (C_ : CA) : TS :=
    (tSeq (tAsg (tLst tNil) (gName 1))
    (tSeq (tFor (iList K (tVar 0)) (gName 2) (tSeq (tAsg (tOp aSub (tBM K "str" aCountT (tVar 2) (tCons (tC (.str (T [true]))) tNil)) (tBM K "str" aCountT (tVar 2) (tCons (tC (.str (T [false]))) tNil))) (gName 3))
    (tDrop (tBM K "list" rExtend (tVar 1) (tCons (tLc (iStr (tC (.str (T [true, false])))) (gName 4) (tOr (tTest (tOp aGt (tVar 3) (tC (.int 0)))) (tTest (tOp rEq (tVar 4) (tC (.str (T [true])))))) (tOp aCatT (tVar 2) (tVar 4)) [4]) tNil)))))
    (tRet (tVar 1))))
def N__law_count : List Str := ["_law_row_here", "_law_stands", "_law_bracket", "_law_good_here", "_law_after", "_law_depth", "_law_many", "_law_more", "_law_deep", "_law_key"]
def rd__law_count (K : PySem.W.Frag) (C_ : CA) : TS :=
    (tSeq (tAsg (tDispT [((tTup (tCons (tC (.int 0)) (tCons (tC (.int 0)) tNil))), (tC (.int 1)))]) (gName 1))
    (tSeq (tFor (iStr (tVar 0)) (gName 2) (tSeq (tAsg tDNewT (gName 4))
    (tSeq (tLock (tFor (iKeys (tVar 1)) (gTup K 2 (gCons (gName 5) (gCons (gName 6) gNil))) (tFor (iStr (tC (.str (T [true, false])))) (gName 7) (tSeq (tAsg (tOp aAdd (tVar 5) (tIf (tTest (tOp rEq (tVar 7) (tC (.str (T [true]))))) (tC (.int 1)) (tUn aNeg (tC (.int 1))))) (gName 8))
    (tIfS (tTest (tOp aGe (tVar 8) (tC (.int 0)))) (tSeq (tAsg (tTup (tCons (tVar 8) (tCons (tOp aAdd (tVar 6) (tCB aIntB (tCons (tOp rNe (tVar 7) (tVar 2)) tNil))) tNil))) (gName 9))
    (sDPut (tVar 4) (tVar 9) (tOp aAdd (tDGet2 (tVar 4) (tVar 9) (tC (.int 0))) (tDGet (tVar 1) (tTup (tCons (tVar 5) (tCons (tVar 6) tNil))))))) tNext)))))
    (tAsg (tVar 4) (gName 1)))))
    (tSeq (tLock (tAsg (tCB (rSortedPO K) (tCons (tLc (iKeys (tVar 1)) (gTup K 2 (gCons (gName 5) (gCons (gName 6) gNil))) (tTest (tOp rEq (tVar 5) (tC (.int 0)))) (tTup (tCons (tVar 6) (tCons (tDGet (tVar 1) (tTup (tCons (tVar 5) (tCons (tVar 6) tNil)))) tNil))) [5, 6]) tNil)) (gName 3)))
    (tRet (tIf (tTest (tOp (rNeD K) (tVar 3) (tLst tNil))) (tOp (rIxL K) (tVar 3) (tC (.int 0))) (tTup (tCons (tC (.int 0)) (tCons (tC (.int 0)) tNil))))))))
def N__law_refused06 : List Str := ["_law_row_here", "_law_number_here", "error"]
def rd__law_refused06 (K : PySem.W.Frag) (C_ : CA) : TS :=
    (tSeq (tTry K (.ref C_.c_BracketError) 2 (fun W => (tDrop (tCallS (sp_by_number K C_) (L2.WE W) (tCons (tVar 0) (tCons (tVar 1) tNil))))) (fun a cls d => tExc K cls d fun D0 => (tRet (tCB (rIsE K D0 a) (tCons (tVar 2) (tCons (tC (.ref C_.c_BadNumber)) tNil))))))
    (tRet (tC (.bl false))))
end BM
namespace BM
open PySem L2 Evl
local macro_rules | `(tactic| walk_at "mem") => `(tactic| first | exact List.mem_cons_self | (refine List.mem_cons_of_mem _ ?_; walk_at "mem"))
local macro_rules | `(tactic| walk_at "swap") => `(tactic| first | exact Swap.here | (apply Swap.there; walk_at "swap"))
local macro_rules | `(tactic| walk_at "subl") => `(tactic| first | exact List.Sublist.refl _ | exact List.nil_sublist _ | (refine List.Sublist.cons_cons _ ?_; walk_at "subl") | (refine List.Sublist.cons _ ?_; walk_at "subl"))
local macro_rules | `(tactic| walk_at "sub") => `(tactic| first | exact Sub.refl _ | (refine ⟨?_, ?_⟩ <;> walk_at "subl"))
local macro_rules | `(tactic| walk_at "isl") => `(tactic| first | exact isL_own (by walk_at "mem") | exact isL_old (by assumption) | assumption)
local macro_rules | `(tactic| walk_at "ist") => `(tactic| first | exact isT_own (by walk_at "mem") | exact isT_old (by assumption) | assumption)
local macro_rules | `(tactic| walk_at "len") => `(tactic| first | omega | decide | (simp only [List.length_map, List.length_take, List.length_drop, List.length_append, List.length_cons, List.length_nil, List.length_reverse, dps_len, flp_len]; omega) | (simp [dps_len, flp_len]; omega) | simp)
local macro_rules | `(tactic| walk_at "b0") => `(tactic| first
  | with_reducible refine' ws_set ?_
  | with_reducible refine' ws_par ?_
  | with_reducible refine' ws_asg ?_
  | with_reducible refine' ws_drop ?_
  | with_reducible refine' ws_ret ?_
  | with_reducible refine' ws_if ?_
  | with_reducible refine' ws_next ?_
  | with_reducible refine' ws_brk ?_
  | with_reducible refine' ws_cont ?_
  | ((with_reducible refine' we_var ?hv ?_); case hv => rfl)
  | with_reducible refine' we_c ?_
  | with_reducible refine' we_op ?_
  | with_reducible refine' we_un ?_
  | with_reducible refine' we_if ?_
  | with_reducible refine' we_and ?_
  | with_reducible refine' we_or ?_
  | with_reducible refine' we_not ?_
  | with_reducible refine' wa_nil ?_
  | with_reducible refine' wa_cons ?_
  | (with_reducible refine' we_lst ?_)
  | (with_reducible refine' we_tup ?_)
  | with_reducible refine' we_cb ?_
  | with_reducible refine' we_call0 ?_
  | with_reducible refine' we_sl ?_
  | with_reducible refine' wo_none ?_
  | (with_reducible refine' wo_some ?_)
  | with_reducible refine' wt_test ?_
  | with_reducible refine' wt_B ?_
  | with_reducible refine' wt_and ?_
  | with_reducible refine' wt_or ?_
  | with_reducible refine' wt_not ?_
  | with_reducible refine' wt_yes ?_
  | with_reducible refine' we_chain ?_
  | with_reducible refine' we_chain3 ?_
  | with_reducible refine' we_revT ?_
  | with_reducible refine' we_revL ?_
  | with_reducible refine' we_bm ?_
  | with_reducible refine' we_bm0 ?_
  | with_reducible refine' ws_for ?_
  | with_reducible refine' we_lc ?_
  | with_reducible refine' wi_list ?_
  | with_reducible refine' wi_tup ?_
  | with_reducible refine' wi_T ?_
  | with_reducible refine' wi_rng1 ?_
  | with_reducible refine' wi_rng2 ?_
  | with_reducible refine' wi_rng3 ?_
  | with_reducible refine' wi_enum ?_
  | with_reducible refine' wi_enumT ?_
  | with_reducible refine' wi_zip ?_
  | with_reducible refine' wg_name ?_
  | with_reducible refine' wg_sub ?_
  | with_reducible refine' wgs_nil ?_
  | with_reducible refine' wgs_cons ?_
  | ((with_reducible refine' wg_tup ?ht ?hn ?_); (case ht => walk_at "ist"); (case hn => rfl))
  | with_reducible refine' w2_add ?_
  | with_reducible refine' w2_sub ?_
  | with_reducible refine' w2_lt ?_
  | with_reducible refine' w2_le ?_
  | with_reducible refine' w2_gt ?_
  | with_reducible refine' w2_ge ?_
  | with_reducible refine' w2_eqI ?_
  | with_reducible refine' w2_neI ?_
  | with_reducible refine' w2_eqT ?_
  | with_reducible refine' w2_neT ?_
  | with_reducible refine' w2_eqB ?_
  | with_reducible refine' w2_neB ?_
  | with_reducible refine' w2_isN ?_
  | with_reducible refine' w2_notN ?_
  | with_reducible refine' w2_isB ?_
  | with_reducible refine' w2_inT ?_
  | with_reducible refine' w1_neg ?_
  | with_reducible refine' wl_abs ?_
  | with_reducible refine' wl_max2 ?_
  | with_reducible refine' wl_min2 ?_
  | with_reducible refine' wl_intB ?_
  | ((with_reducible refine' w2_div ?h ?_); case h => first | omega | (constructor <;> omega))
  | ((with_reducible refine' w2_mod ?h ?_); case h => omega)
  | ((with_reducible refine' w2_catT ?h ?_); case h => walk_at "len")
  | ((with_reducible refine' wsl_T ?h ?_); case h => walk_at "len")
  | ((with_reducible refine' wl_lenT ?h ?_); case h => walk_at "len")
  | ((with_reducible refine' wl_len ?h ?_); case h => walk_at "isl")
  | ((with_reducible refine' wl_len ?h ?_); case h => walk_at "isl")
  | ((with_reducible refine' wm_append ?sw ?hl ?_); (case sw => walk_at "swap"); (case hl => walk_at "len")))
local macro_rules | `(tactic| walk_at "b1") => `(tactic| first | with_reducible refine' ws_seq ?_ | walk_at "b0")
local macro_rules | `(tactic| walk_at "bx") => `(tactic| first
  | refine ⟨_, rfl, ?_⟩
  | refine ⟨_, _, rfl, ?_⟩
  | refine ⟨ty_L (by walk_at "isl"), ?_⟩
  | refine ⟨ty_S, ?_⟩
  | refine spl_t (by rfl) ?_
  | refine spl_f (by rfl) ?_
  | exact rfl)
local macro_rules | `(tactic| walk_at "bm") => `(tactic| repeat (first | walk_at "b1" | walk_at "bx"))
local macro_rules | `(tactic| walk_at "bn") => `(tactic| repeat (first | walk_at "b0" | walk_at "bx"))
local macro_rules | `(tactic| walk_at "b0") => `(tactic| with_reducible refine' c_deepens ?_)
local macro_rules | `(tactic| walk_at "b0") => `(tactic| ((with_reducible refine' c_depths_of ?hl ?_); (case hl => walk_at "len")))
local macro_rules | `(tactic| walk_at "b0") => `(tactic| with_reducible refine' c_is_wholeI ?_)
local macro_rules | `(tactic| walk_at "b0") => `(tactic| with_reducible refine' c_flipped ?_)
local macro_rules | `(tactic| walk_at "b0") => `(tactic| ((with_reducible refine' c_is_right_row ?hl ?_); (case hl => walk_at "len")))
local macro_rules | `(tactic| walk_at "b0") => `(tactic| ((with_reducible refine' c_asked_row ?hl ?_); (case hl => walk_at "len")))
local macro_rules | `(tactic| walk_at "b0") => `(tactic| ((with_reducible refine' c_depths ?hl ?_); (case hl => walk_at "len")))
local macro_rules | `(tactic| walk_at "b0") => `(tactic| ((with_reducible refine' c_is_right ?hl ?_); (case hl => walk_at "len")))
local macro_rules | `(tactic| walk_at "b0") => `(tactic| ((with_reducible refine' c__law_depths ?hl ?_); (case hl => walk_at "len")))
local macro_rules | `(tactic| walk_at "b0") => `(tactic| ((with_reducible refine' c__law_good ?hl ?_); (case hl => walk_at "len")))
local macro_rules | `(tactic| walk_at "b0") => `(tactic| ((with_reducible refine' wl_listOf ?hx ?_); (case hx => walk_at "isl")))
local macro_rules | `(tactic| walk_at "b0") => `(tactic| with_reducible refine' w2_notB ?_)
local macro_rules | `(tactic| walk_at "own") => `(tactic| exact own_l (by walk_at "mem"))
local macro_rules | `(tactic| walk_at "b0") => `(tactic| with_reducible refine' we_fld ?_)
local macro_rules | `(tactic| walk_at "b0") => `(tactic| refine ⟨_, _, _, _, _, rfl, own_l (by walk_at "mem"), Grw.cl (by assumption), Grw.nr (by assumption), by rfl, ?_⟩)
local macro_rules | `(tactic| walk_at "b0") => `(tactic| refine ⟨_, _, _, _, _, rfl, fun H' o => o.ex _ _ (by assumption), Grw.cl (by assumption), Grw.nr (by assumption), by rfl, ?_⟩)
local macro_rules | `(tactic| walk_at "b0") => `(tactic| with_reducible refine' we_meth ?_)
local macro_rules | `(tactic| walk_at "b0") => `(tactic| refine ⟨_, _, _, rfl, own_l (by walk_at "mem"), by rfl, ?_⟩)
local macro_rules | `(tactic| walk_at "b0") => `(tactic| refine ⟨_, _, _, rfl, fun H' o => o.ex _ _ (by assumption), by rfl, ?_⟩)
local macro_rules | `(tactic| walk_at "gown") => `(tactic| first | exact own_l (by walk_at "mem") | exact fun H' o => o.ex _ _ (by assumption))
local macro_rules | `(tactic| walk_at "b0") => `(tactic| with_reducible refine' wm_countT ?_)
local macro_rules | `(tactic| walk_at "b0") => `(tactic| with_reducible refine' we_methU ?_)
local macro_rules | `(tactic| walk_at "mem") => `(tactic| assumption)
theorem wy_cons {b : Bool} {u : List Bool} {d m : Int} (hd : 0 ≤ d) (hm : 0 ≤ m) : wy (b :: u) d m = wy u (d + 1) (m - cs true b) + wy u (d - 1) (m - cs false b) := by
  show (if d < 0 ∨ m < 0 then 0 else _) = _
  rw [if_neg (by omega)]
theorem at3_put (kvs : List (List Key × V)) (a d m a' d' m' : Int) (v : V) : at3 (putK kvs (ik3 a d m) v) a' d' m' = if a' = a ∧ d' = d ∧ m' = m then v else at3 kvs a' d' m' := by
  unfold at3
  rw [valV_put]
  by_cases h : a' = a ∧ d' = d ∧ m' = m
  · rw [if_pos (ik3_inj.mpr h), if_pos h]
    rfl
  · rw [if_neg (fun z => h (ik3_inj.mp z)), if_neg h]
/-- the table while the stand (A, j, k) is due -/
def TabO (r : List Bool) (many : Int) (A : Nat) (j k : Int) (kvs : List (List Key × V)) : Prop := ∀ (a : Nat) (d m : Int), a ≤ r.length → m ≤ many →
  at3 kvs a d m = .int ((if A < a ∨ (a = A ∧ (d < j ∨ (d = j ∧ m < k))) then wy (r.drop a) d m else 0 : Nat) : Int)
theorem TabO.next {r : List Bool} {many : Int} {A : Nat} {j k : Int} {kvs : List (List Key × V)} (h : TabO r many A j k kvs) {w : Nat} (hw : w = wy (r.drop A) j k) : TabO r many A j (k + 1) (if 0 < w then putK kvs (ik3 A j k) (.int (w : Int)) else kvs) := by
  intro a d m ha hm
  have g := h a d m ha hm
  split
  · rename_i hp
    rw [at3_put]
    by_cases e : (a : Int) = A ∧ d = j ∧ m = k
    · rw [if_pos e, if_pos (by omega)]
      obtain ⟨e1, rfl, rfl⟩ := e
      rw [hw, show a = A by omega]
    · rw [if_neg e, g]
      congr 2
      by_cases c : A < a ∨ (a = A ∧ (d < j ∨ (d = j ∧ m < k)))
      · rw [if_pos c, if_pos (by omega)]
      · rw [if_neg c, if_neg (by omega)]
  · rename_i hp
    rw [g]
    congr 2
    by_cases c : A < a ∨ (a = A ∧ (d < j ∨ (d = j ∧ m < k)))
    · rw [if_pos c, if_pos (by omega)]
    · rw [if_neg c]
      by_cases e : a = A ∧ d = j ∧ m = k
      · obtain ⟨rfl, rfl, rfl⟩ := e
        rw [if_pos (by omega)]
        omega
      · rw [if_neg (by omega)]
theorem TabO.row {r : List Bool} {many : Int} {A : Nat} {j : Int} {kvs : List (List Key × V)} (h : TabO r many A j (many + 1) kvs) : TabO r many A (j + 1) 0 kvs := by
  intro a d m ha hm
  rw [h a d m ha hm]
  congr 2
  by_cases c : A < a ∨ (a = A ∧ (d < j ∨ (d = j ∧ m < many + 1)))
  · rw [if_pos c, if_pos (by omega)]
  · rw [if_neg c]
    by_cases e : A < a ∨ (a = A ∧ (d < j + 1 ∨ (d = j + 1 ∧ m < 0)))
    · rw [if_pos e]
      have : m < 0 := by omega
      exact (wy_neg (.inr this)).symm
    · rw [if_neg e]
theorem TabO.done {r : List Bool} {many : Int} {A : Nat} {kvs : List (List Key × V)} (h : TabO r many (A + 1) ((r.length : Int) + 1) 0 kvs) : TabO r many A 0 0 kvs := by
  intro a d m ha hm
  rw [h a d m ha hm]
  congr 2
  by_cases c : A + 1 < a ∨ (a = A + 1 ∧ (d < (r.length : Int) + 1 ∨ (d = (r.length : Int) + 1 ∧ m < 0)))
  · rw [if_pos c, if_pos (by omega)]
  · rw [if_neg c]
    by_cases e : A < a ∨ (a = A ∧ (d < 0 ∨ (d = 0 ∧ m < 0)))
    · rw [if_pos e]
      symm
      by_cases hd : (r.length : Int) < d
      · exact wy_high _ _ _ (by rw [List.length_drop]; omega)
      · exact wy_neg (by omega)
    · rw [if_neg e]
theorem TabO.start {r : List Bool} {many : Int} (hm : 0 ≤ many) : TabO r many r.length ((r.length : Int) + 1) 0 [(ik3 r.length 0 0, .int 1)] := by
  intro a d m ha hm
  unfold at3
  by_cases e : (a : Int) = r.length ∧ d = 0 ∧ m = 0
  · obtain ⟨e1, rfl, rfl⟩ := e
    rw [valV_pos (ik3_inj.mpr ⟨e1.symm, rfl, rfl⟩), if_pos (by omega), show a = r.length by omega, List.drop_length]
    rfl
  · rw [valV_neg (fun z => e (by have := ik3_inj.mp z; omega)), valV_nil]
    have : wy (r.drop a) d m = 0 ∨ ¬ (r.length < a ∨ (a = r.length ∧ (d < (r.length : Int) + 1 ∨ (d = (r.length : Int) + 1 ∧ m < 0)))) := by
      by_cases h : a = r.length
      · left
        rw [h, List.drop_length]
        show (if d = 0 ∧ m = 0 then 1 else 0) = 0
        rw [if_neg (by omega)]
      · right
        omega
    rcases this with h | h
    · rw [h]
      simp
    · rw [if_neg h]
      rfl
theorem ln_counts_of {K : PySem.W.Frag} {C : CA} {vs : List V} {H : Hp} {Q : VK} {E : XK} (h : sp_counts_of K C vs H Q E) : vs.length = 2 := by
  obtain ⟨r, many, rfl, _⟩ := h
  rfl
theorem pu_counts_of {K : PySem.W.Frag} {C : CA} {vs : List V} {H : Hp} {Q : VK} {E : XK} (h : sp_counts_of K C vs H Q E) : rd_counts_of K C { nx := fun _ H' => Q .non H', rt := Q } (start N_counts_of vs) H := by
  obtain ⟨r, many, rfl, hl, hm0, hm1, k⟩ := h
  refine body_K (P := fun v s => ∃ p kvs, v = .ref p ∧ (p, HO.dT kvs) ∈ s.L ∧ Tab r many kvs) ?_ ?_
  · unfold rd_counts_of
    refine ws_cut (fun σ s => ∃ p, σ = [some (.str (T r)), some (.int many), some (.ref p), none, none, none, none, none, none] ∧ (p, HO.dT [(ik3 r.length 0 0, .int 1)]) ∈ s.L) ?_ ?_
    · walk_at "bm"
      refine we_dispT fun p hp => ?_
      walk_at "bm"
      refine ⟨by simp, fun t ht => ?_⟩
      walk_at "bm"
      refine ⟨ik3 r.length 0 0, t, _, rfl, List.mem_cons_self, Swap.here, ?_⟩
      exact ⟨_, Sub.refl _, p, rfl, List.mem_cons_self⟩
    rintro σ s ⟨p, rfl, hp0⟩
    refine ws_cut (fun σ s => ∃ kvs x3 x4 x5 x6 x7 x8, σ = [some (.str (T r)), some (.int many), some (.ref p), x3, x4, x5, x6, x7, x8] ∧ (p, HO.dT kvs) ∈ s.L ∧ TabO r many 0 ((r.length : Int) + 1) 0 kvs) ?_ ?_
    · walk_at "bm"
      refine ⟨_, _, _, r.length, rfl, ?_, ?_⟩
      · have := RgC.neg (i := (r.length : Int) - 1) (j := -1) (by omega) (by omega) (by omega) (by omega)
        rw [show ((r.length : Int) - 1 - -1).toNat = r.length by omega] at this
        exact this
      refine lp_rngC (fun i σ s => ∃ kvs x3 x4 x5 x6 x7 x8, σ = [some (.str (T r)), some (.int many), some (.ref p), x3, x4, x5, x6, x7, x8] ∧ (p, HO.dT kvs) ∈ s.L ∧ TabO r many (r.length - i) ((r.length : Int) + 1) 0 kvs ∧ kvs.length ≤ 1 + 1700 * i) ⟨_, none, none, none, none, none, none, rfl, hp0, by rw [Nat.sub_zero]; exact .start hm0, by simp⟩ ?_ (fun σ s ⟨kvs, x3, x4, x5, x6, x7, x8, e1, e2, e3, e4⟩ => ⟨_, Sub.refl _, kvs, x3, x4, x5, x6, x7, x8, e1, e2, by rw [Nat.sub_self] at e3; exact e3⟩)
      rintro i σ s hi ⟨kvs, x3, x4, x5, x6, x7, x8, rfl, hp, hT, hkl⟩
      obtain ⟨A, hA⟩ : ∃ A : Nat, A = r.length - 1 - i := ⟨_, rfl⟩
      have hT0 : TabO r many A 0 0 kvs := .done (by rw [show A + 1 = r.length - i by omega]; exact hT)
      rw [show ((r.length : Int) - 1 + (i : Int) * -1) = (A : Int) by omega]
      obtain ⟨b, hb⟩ := get_some (r := r) (i := A) (by omega)
      have hdrop : r.drop A = b :: r.drop (A + 1) := by
        have h1 := List.drop_eq_getElem_cons (l := r) (i := A) (by omega)
        rw [h1]
        congr 1
        rw [List.getElem?_eq_getElem (by omega)] at hb
        exact Option.some.inj hb
      refine wg_name ?_
      walk_at "bm"
      refine ⟨by omega, ?_⟩
      rw [show ((r.length : Int) + 1).toNat = r.length + 1 by omega]
      refine lp_rng (fun j σ s => ∃ kvs x4 x5 x6 x7 x8, σ = [some (.str (T r)), some (.int many), some (.ref p), some (.int (A : Int)), x4, x5, x6, x7, x8] ∧ (p, HO.dT kvs) ∈ s.L ∧ TabO r many A (j : Int) 0 kvs ∧ kvs.length ≤ 1 + 1700 * i + 41 * j) ⟨kvs, x4, x5, x6, x7, x8, rfl, hp, hT0, by omega⟩ ?_ (fun σ s ⟨kvs, x4, x5, x6, x7, x8, e1, e2, e3, e4⟩ => ⟨_, Sub.refl _, kvs, _, x4, x5, x6, x7, x8, e1, e2, by rw [show r.length - (i + 1) = A by omega]; rw [show ((r.length : Int) + 1) = ((r.length + 1 : Nat) : Int) by omega]; exact e3, by omega⟩)
      rintro j σ s hj ⟨kvs, x4, x5, x6, x7, x8, rfl, hp, hT, hkl⟩
      rw [show ((0 : Int) + (j : Int)) = (j : Int) by omega]
      refine wg_name ?_
      walk_at "bm"
      refine ⟨by omega, ?_⟩
      refine lp_rng (fun k σ s => ∃ kvs x5 x6 x7 x8, σ = [some (.str (T r)), some (.int many), some (.ref p), some (.int (A : Int)), some (.int (j : Int)), x5, x6, x7, x8] ∧ (p, HO.dT kvs) ∈ s.L ∧ TabO r many A (j : Int) (k : Int) kvs ∧ kvs.length ≤ 1 + 1700 * i + 41 * j + k) ⟨kvs, x5, x6, x7, x8, rfl, hp, hT, by omega⟩ ?_ (fun σ s ⟨kvs, x5, x6, x7, x8, e1, e2, e3, e4⟩ => ⟨_, Sub.refl _, kvs, _, x5, x6, x7, x8, e1, e2, by
        rw [show ((j + 1 : Nat) : Int) = (j : Int) + 1 by omega]
        refine TabO.row ?_
        rw [show (many + 1) = (((many + 1).toNat : Nat) : Int) by omega]
        exact e3, by omega⟩)
      rintro k σ s hk ⟨kvs, x5, x6, x7, x8, rfl, hp, hT, hkl⟩
      rw [show ((0 : Int) + (k : Int)) = (k : Int) by omega]
      have hkm : (k : Int) ≤ many := by omega
      refine wg_name ?_
      refine ws_seq ?_
      walk_at "bn"
      refine ws_cut (fun σ s => ∃ x7 x8, σ = [some (.str (T r)), some (.int many), some (.ref p), some (.int (A : Int)), some (.int (j : Int)), some (.int (k : Int)), some (.int ((wy (r.drop A) (j : Int) (k : Int) : Nat) : Int)), x7, x8] ∧ (p, HO.dT kvs) ∈ s.L) ?_ ?_
      · walk_at "bm"
        refine lp_T (r := [true, false]) (n := 2) (fun c σ s => ∃ x7 x8, σ = [some (.str (T r)), some (.int many), some (.ref p), some (.int (A : Int)), some (.int (j : Int)), some (.int (k : Int)), some (.int ((((if 1 ≤ c then wy (r.drop (A + 1)) ((j : Int) + 1) ((k : Int) - cs true b) else 0) + (if 2 ≤ c then wy (r.drop (A + 1)) ((j : Int) - 1) ((k : Int) - cs false b) else 0) : Nat)) : Int)), x7, x8] ∧ (p, HO.dT kvs) ∈ s.L) rfl ⟨x7, x8, rfl, hp⟩ ?_ (fun σ s ⟨x7, x8, e1, e2⟩ => ⟨_, Sub.refl _, x7, x8, by rw [e1, hdrop, wy_cons (by omega) (by omega)]; rfl, e2⟩)
        rintro c z σ s hc hz ⟨x7, x8, rfl, hp⟩
        have hat : ∀ (d m : Int), m ≤ many → at3 kvs ((A : Int) + 1) d m = .int (wy (r.drop (A + 1)) d m : Nat) := fun d m hm => by
          have := hT (A + 1) d m (by omega) hm
          rw [if_pos (by omega)] at this
          exact this
        have hcs : ((if (!decide ([z] = [b])) = true then 1 else 0 : Int)) = cs z b := by
          unfold cs
          cases z <;> cases b <;> rfl
        refine wg_name ?_
        walk_at "bm"
        refine w2_ixT (by omega) (atI_of (by omega) (by rw [Int.toNat_natCast]; exact hb)) ?_
        walk_at "bm"
        rw [hcs]
        refine we_dget2T ?_
        walk_at "bm"
        refine ⟨isD_L hp, ?_⟩
        walk_at "bm"
        refine ⟨by simp, fun t ht => ?_⟩
        walk_at "bm"
        refine ⟨t, kvs, ik3 ((A : Int) + 1) ((j : Int) + sg z) ((k : Int) - cs z b), rfl, rd_L hp, List.mem_cons_self, ?_⟩
        show W2 _ _ _ (at3 kvs ((A : Int) + 1) ((j : Int) + sg z) ((k : Int) - cs z b)) _ _
        have hc0 := cs_nn z b
        rw [hat _ _ (by omega)]
        walk_at "bm"
        have hcz : (c = 0 ∧ z = true) ∨ (c = 1 ∧ z = false) := by
          rcases Nat.lt_or_ge c 1 with h | h
          · have : c = 0 := by omega
            subst this
            exact .inl ⟨rfl, (Option.some.inj hz).symm⟩
          · have : c = 1 := by omega
            subst this
            exact .inr ⟨rfl, (Option.some.inj hz).symm⟩
        rcases hcz with ⟨rfl, rfl⟩ | ⟨rfl, rfl⟩
        · refine ⟨_, Sub.refl _, some (.str (T [true])), some (.int (cs true b)), ?_, hp⟩
          simp [sg]
        · refine ⟨_, Sub.refl _, some (.str (T [false])), some (.int (cs false b)), ?_, hp⟩
          simp [sg, Int.sub_eq_add_neg]
      rintro σ s ⟨x7, x8, rfl, hp⟩
      obtain ⟨w, hw⟩ : ∃ w, w = wy (r.drop A) (j : Int) (k : Int) := ⟨_, rfl⟩
      have hN := hT.next hw
      rw [← hw]
      walk_at "bm"
      refine ⟨fun h => ?_, fun h => ?_⟩
      · have h' : 0 < w := by have := of_decide_eq_true h; omega
        rw [if_pos h'] at hN
        refine ws_dputT ?_
        walk_at "bm"
        refine ⟨by simp, fun t ht => ?_⟩
        refine ⟨p, t, kvs, ik3 (A : Int) (j : Int) (k : Int), rfl, rfl, hp, List.mem_cons_self, by omega, fun L' h1 h2 => ?_⟩
        exact ⟨_, Sub.refl _, _, _, _, _, _, rfl, h1, hN, by have := length_putK kvs (ik3 (A : Int) (j : Int) (k : Int)) (.int (w : Int)); omega⟩
      · have h' : ¬ 0 < w := by have := of_decide_eq_false h; omega
        rw [if_neg h'] at hN
        walk_at "bm"
        exact ⟨_, Sub.refl _, kvs, _, _, _, _, rfl, hp, hN, by omega⟩
    rintro σ s ⟨kvs, x3, x4, x5, x6, x7, x8, rfl, hp, hT⟩
    walk_at "bm"
    refine ⟨p, kvs, rfl, hp, fun a d m ha hm => ?_⟩
    have g := hT a d m ha hm
    rw [g]
    congr 2
    by_cases e : 0 < a ∨ (a = 0 ∧ (d < (r.length : Int) + 1 ∨ (d = (r.length : Int) + 1 ∧ m < 0)))
    · rw [if_pos e]
    · rw [if_neg e]
      exact (wy_high _ _ _ (by rw [List.length_drop]; omega)).symm
  · rintro v H' s w ⟨p, kvs, rfl, hp, hT⟩
    exact k p H' kvs (w.own _ hp).1 w.ex (w.own _ hp).2 hT
theorem c_counts_of {K : PySem.W.Frag} {C : CA} {H0 : Hp} {s : Ld} {Q : V → Ld → Prop} {E : XK} {r : List Bool} {many : Int} (hl : r.length ≤ 40) (h0 : 0 ≤ many) (h1 : many ≤ 40) (q : ∀ p kvs, Tab r many kvs → Q (.ref p) ⟨(p, .dT kvs) :: s.L, s.T⟩) : WC H0 (sp_counts_of K C) E [.str (T r), .int many] s Q := fun H o R k =>
  ⟨r, many, rfl, hl, h0, h1, fun p H' kvs hp e h hT => k _ _ _ (own_add (o.ext e) (fresh_back o.ex hp) (own_key o hp) h) (q p kvs hT)⟩
end BM
namespace BM
open PySem L2 Evl
local macro_rules | `(tactic| walk_at "mem") => `(tactic| first | exact List.mem_cons_self | (refine List.mem_cons_of_mem _ ?_; walk_at "mem"))
local macro_rules | `(tactic| walk_at "swap") => `(tactic| first | exact Swap.here | (apply Swap.there; walk_at "swap"))
local macro_rules | `(tactic| walk_at "subl") => `(tactic| first | exact List.Sublist.refl _ | exact List.nil_sublist _ | (refine List.Sublist.cons_cons _ ?_; walk_at "subl") | (refine List.Sublist.cons _ ?_; walk_at "subl"))
local macro_rules | `(tactic| walk_at "sub") => `(tactic| first | exact Sub.refl _ | (refine ⟨?_, ?_⟩ <;> walk_at "subl"))
local macro_rules | `(tactic| walk_at "isl") => `(tactic| first | exact isL_own (by walk_at "mem") | exact isL_old (by assumption) | assumption)
local macro_rules | `(tactic| walk_at "ist") => `(tactic| first | exact isT_own (by walk_at "mem") | exact isT_old (by assumption) | assumption)
local macro_rules | `(tactic| walk_at "len") => `(tactic| first | omega | decide | (simp only [List.length_map, List.length_take, List.length_drop, List.length_append, List.length_cons, List.length_nil, List.length_reverse, dps_len, flp_len]; omega) | (simp [dps_len, flp_len]; omega) | simp)
local macro_rules | `(tactic| walk_at "b0") => `(tactic| first
  | with_reducible refine' ws_set ?_
  | with_reducible refine' ws_par ?_
  | with_reducible refine' ws_asg ?_
  | with_reducible refine' ws_drop ?_
  | with_reducible refine' ws_ret ?_
  | with_reducible refine' ws_if ?_
  | with_reducible refine' ws_next ?_
  | with_reducible refine' ws_brk ?_
  | with_reducible refine' ws_cont ?_
  | ((with_reducible refine' we_var ?hv ?_); case hv => rfl)
  | with_reducible refine' we_c ?_
  | with_reducible refine' we_op ?_
  | with_reducible refine' we_un ?_
  | with_reducible refine' we_if ?_
  | with_reducible refine' we_and ?_
  | with_reducible refine' we_or ?_
  | with_reducible refine' we_not ?_
  | with_reducible refine' wa_nil ?_
  | with_reducible refine' wa_cons ?_
  | (with_reducible refine' we_lst ?_)
  | (with_reducible refine' we_tup ?_)
  | with_reducible refine' we_cb ?_
  | with_reducible refine' we_call0 ?_
  | with_reducible refine' we_sl ?_
  | with_reducible refine' wo_none ?_
  | (with_reducible refine' wo_some ?_)
  | with_reducible refine' wt_test ?_
  | with_reducible refine' wt_B ?_
  | with_reducible refine' wt_and ?_
  | with_reducible refine' wt_or ?_
  | with_reducible refine' wt_not ?_
  | with_reducible refine' wt_yes ?_
  | with_reducible refine' we_chain ?_
  | with_reducible refine' we_chain3 ?_
  | with_reducible refine' we_revT ?_
  | with_reducible refine' we_revL ?_
  | with_reducible refine' we_bm ?_
  | with_reducible refine' we_bm0 ?_
  | with_reducible refine' ws_for ?_
  | with_reducible refine' we_lc ?_
  | with_reducible refine' wi_list ?_
  | with_reducible refine' wi_tup ?_
  | with_reducible refine' wi_T ?_
  | with_reducible refine' wi_rng1 ?_
  | with_reducible refine' wi_rng2 ?_
  | with_reducible refine' wi_rng3 ?_
  | with_reducible refine' wi_enum ?_
  | with_reducible refine' wi_enumT ?_
  | with_reducible refine' wi_zip ?_
  | with_reducible refine' wg_name ?_
  | with_reducible refine' wg_sub ?_
  | with_reducible refine' wgs_nil ?_
  | with_reducible refine' wgs_cons ?_
  | ((with_reducible refine' wg_tup ?ht ?hn ?_); (case ht => walk_at "ist"); (case hn => rfl))
  | with_reducible refine' w2_add ?_
  | with_reducible refine' w2_sub ?_
  | with_reducible refine' w2_lt ?_
  | with_reducible refine' w2_le ?_
  | with_reducible refine' w2_gt ?_
  | with_reducible refine' w2_ge ?_
  | with_reducible refine' w2_eqI ?_
  | with_reducible refine' w2_neI ?_
  | with_reducible refine' w2_eqT ?_
  | with_reducible refine' w2_neT ?_
  | with_reducible refine' w2_eqB ?_
  | with_reducible refine' w2_neB ?_
  | with_reducible refine' w2_isN ?_
  | with_reducible refine' w2_notN ?_
  | with_reducible refine' w2_isB ?_
  | with_reducible refine' w2_inT ?_
  | with_reducible refine' w1_neg ?_
  | with_reducible refine' wl_abs ?_
  | with_reducible refine' wl_max2 ?_
  | with_reducible refine' wl_min2 ?_
  | with_reducible refine' wl_intB ?_
  | ((with_reducible refine' w2_div ?h ?_); case h => first | omega | (constructor <;> omega))
  | ((with_reducible refine' w2_mod ?h ?_); case h => omega)
  | ((with_reducible refine' w2_catT ?h ?_); case h => walk_at "len")
  | ((with_reducible refine' wsl_T ?h ?_); case h => walk_at "len")
  | ((with_reducible refine' wl_lenT ?h ?_); case h => walk_at "len")
  | ((with_reducible refine' wl_len ?h ?_); case h => walk_at "isl")
  | ((with_reducible refine' wl_len ?h ?_); case h => walk_at "isl")
  | ((with_reducible refine' wm_append ?sw ?hl ?_); (case sw => walk_at "swap"); (case hl => walk_at "len")))
local macro_rules | `(tactic| walk_at "b1") => `(tactic| first | with_reducible refine' ws_seq ?_ | walk_at "b0")
local macro_rules | `(tactic| walk_at "bx") => `(tactic| first
  | refine ⟨_, rfl, ?_⟩
  | refine ⟨_, _, rfl, ?_⟩
  | refine ⟨ty_L (by walk_at "isl"), ?_⟩
  | refine ⟨ty_S, ?_⟩
  | refine spl_t (by rfl) ?_
  | refine spl_f (by rfl) ?_
  | exact rfl)
local macro_rules | `(tactic| walk_at "bm") => `(tactic| repeat (first | walk_at "b1" | walk_at "bx"))
local macro_rules | `(tactic| walk_at "bn") => `(tactic| repeat (first | walk_at "b0" | walk_at "bx"))
local macro_rules | `(tactic| walk_at "b0") => `(tactic| with_reducible refine' c_deepens ?_)
local macro_rules | `(tactic| walk_at "b0") => `(tactic| ((with_reducible refine' c_depths_of ?hl ?_); (case hl => walk_at "len")))
local macro_rules | `(tactic| walk_at "b0") => `(tactic| with_reducible refine' c_is_wholeI ?_)
local macro_rules | `(tactic| walk_at "b0") => `(tactic| with_reducible refine' c_flipped ?_)
local macro_rules | `(tactic| walk_at "b0") => `(tactic| ((with_reducible refine' c_is_right_row ?hl ?_); (case hl => walk_at "len")))
local macro_rules | `(tactic| walk_at "b0") => `(tactic| ((with_reducible refine' c_asked_row ?hl ?_); (case hl => walk_at "len")))
local macro_rules | `(tactic| walk_at "b0") => `(tactic| ((with_reducible refine' c_depths ?hl ?_); (case hl => walk_at "len")))
local macro_rules | `(tactic| walk_at "b0") => `(tactic| ((with_reducible refine' c_is_right ?hl ?_); (case hl => walk_at "len")))
local macro_rules | `(tactic| walk_at "b0") => `(tactic| ((with_reducible refine' c__law_depths ?hl ?_); (case hl => walk_at "len")))
local macro_rules | `(tactic| walk_at "b0") => `(tactic| ((with_reducible refine' c__law_good ?hl ?_); (case hl => walk_at "len")))
local macro_rules | `(tactic| walk_at "b0") => `(tactic| ((with_reducible refine' wl_listOf ?hx ?_); (case hx => walk_at "isl")))
local macro_rules | `(tactic| walk_at "b0") => `(tactic| with_reducible refine' w2_notB ?_)
local macro_rules | `(tactic| walk_at "own") => `(tactic| exact own_l (by walk_at "mem"))
local macro_rules | `(tactic| walk_at "b0") => `(tactic| with_reducible refine' we_fld ?_)
local macro_rules | `(tactic| walk_at "b0") => `(tactic| refine ⟨_, _, _, _, _, rfl, own_l (by walk_at "mem"), Grw.cl (by assumption), Grw.nr (by assumption), by rfl, ?_⟩)
local macro_rules | `(tactic| walk_at "b0") => `(tactic| refine ⟨_, _, _, _, _, rfl, fun H' o => o.ex _ _ (by assumption), Grw.cl (by assumption), Grw.nr (by assumption), by rfl, ?_⟩)
local macro_rules | `(tactic| walk_at "b0") => `(tactic| with_reducible refine' we_meth ?_)
local macro_rules | `(tactic| walk_at "b0") => `(tactic| refine ⟨_, _, _, rfl, own_l (by walk_at "mem"), by rfl, ?_⟩)
local macro_rules | `(tactic| walk_at "b0") => `(tactic| refine ⟨_, _, _, rfl, fun H' o => o.ex _ _ (by assumption), by rfl, ?_⟩)
local macro_rules | `(tactic| walk_at "gown") => `(tactic| first | exact own_l (by walk_at "mem") | exact fun H' o => o.ex _ _ (by assumption))
local macro_rules | `(tactic| walk_at "b0") => `(tactic| with_reducible refine' wm_countT ?_)
local macro_rules | `(tactic| walk_at "b0") => `(tactic| with_reducible refine' we_methU ?_)
local macro_rules | `(tactic| walk_at "mem") => `(tactic| assumption)
local macro_rules | `(tactic| walk_at "b0") => `(tactic| with_reducible refine' wm_countT ?_)
theorem ln_fewest_of {K : PySem.W.Frag} {C : CA} {vs : List V} {H : Hp} {Q : VK} {E : XK} (h : sp_fewest_of K C vs H Q E) : vs.length = 1 := by
  obtain ⟨_, ⟨r, _, rfl, _⟩, _⟩ := h
  rfl
theorem tn_few {r : List Bool} {c : Nat} {ps : List Nat} (hmin : ∀ j, j ≤ r.length → hgt (r.take c) ≤ hgt (r.take j)) (hn : (ps.length : Int) = tnNum r c) : (ps.length : Int) = (-hgt (r.take c) + 1) / 2 + (hgt r - hgt (r.take c) + 1) / 2 := by
  have h0 := hmin 0 (Nat.zero_le _)
  have e00 : hgt (r.take 0) = 0 := rfl
  have hN := hmin r.length (Nat.le_refl _)
  rw [List.take_length] at hN
  unfold tnNum pos at hn
  rw [Int.toNat_natCast] at hn
  omega
theorem pu_fewest_of {K : PySem.W.Frag} {C : CA} {vs : List V} {H : Hp} {Q : VK} {E : XK} (h : sp_fewest_of K C vs H Q E) : rd_fewest_of K C { nx := fun _ H' => Q .non H', rt := Q } (start N_fewest_of vs) H := by
  obtain ⟨_, ⟨r, hX, rfl, hl, hev, rfl⟩, k⟩ := h
  refine body_V ?_ k
  unfold rd_fewest_of
  walk_at "bm"
  refine c_turns_ev hX hl hev fun x d a c ps g1 g2 g3 g4 g5 g6 => ?_
  have e : ps.length = mn r := mn_is (fewest_of g1 g2 g3 g4 g5 (tn_few g2 g6))
  clear g1 g2 g3 g4 g5 g6
  walk_at "bm"
  refine ⟨_, _, _, _, _, rfl, own_l (by walk_at "mem"), hX.t.c.cl, hX.t.np, rfl, ?_⟩
  walk_at "bm"
  show V.int _ = V.int _
  unfold natsV
  rw [List.length_map, List.length_map, e]
theorem c_fewest_of {K : PySem.W.Frag} {C : CA} {H0 : Hp} {s : Ld} {Q : V → Ld → Prop} {E : XK} {r : List Bool} (hX : Ex03 K C) (hl : r.length ≤ 40) (h0 : r.length % 2 = 0) (q : Q (.int ((mn r : Nat) : Int)) s) : WC H0 (sp_fewest_of K C) E [.str (T r)] s Q := wc_V (fun H o => ⟨r, hX, rfl, hl, h0, rfl⟩) q
theorem ln_how_many {K : PySem.W.Frag} {C : CA} {vs : List V} {H : Hp} {Q : VK} {E : XK} (h : sp_how_many K C vs H Q E) : vs.length = 1 := by
  obtain ⟨_, ⟨r, _, rfl, _⟩, _⟩ := h
  rfl
theorem pu_how_many {K : PySem.W.Frag} {C : CA} {vs : List V} {H : Hp} {Q : VK} {E : XK} (h : sp_how_many K C vs H Q E) : rd_how_many K C { nx := fun _ H' => Q .non H', rt := Q } (start N_how_many vs) H := by
  obtain ⟨_, ⟨r, hX, rfl, hl, rfl⟩, k⟩ := h
  refine body_V ?_ k
  unfold rd_how_many
  have hmn := mn_le r
  refine ws_seq ?_
  walk_at "bn"
  refine ws_seq ?_
  walk_at "bn"
  refine ⟨fun h => ?_, fun h => ?_⟩
  · have h' : r.length % 2 = 1 := by have := of_decide_eq_true h; omega
    walk_at "bm"
    show V.int 0 = V.int _
    unfold hm
    rw [wy_odd h']
    rfl
  have h' : r.length % 2 = 0 := by have := of_decide_eq_false h; omega
  walk_at "bm"
  refine c_fewest_of hX hl h' ?_
  walk_at "bm"
  refine we_dget2T ?_
  walk_at "bm"
  refine c_counts_of hl (by omega) (by omega) fun p kvs hT => ?_
  refine ⟨p, rfl, isD_L List.mem_cons_self, ?_⟩
  walk_at "bm"
  refine ⟨by simp, fun t ht => ?_⟩
  walk_at "bm"
  refine ⟨t, kvs, ik3 0 0 ((mn r : Nat) : Int), rfl, rd_L List.mem_cons_self, List.mem_cons_self, ?_⟩
  show at3 kvs 0 0 ((mn r : Nat) : Int) = V.int _
  have := hT 0 0 (mn r : Nat) (Nat.zero_le _) (Int.le_refl _)
  exact this
theorem c_how_many {K : PySem.W.Frag} {C : CA} {H0 : Hp} {s : Ld} {Q : V → Ld → Prop} {E : XK} {r : List Bool} (hX : Ex03 K C) (hl : r.length ≤ 40) (q : Q (.int ((hm r : Nat) : Int)) s) : WC H0 (sp_how_many K C) E [.str (T r)] s Q := wc_V (fun H o => ⟨r, hX, rfl, hl, rfl⟩) q
theorem ln_by_number {K : PySem.W.Frag} {C : CA} {vs : List V} {H : Hp} {Q : VK} {E : XK} (h : sp_by_number K C vs H Q E) : vs.length = 2 := by
  obtain ⟨r, k, _, rfl, _⟩ := h
  rfl
theorem un_cons (b : Bool) (u : List Bool) (d m k : Int) : un (b :: u) d m k = if k < wy u (d + 1) (m - cs true b) then true :: un u (d + 1) (m - cs true b) k else false :: un u (d - 1) (m - cs false b) (k - wy u (d + 1) (m - cs true b)) := rfl
theorem pu_by_number {K : PySem.W.Frag} {C : CA} {vs : List V} {H : Hp} {Q : VK} {E : XK} (h : sp_by_number K C vs H Q E) : rd_by_number K C E { nx := fun _ H' => Q .non H', rt := Q } (start N_by_number vs) H := by
  obtain ⟨r, k, hX, rfl, hl, k1, k2⟩ := h
  have hmn := mn_le r
  refine body_P (P := fun v => (0 ≤ k ∧ k < hm r) ∧ v = .str (T (un r 0 (mn r : Nat) k))) ?_ (fun v H' ⟨h1, e⟩ x => by rw [e]; exact k1 h1 H' x)
  unfold rd_by_number
  refine ws_seq ?_
  walk_at "bn"
  refine ws_cut (fun σ s => σ = [some (.str (T r)), some (.int k), none, none, none, none, none, none, none, none] ∧ s = ⟨[], []⟩ ∧ 0 ≤ k ∧ k < hm r) ?_ ?_
  · walk_at "bm"
    refine ⟨fun h => ?_, fun h => ?_⟩
    · have h0 := of_decide_eq_true h
      walk_at "bm"
      refine c_how_many hX hl ?_
      walk_at "bm"
      refine ⟨fun h2 => ?_, fun h2 => ?_⟩
      · have h2' : ¬ k < hm r := by simpa using h2
        exact ws_raise fun H' o => k2 (fun z => h2' z.2) H' o.ex
      · have h2' : k < hm r := by simpa using h2
        walk_at "bm"
        exact ⟨_, Sub.refl _, rfl, rfl, h0, h2'⟩
    · have h0 := of_decide_eq_false h
      walk_at "bm"
      exact ws_raise fun H' o => k2 (fun z => h0 z.1) H' o.ex
  rintro σ s ⟨rfl, rfl, h0, h1⟩
  have hpos : 0 < wy r 0 (mn r : Nat) := by unfold hm at h1; omega
  have hev : r.length % 2 = 0 := by
    rcases Nat.mod_two_eq_zero_or_one r.length with h | h
    · exact h
    · rw [wy_odd h] at hpos
      omega
  refine ws_cut (fun σ s => σ = [some (.str (T r)), some (.int k), none, some (.int ((mn r : Nat) : Int)), some (.int 0), some (.str (T [])), none, none, none, none] ∧ s = ⟨[], []⟩) ?_ ?_
  · refine ws_par3 ?_
    walk_at "bm"
    refine c_fewest_of hX hl hev ?_
    walk_at "bm"
    exact ⟨_, _, _, rfl, _, Sub.refl _, rfl, rfl⟩
  rintro σ s ⟨rfl, rfl⟩
  refine ws_cut (fun σ s => ∃ p kvs, σ = [some (.str (T r)), some (.int k), some (.ref p), some (.int ((mn r : Nat) : Int)), some (.int 0), some (.str (T [])), none, none, none, none] ∧ (p, HO.dT kvs) ∈ s.L ∧ Tab r (mn r : Nat) kvs) ?_ ?_
  · walk_at "bm"
    refine c_counts_of hl (by omega) (by omega) fun p kvs hT => ?_
    exact ⟨_, Sub.refl _, p, kvs, rfl, List.mem_cons_self, hT⟩
  rintro σ s ⟨p, kvs, rfl, hp, hT⟩
  refine ws_cut (fun σ s => ∃ x1 x3 x4 x6 x7 x8 x9, σ = [some (.str (T r)), x1, some (.ref p), x3, x4, some (.str (T (un r 0 (mn r : Nat) k))), x6, x7, x8, x9]) ?_ ?_
  · walk_at "bm"
    refine lp_enumT (r := r) (n := r.length) (fun i σ s => ∃ (ki mi di : Int) (fd : List Bool) (x6 x7 x8 x9 : Option V), σ = [some (.str (T r)), some (.int ki), some (.ref p), some (.int mi), some (.int di), some (.str (T fd)), x6, x7, x8, x9] ∧ (p, HO.dT kvs) ∈ s.L ∧ un r 0 (mn r : Nat) k = fd ++ un (r.drop i) di mi ki ∧ fd.length = i ∧ 0 ≤ ki ∧ ki < wy (r.drop i) di mi ∧ mi ≤ mn r) rfl ⟨k, (mn r : Nat), 0, [], none, none, none, none, rfl, hp, rfl, rfl, h0, h1, Int.le_refl _⟩ ?_ ?_
    · rintro i b σ s q hi hb ⟨ki, mi, di, fd, x6, x7, x8, x9, rfl, hp, hun, hfl, hk0, hk1, hmi⟩
      have hdrop : r.drop i = b :: r.drop (i + 1) := by
        have h1 := List.drop_eq_getElem_cons (l := r) (i := i) hi
        rw [h1]
        congr 1
        rw [List.getElem?_eq_getElem hi] at hb
        exact Option.some.inj hb
      rw [hdrop] at hun hk1
      have hd0 : 0 ≤ di ∧ 0 ≤ mi := by
        refine Classical.byContradiction fun hh => ?_
        rw [wy_neg (by omega)] at hk1
        omega
      rw [wy_cons hd0.1 hd0.2] at hk1
      have hcs := cs_nn true b
      have hcs2 := cs_nn false b
      have hat : at3 kvs ((i : Int) + 1) (di + 1) (mi - cs true b) = .int (wy (r.drop (i + 1)) (di + 1) (mi - cs true b) : Nat) := hT (i + 1) (di + 1) (mi - cs true b) (by omega) (by omega)
      obtain ⟨w, hw⟩ : ∃ w, w = wy (r.drop (i + 1)) (di + 1) (mi - cs true b) := ⟨_, rfl⟩
      rw [← hw] at hat hk1
      have hc1 : ((if (!decide ([b] = [true])) = true then 1 else 0 : Int)) = cs true b := by
        unfold cs
        cases b <;> rfl
      walk_at "bm"
      refine we_dget2T ?_
      walk_at "bm"
      refine ⟨isD_L hp, ?_⟩
      walk_at "bm"
      rw [hc1]
      refine ⟨by simp, fun t ht => ?_⟩
      walk_at "bm"
      refine ⟨t, kvs, ik3 ((i : Int) + 1) (di + 1) (mi - cs true b), rfl, rd_L hp, List.mem_cons_self, ?_⟩
      show WS _ _ (List.set _ 8 (some (at3 kvs ((i : Int) + 1) (di + 1) (mi - cs true b)))) _ _
      rw [hat]
      by_cases hlt : ki < w
      · walk_at "bm"
        refine spl_t (decide_eq_true hlt) ?_
        walk_at "bm"
        refine ⟨_, Sub.refl _, ki, mi - cs true b, di + 1, fd ++ [true], some (.int (i : Int)), some (.str (T [b])), some (.int (w : Int)), some (.str (T [true])), ?_, hp, ?_, by rw [List.length_append, hfl]; rfl, hk0, by rw [← hw]; exact hlt, by omega⟩
        · have e : ((if (!decide ([true] = [b])) = true then 1 else 0 : Int)) = cs true b := by
            unfold cs
            cases b <;> rfl
          rw [e]
          rfl
        · rw [hun]
          rw [un_cons, ← hw, if_pos hlt, List.append_assoc]
          rfl
      · walk_at "bm"
        refine spl_f (decide_eq_false hlt) ?_
        walk_at "bm"
        refine ⟨_, Sub.refl _, ki - w, mi - cs false b, di - 1, fd ++ [false], some (.int (i : Int)), some (.str (T [b])), some (.int (w : Int)), some (.str (T [false])), ?_, hp, ?_, by rw [List.length_append, hfl]; rfl, by omega, by omega, by omega⟩
        · have e : ((if (!decide ([false] = [b])) = true then 1 else 0 : Int)) = cs false b := by
            unfold cs
            cases b <;> rfl
          rw [e]
          rfl
        · rw [hun]
          rw [un_cons, ← hw, if_neg hlt, List.append_assoc]
          rfl
    · rintro σ s ⟨ki, mi, di, fd, x6, x7, x8, x9, rfl, hp, hun, _⟩
      have e : un r 0 (mn r : Nat) k = fd := by
        rw [hun, List.drop_length]
        exact List.append_nil _
      exact ⟨_, Sub.refl _, some (.int ki), some (.int mi), some (.int di), x6, x7, x8, x9, by rw [e]⟩
  rintro σ s ⟨x1, x3, x4, x6, x7, x8, x9, rfl⟩
  walk_at "bm"
  exact ⟨⟨h0, h1⟩, rfl⟩
theorem c_by_number {K : PySem.W.Frag} {C : CA} {H0 : Hp} {s : Ld} {Q : V → Ld → Prop} {E : XK} {r : List Bool} {k : Int} (hX : Ex03 K C) (hl : r.length ≤ 40) (h0 : 0 ≤ k) (h1 : k < hm r) (q : Q (.str (T (un r 0 (mn r : Nat) k))) s) : WC H0 (sp_by_number K C) E [.str (T r), .int k] s Q := fun H o R kk =>
  ⟨r, k, hX, rfl, hl, fun _ H' e => kk _ _ _ (o.ext e) q, fun z => absurd ⟨h0, h1⟩ z⟩
theorem ln__law_far {K : PySem.W.Frag} {C : CA} {vs : List V} {H : Hp} {Q : VK} {E : XK} (h : sp__law_far K C vs H Q E) : vs.length = 2 := by
  obtain ⟨_, ⟨r, x, rfl, _⟩, _⟩ := h
  rfl
theorem pu__law_far {K : PySem.W.Frag} {C : CA} {vs : List V} {H : Hp} {Q : VK} {E : XK} (h : sp__law_far K C vs H Q E) : rd__law_far K C { nx := fun _ H' => Q .non H', rt := Q } (start N__law_far vs) H := by
  obtain ⟨_, ⟨r, x, rfl, hl, hx, rfl⟩, k⟩ := h
  refine body_V ?_ k
  unfold rd__law_far
  walk_at "bm"
  refine ⟨by omega, ?_⟩
  refine cp_rng (fun i => ((List.range i).filter fun j => decide (x[j]? ≠ r[j]?)).map fun (j : Nat) => V.int (j : Int)) (by omega) rfl (fun i hi => by rw [List.length_map]; exact Nat.le_trans (List.length_filter_le _ _) (by rw [List.length_range]; exact Nat.le_refl _)) ?_ ?_
  · intro D i hi
    obtain ⟨a, ha⟩ := get_some (r := r) (i := i) (by omega)
    obtain ⟨b, hb⟩ := get_some (r := x) (i := i) (by omega)
    rw [show ((0 : Int) + (i : Int)) = (i : Int) by omega]
    have hF : ∀ c : Bool, decide (x[i]? ≠ r[i]?) = c → ((List.range (i + 1)).filter fun j => decide (x[j]? ≠ r[j]?)).map (fun (j : Nat) => V.int (j : Int)) = ((List.range i).filter fun j => decide (x[j]? ≠ r[j]?)).map (fun (j : Nat) => V.int (j : Int)) ++ if c then [V.int (i : Int)] else [] := fun c hc => by
      rw [List.range_succ, List.filter_append, List.map_append]
      congr 1
      rw [List.filter_cons, hc]
      cases c <;> rfl
    have hcond : decide (x[i]? ≠ r[i]?) = !decide ([a] = [b]) := by
      rw [ha, hb]
      cases a <;> cases b <;> rfl
    walk_at "bm"
    refine ⟨rfl, ?_⟩
    walk_at "bm"
    refine w2_ixT (b := a) (by omega) (atI_of (by omega) (by rw [Int.toNat_natCast]; exact ha)) ?_
    walk_at "bm"
    refine w2_ixT (b := b) (by omega) (atI_of (by omega) (by rw [Int.toNat_natCast]; exact hb)) ?_
    walk_at "bm"
    refine ⟨fun h => ?_, fun h => ?_⟩
    · walk_at "bm"
      exact ⟨Sub.refl _, hF true (by rw [hcond, h])⟩
    · refine ⟨Sub.refl _, ?_⟩
      have := hF false (by rw [hcond, h])
      rw [if_neg (by decide), List.append_nil] at this
      exact this
  intro D hD
  rw [Int.toNat_natCast]
  walk_at "bm"
  show V.int _ = V.int _
  rw [List.length_map, far_df hx]
  rfl
theorem c__law_far {K : PySem.W.Frag} {C : CA} {H0 : Hp} {s : Ld} {Q : V → Ld → Prop} {E : XK} {r x : List Bool} (hl : r.length ≤ 1000) (hx : x.length = r.length) (q : Q (.int ((far x r : Nat) : Int)) s) : WC H0 (sp__law_far K C) E [.str (T r), .str (T x)] s Q := wc_V (fun H o => ⟨r, x, rfl, hl, hx, rfl⟩) q
end BM
namespace BM
open PySem L2 Evl
local macro_rules | `(tactic| walk_at "mem") => `(tactic| first | exact List.mem_cons_self | (refine List.mem_cons_of_mem _ ?_; walk_at "mem"))
local macro_rules | `(tactic| walk_at "swap") => `(tactic| first | exact Swap.here | (apply Swap.there; walk_at "swap"))
local macro_rules | `(tactic| walk_at "subl") => `(tactic| first | exact List.Sublist.refl _ | exact List.nil_sublist _ | (refine List.Sublist.cons_cons _ ?_; walk_at "subl") | (refine List.Sublist.cons _ ?_; walk_at "subl"))
local macro_rules | `(tactic| walk_at "sub") => `(tactic| first | exact Sub.refl _ | (refine ⟨?_, ?_⟩ <;> walk_at "subl"))
local macro_rules | `(tactic| walk_at "isl") => `(tactic| first | exact isL_own (by walk_at "mem") | exact isL_old (by assumption) | assumption)
local macro_rules | `(tactic| walk_at "ist") => `(tactic| first | exact isT_own (by walk_at "mem") | exact isT_old (by assumption) | assumption)
local macro_rules | `(tactic| walk_at "len") => `(tactic| first | omega | decide | (simp only [List.length_map, List.length_take, List.length_drop, List.length_append, List.length_cons, List.length_nil, List.length_reverse, dps_len, flp_len]; omega) | (simp [dps_len, flp_len]; omega) | simp)
local macro_rules | `(tactic| walk_at "b0") => `(tactic| first
  | with_reducible refine' ws_set ?_
  | with_reducible refine' ws_par ?_
  | with_reducible refine' ws_asg ?_
  | with_reducible refine' ws_drop ?_
  | with_reducible refine' ws_ret ?_
  | with_reducible refine' ws_if ?_
  | with_reducible refine' ws_next ?_
  | with_reducible refine' ws_brk ?_
  | with_reducible refine' ws_cont ?_
  | ((with_reducible refine' we_var ?hv ?_); case hv => rfl)
  | with_reducible refine' we_c ?_
  | with_reducible refine' we_op ?_
  | with_reducible refine' we_un ?_
  | with_reducible refine' we_if ?_
  | with_reducible refine' we_and ?_
  | with_reducible refine' we_or ?_
  | with_reducible refine' we_not ?_
  | with_reducible refine' wa_nil ?_
  | with_reducible refine' wa_cons ?_
  | (with_reducible refine' we_lst ?_)
  | (with_reducible refine' we_tup ?_)
  | with_reducible refine' we_cb ?_
  | with_reducible refine' we_call0 ?_
  | with_reducible refine' we_sl ?_
  | with_reducible refine' wo_none ?_
  | (with_reducible refine' wo_some ?_)
  | with_reducible refine' wt_test ?_
  | with_reducible refine' wt_B ?_
  | with_reducible refine' wt_and ?_
  | with_reducible refine' wt_or ?_
  | with_reducible refine' wt_not ?_
  | with_reducible refine' wt_yes ?_
  | with_reducible refine' we_chain ?_
  | with_reducible refine' we_chain3 ?_
  | with_reducible refine' we_revT ?_
  | with_reducible refine' we_revL ?_
  | with_reducible refine' we_bm ?_
  | with_reducible refine' we_bm0 ?_
  | with_reducible refine' ws_for ?_
  | with_reducible refine' we_lc ?_
  | with_reducible refine' wi_list ?_
  | with_reducible refine' wi_tup ?_
  | with_reducible refine' wi_T ?_
  | with_reducible refine' wi_rng1 ?_
  | with_reducible refine' wi_rng2 ?_
  | with_reducible refine' wi_rng3 ?_
  | with_reducible refine' wi_enum ?_
  | with_reducible refine' wi_enumT ?_
  | with_reducible refine' wi_zip ?_
  | with_reducible refine' wg_name ?_
  | with_reducible refine' wg_sub ?_
  | with_reducible refine' wgs_nil ?_
  | with_reducible refine' wgs_cons ?_
  | ((with_reducible refine' wg_tup ?ht ?hn ?_); (case ht => walk_at "ist"); (case hn => rfl))
  | with_reducible refine' w2_add ?_
  | with_reducible refine' w2_sub ?_
  | with_reducible refine' w2_lt ?_
  | with_reducible refine' w2_le ?_
  | with_reducible refine' w2_gt ?_
  | with_reducible refine' w2_ge ?_
  | with_reducible refine' w2_eqI ?_
  | with_reducible refine' w2_neI ?_
  | with_reducible refine' w2_eqT ?_
  | with_reducible refine' w2_neT ?_
  | with_reducible refine' w2_eqB ?_
  | with_reducible refine' w2_neB ?_
  | with_reducible refine' w2_isN ?_
  | with_reducible refine' w2_notN ?_
  | with_reducible refine' w2_isB ?_
  | with_reducible refine' w2_inT ?_
  | with_reducible refine' w1_neg ?_
  | with_reducible refine' wl_abs ?_
  | with_reducible refine' wl_max2 ?_
  | with_reducible refine' wl_min2 ?_
  | with_reducible refine' wl_intB ?_
  | ((with_reducible refine' w2_div ?h ?_); case h => first | omega | (constructor <;> omega))
  | ((with_reducible refine' w2_mod ?h ?_); case h => omega)
  | ((with_reducible refine' w2_catT ?h ?_); case h => walk_at "len")
  | ((with_reducible refine' wsl_T ?h ?_); case h => walk_at "len")
  | ((with_reducible refine' wl_lenT ?h ?_); case h => walk_at "len")
  | ((with_reducible refine' wl_len ?h ?_); case h => walk_at "isl")
  | ((with_reducible refine' wl_len ?h ?_); case h => walk_at "isl")
  | ((with_reducible refine' wm_append ?sw ?hl ?_); (case sw => walk_at "swap"); (case hl => walk_at "len")))
local macro_rules | `(tactic| walk_at "b1") => `(tactic| first | with_reducible refine' ws_seq ?_ | walk_at "b0")
local macro_rules | `(tactic| walk_at "bx") => `(tactic| first
  | refine ⟨_, rfl, ?_⟩
  | refine ⟨_, _, rfl, ?_⟩
  | refine ⟨ty_L (by walk_at "isl"), ?_⟩
  | refine ⟨ty_S, ?_⟩
  | refine spl_t (by rfl) ?_
  | refine spl_f (by rfl) ?_
  | exact rfl)
local macro_rules | `(tactic| walk_at "bm") => `(tactic| repeat (first | walk_at "b1" | walk_at "bx"))
local macro_rules | `(tactic| walk_at "bn") => `(tactic| repeat (first | walk_at "b0" | walk_at "bx"))
local macro_rules | `(tactic| walk_at "b0") => `(tactic| with_reducible refine' c_deepens ?_)
local macro_rules | `(tactic| walk_at "b0") => `(tactic| ((with_reducible refine' c_depths_of ?hl ?_); (case hl => walk_at "len")))
local macro_rules | `(tactic| walk_at "b0") => `(tactic| with_reducible refine' c_is_wholeI ?_)
local macro_rules | `(tactic| walk_at "b0") => `(tactic| with_reducible refine' c_flipped ?_)
local macro_rules | `(tactic| walk_at "b0") => `(tactic| ((with_reducible refine' c_is_right_row ?hl ?_); (case hl => walk_at "len")))
local macro_rules | `(tactic| walk_at "b0") => `(tactic| ((with_reducible refine' c_asked_row ?hl ?_); (case hl => walk_at "len")))
local macro_rules | `(tactic| walk_at "b0") => `(tactic| ((with_reducible refine' c_depths ?hl ?_); (case hl => walk_at "len")))
local macro_rules | `(tactic| walk_at "b0") => `(tactic| ((with_reducible refine' c_is_right ?hl ?_); (case hl => walk_at "len")))
local macro_rules | `(tactic| walk_at "b0") => `(tactic| ((with_reducible refine' c__law_depths ?hl ?_); (case hl => walk_at "len")))
local macro_rules | `(tactic| walk_at "b0") => `(tactic| ((with_reducible refine' c__law_good ?hl ?_); (case hl => walk_at "len")))
local macro_rules | `(tactic| walk_at "b0") => `(tactic| ((with_reducible refine' wl_listOf ?hx ?_); (case hx => walk_at "isl")))
local macro_rules | `(tactic| walk_at "b0") => `(tactic| with_reducible refine' w2_notB ?_)
local macro_rules | `(tactic| walk_at "own") => `(tactic| exact own_l (by walk_at "mem"))
local macro_rules | `(tactic| walk_at "b0") => `(tactic| with_reducible refine' we_fld ?_)
local macro_rules | `(tactic| walk_at "b0") => `(tactic| refine ⟨_, _, _, _, _, rfl, own_l (by walk_at "mem"), Grw.cl (by assumption), Grw.nr (by assumption), by rfl, ?_⟩)
local macro_rules | `(tactic| walk_at "b0") => `(tactic| refine ⟨_, _, _, _, _, rfl, fun H' o => o.ex _ _ (by assumption), Grw.cl (by assumption), Grw.nr (by assumption), by rfl, ?_⟩)
local macro_rules | `(tactic| walk_at "b0") => `(tactic| with_reducible refine' we_meth ?_)
local macro_rules | `(tactic| walk_at "b0") => `(tactic| refine ⟨_, _, _, rfl, own_l (by walk_at "mem"), by rfl, ?_⟩)
local macro_rules | `(tactic| walk_at "b0") => `(tactic| refine ⟨_, _, _, rfl, fun H' o => o.ex _ _ (by assumption), by rfl, ?_⟩)
local macro_rules | `(tactic| walk_at "gown") => `(tactic| first | exact own_l (by walk_at "mem") | exact fun H' o => o.ex _ _ (by assumption))
local macro_rules | `(tactic| walk_at "b0") => `(tactic| with_reducible refine' wm_countT ?_)
local macro_rules | `(tactic| walk_at "b0") => `(tactic| with_reducible refine' we_methU ?_)
local macro_rules | `(tactic| walk_at "mem") => `(tactic| assumption)
local macro_rules | `(tactic| walk_at "b0") => `(tactic| with_reducible refine' wm_countT ?_)
abbrev rwsV (rs : List (List Bool)) : List V := rs.map fun r => V.str (T r)
theorem rwsV_app (a b : List (List Bool)) : rwsV (a ++ b) = rwsV a ++ rwsV b := List.map_append
theorem lon_snoc (xs : List (List Bool)) (u : List Bool) : lon (xs ++ [u]) = lon xs ++ ((u ++ [true]) :: if hgt u > 0 then [u ++ [false]] else []) := by
  unfold lon
  rw [List.flatMap_append, List.flatMap_cons, List.flatMap_nil, List.append_nil]
theorem lon_len (xs : List (List Bool)) : (lon xs).length ≤ 2 * xs.length := by
  induction xs with
  | nil => exact Nat.le_refl _
  | cons u xs ih =>
    unfold lon at ih ⊢
    rw [List.flatMap_cons, List.length_append, List.length_cons, List.length_cons]
    split
    · simp only [List.length_cons, List.length_nil]
      omega
    · simp only [List.length_nil]
      omega
theorem ln__law_longer {K : PySem.W.Frag} {C : CA} {vs : List V} {H : Hp} {Q : VK} {E : XK} (h : sp__law_longer K C vs H Q E) : vs.length = 1 := by
  obtain ⟨_, ⟨a, xs, rfl, _⟩, _⟩ := h
  rfl
theorem pu__law_longer {K : PySem.W.Frag} {C : CA} {vs : List V} {H : Hp} {Q : VK} {E : XK} (h : sp__law_longer K C vs H Q E) : rd__law_longer K C { nx := fun _ H' => Q .non H', rt := Q } (start N__law_longer vs) H := by
  obtain ⟨_, ⟨a, xs, rfl, hs, hxl, hxs, rfl⟩, k⟩ := h
  refine body_L ?_ k
  unfold rd__law_longer
  refine ws_cut (fun σ s => ∃ f, σ = [some (.ref a), some (.ref f), none, none, none] ∧ s = ⟨[(f, .lst (rwsV []))], []⟩) ?_ ?_
  · walk_at "bm"
    refine ⟨by simp, fun f hf => ?_⟩
    exact ⟨_, Sub.refl _, f, rfl, rfl⟩
  rintro σ s ⟨f, rfl, rfl⟩
  refine ws_cut (fun σ s => ∃ x2 x3 x4, σ = [some (.ref a), some (.ref f), x2, x3, x4] ∧ s = ⟨[(f, .lst (rwsV (lon xs)))], []⟩) ?_ ?_
  · walk_at "bm"
    refine ⟨⟨_, isL_old hs⟩, ?_⟩
    refine lp_list (xs := rwsV xs) (n := xs.length) (fun i σ s => ∃ x2 x3 x4, σ = [some (.ref a), some (.ref f), x2, x3, x4] ∧ s = ⟨[(f, .lst (rwsV (lon (xs.take i))))], []⟩) (by simp) ⟨none, none, none, rfl, rfl⟩ (fun i σ s _ _ => isL_old hs) ?_ (fun σ s ⟨x2, x3, x4, e1, e2⟩ => ⟨_, Sub.refl _, x2, x3, x4, e1, by rw [e2, List.take_length]⟩)
    rintro i y σ s hi hy ⟨x2, x3, x4, rfl, rfl⟩
    obtain ⟨u, hu, rfl⟩ := getR hy
    have hul := hxs u (List.mem_of_getElem? hu)
    have hlen := lon_len (xs.take i)
    rw [List.length_take] at hlen
    refine wg_name ?_
    refine ws_seq ?_
    walk_at "bn"
    have hh : ((u.count true : Int) - (u.count false : Int)) = hgt u := (hgt_count u).symm
    rw [hh]
    walk_at "bm"
    refine cp_T (r := [true, false]) (fun c => rwsV ((if 1 ≤ c then [u ++ [true]] else []) ++ if 2 ≤ c ∧ hgt u > 0 then [u ++ [false]] else [])) (by decide) rfl (fun c hc => by
      rw [List.length_map, List.length_append]
      have : c = 0 ∨ c = 1 ∨ c = 2 := by
        have : c ≤ 2 := hc
        omega
      rcases this with rfl | rfl | rfl
      · simp
      · simp
      · simp
        split <;> simp) ?_ ?_
    · intro D c z hc hz
      have hcz : (c = 0 ∧ z = true) ∨ (c = 1 ∧ z = false) := by
        have : c < 2 := hc
        rcases Nat.lt_or_ge c 1 with h | h
        · have : c = 0 := by omega
          subst this
          exact .inl ⟨rfl, (Option.some.inj hz).symm⟩
        · have : c = 1 := by omega
          subst this
          exact .inr ⟨rfl, (Option.some.inj hz).symm⟩
      walk_at "bm"
      refine ⟨rfl, ?_⟩
      walk_at "bm"
      rcases hcz with ⟨rfl, rfl⟩ | ⟨rfl, rfl⟩
      · refine ⟨fun h => ?_, fun h => ?_⟩
        · walk_at "bm"
          exact ⟨Sub.refl _, by simp [rwsV]⟩
        · walk_at "bm"
          exact ⟨Sub.refl _, by simp [rwsV]⟩
      · refine ⟨fun h => ?_, fun h => ?_⟩
        · have h' := of_decide_eq_true h
          walk_at "bm"
          refine ⟨Sub.refl _, ?_⟩
          have h2 : hgt u > 0 := h'
          simp [rwsV, h2]
        · have h' := of_decide_eq_false h
          walk_at "bm"
          refine ⟨Sub.refl _, ?_⟩
          have h2 : ¬ hgt u > 0 := h'
          simp [rwsV, h2]
    intro D hD
    walk_at "bm"
    refine wm_extend (Swap.there Swap.here) (by walk_at "mem") ?_ ?_
    · rw [List.length_map, List.length_map]
      have : ((if 1 ≤ [true, false].length then [u ++ [true]] else []) ++ if 2 ≤ [true, false].length ∧ hgt u > 0 then [u ++ [false]] else []).length ≤ 2 := by
        simp
        split <;> simp
      omega
    · refine ⟨⟨[(f, .lst (rwsV (lon (xs.take (i + 1)))))], []⟩, ?_, _, _, _, rfl, rfl⟩
      rw [take_snoc hu, lon_snoc, rwsV_app]
      have e : ((if 1 ≤ [true, false].length then [u ++ [true]] else []) ++ if 2 ≤ [true, false].length ∧ hgt u > 0 then [u ++ [false]] else []) = ((u ++ [true]) :: if hgt u > 0 then [u ++ [false]] else []) := by
        by_cases h : hgt u > 0 <;> simp [h]
      rw [e]
      walk_at "sub"
  rintro σ s ⟨x2, x3, x4, rfl, rfl⟩
  walk_at "bm"
  exact List.mem_cons_self
theorem c__law_longer {K : PySem.W.Frag} {C : CA} {H0 : Hp} {s : Ld} {Q : V → Ld → Prop} {E : XK} {a : Addr} {xs : List (List Bool)} (hs : IsL K H0 s a (rwsV xs)) (hl : xs.length ≤ 1000) (hx : ∀ x ∈ xs, x.length ≤ 100) (q : ∀ p, H0 p = none → Q (.ref p) ⟨(p, .lst (rwsV (lon xs))) :: s.L, s.T⟩) : WC H0 (sp__law_longer K C) E [.ref a] s Q := wc_L (fun H o => ⟨a, xs, rfl, hs H o, hl, hx, rfl⟩) q
theorem lw_small : ∀ i : Nat, i ≤ 10 → (lw i).length ≤ 300 ∧ ((lw i).filter isR).length ≤ 60 := by
  have h : (List.range 11).all (fun i => decide ((lw i).length ≤ 300) && decide (((lw i).filter isR).length ≤ 60)) = true := by decide +kernel
  intro i hi
  rw [List.all_eq_true] at h
  have := h i (List.mem_range.mpr (by omega))
  rw [Bool.and_eq_true] at this
  exact ⟨of_decide_eq_true this.1, of_decide_eq_true this.2⟩
theorem ln__law_every {K : PySem.W.Frag} {C : CA} {vs : List V} {H : Hp} {Q : VK} {E : XK} (h : sp__law_every K C vs H Q E) : vs.length = 1 := by
  obtain ⟨_, ⟨r, rfl, _⟩, _⟩ := h
  rfl
theorem filt_snoc {α : Type} {p : α → Bool} {l : List α} {i : Nat} {x : α} (h : l[i]? = some x) : (l.take (i + 1)).filter p = (l.take i).filter p ++ if p x then [x] else [] := by
  rw [take_snoc h, List.filter_append, List.filter_cons, List.filter_nil]
theorem filt_take_len {α : Type} (p : α → Bool) (l : List α) (i : Nat) : ((l.take i).filter p).length ≤ i := Nat.le_trans (List.length_filter_le _ _) (by rw [List.length_take]; omega)
theorem every_end {r : List Bool} {us : List (List Bool)} {m : Int} (hm : m ∈ ((lw r.length).filter isR).map fun x => ((far x r : Nat) : Int)) (hle : ∀ y ∈ ((lw r.length).filter isR).map (fun x => ((far x r : Nat) : Int)), m ≤ y) (p : us.Perm (((lw r.length).filter isR).filter fun x => decide (((far x r : Nat) : Int) = m))) (hs : PyProof.Rows.sortedS (us.map T) = true) : us = en r 0 (mn r : Nat) := by
  obtain ⟨x, hx, rfl⟩ := List.mem_map.mp hm
  have hen : ∀ z : Int, (en r 0 z).Perm (((lw r.length).filter isR).filter fun x => decide (((far x r : Nat) : Int) = z)) := fun z => by
    have := en_lw r z
    rw [List.filter_filter]
    refine this.trans ?_
    have e : (fun x => isR x && decide ((far x r : Int) = z)) = fun a => decide (((far a r : Nat) : Int) = z) && isR a := by
      funext a
      rw [Bool.and_comm]
    rw [e]
  have hpos : 0 < wy r 0 ((far x r : Nat) : Int) := by
    rw [← en_len]
    exact List.length_pos_of_mem ((hen _).mem_iff.mpr (List.mem_filter.mpr ⟨hx, by simp⟩))
  have F := mn_spec hpos
  have h1 := F.least _ hpos
  have h2 : ((far x r : Nat) : Int) ≤ (mn r : Nat) := by
    have hp := F.some
    rw [← en_len] at hp
    obtain ⟨y, hy⟩ := List.exists_mem_of_length_pos hp
    have hy2 := (hen _).mem_iff.mp hy
    have hy3 := List.mem_filter.mp hy2
    have := hle _ (List.mem_map.mpr ⟨y, hy3.1, rfl⟩)
    have e := of_decide_eq_true hy3.2
    omega
  have em : ((far x r : Nat) : Int) = (mn r : Nat) := by omega
  rw [em] at p
  have p2 := p.trans (hen _).symm
  refine lex_unique p2 (sorted_lex (n := r.length) hs (p2.nodup_iff.mpr (en_nodup _ _ _)) fun y hy => ?_) (en_sorted _ _ _)
  exact (mem_en.mp (p2.mem_iff.mp hy)).1
theorem every_none {r : List Bool} (h : (lw r.length).filter isR = []) (m : Int) : en r 0 m = [] := by
  have p := en_lw r m
  have e : (lw r.length).filter (fun x => isR x && decide ((far x r : Int) = m)) = [] := by
    rw [List.filter_eq_nil_iff] at h ⊢
    intro x hx hh
    rw [Bool.and_eq_true] at hh
    exact h x hx hh.1
  rw [e] at p
  exact List.perm_nil.mp p
theorem pu__law_every {K : PySem.W.Frag} {C : CA} {vs : List V} {H : Hp} {Q : VK} {E : XK} (h : sp__law_every K C vs H Q E) : rd__law_every K C { nx := fun _ H' => Q .non H', rt := Q } (start N__law_every vs) H := by
  obtain ⟨_, ⟨r, rfl, hl, rfl⟩, k⟩ := h
  refine body_L ?_ k
  unfold rd__law_every
  refine ws_cut (fun σ s => ∃ f g, σ = [some (.str (T r)), none, none, some (.ref f), some (.ref g), none, none] ∧ s = ⟨[(g, .lst (rwsV (lw 0))), (f, .lst (rwsV []))], []⟩) ?_ ?_
  · walk_at "bm"
    refine ⟨by simp, fun f hf => ?_⟩
    walk_at "bm"
    refine ⟨by simp, fun g hg => ?_⟩
    walk_at "bm"
    exact ⟨_, Sub.refl _, f, g, rfl, rfl⟩
  rintro σ s ⟨f, g0, rfl, rfl⟩
  refine ws_cut (fun σ s => ∃ x1 g, σ = [some (.str (T r)), x1, none, some (.ref f), some (.ref g), none, none] ∧ s = ⟨[(g, .lst (rwsV (lw r.length))), (f, .lst (rwsV []))], []⟩) ?_ ?_
  · walk_at "bm"
    refine lp_T (r := r) (n := r.length) (fun i σ s => ∃ x1 g, σ = [some (.str (T r)), x1, none, some (.ref f), some (.ref g), none, none] ∧ s = ⟨[(g, .lst (rwsV (lw i))), (f, .lst (rwsV []))], []⟩) rfl ⟨none, g0, rfl, rfl⟩ ?_ (fun σ s ⟨x1, g, e1, e2⟩ => ⟨_, Sub.refl _, x1, g, e1, e2⟩)
    rintro i b σ s hi hb ⟨x1, g, rfl, rfl⟩
    refine wg_name ?_
    walk_at "bm"
    refine c__law_longer (isL_own (by walk_at "mem")) (by have := (lw_small i (by omega)).1; omega) (fun x hx => by have := (mem_lw.mp hx).1; omega) fun p hp => ?_
    exact ⟨⟨[(p, .lst (rwsV (lw (i + 1)))), (f, .lst (rwsV []))], []⟩, by show Sub _ ⟨(p, .lst (rwsV (lw (i + 1)))) :: _, _⟩; walk_at "sub", _, p, rfl, rfl⟩
  rintro σ s ⟨x1, g, rfl, rfl⟩
  have hsm := lw_small r.length hl
  refine ws_cut (fun σ s => ∃ gd, σ = [some (.str (T r)), x1, some (.ref gd), some (.ref f), some (.ref g), none, none] ∧ s = ⟨[(gd, .lst (rwsV ((lw r.length).filter isR))), (f, .lst (rwsV []))], []⟩) ?_ ?_
  · walk_at "bm"
    refine ⟨⟨_, by walk_at "isl"⟩, ?_⟩
    refine cp_list (xs := rwsV (lw r.length)) (fun i => rwsV (((lw r.length).take i).filter isR)) (by walk_at "isl") (by rw [List.length_map]; omega) rfl (fun i hi => by rw [List.length_map]; exact filt_take_len _ _ _) ?_ ?_
    · intro D i y hi hy
      obtain ⟨u, hu, rfl⟩ := getR hy
      have hul := (mem_lw.mp (List.mem_of_getElem? hu)).1
      walk_at "bm"
      refine ⟨rfl, ?_⟩
      walk_at "bm"
      refine ⟨fun h => ?_, fun h => ?_⟩
      · walk_at "bm"
        exact ⟨Sub.refl _, by rw [filt_snoc hu, h, rwsV_app]; rfl⟩
      · exact ⟨Sub.refl _, by rw [filt_snoc hu, h, if_neg (by decide), List.append_nil]⟩
    intro D hD
    rw [List.length_map, List.take_length]
    exact ⟨_, by walk_at "sub", D, rfl, rfl⟩
  rintro σ s ⟨gd, rfl, rfl⟩
  obtain ⟨good, hgood⟩ : ∃ good, good = (lw r.length).filter isR := ⟨_, rfl⟩
  rw [← hgood]
  have hglen : good.length ≤ 60 := by rw [hgood]; exact hsm.2
  have hgl : ∀ x ∈ good, x.length = r.length := fun x hx => by rw [hgood] at hx; exact (mem_lw.mp (List.mem_filter.mp hx).1).1
  refine ws_cut (fun σ s => ∃ x5 x6 p, σ = [some (.str (T r)), x1, some (.ref gd), some (.ref p), some (.ref g), x5, x6] ∧ (p, HO.lst (rwsV (en r 0 (mn r : Nat)))) ∈ s.L) ?_ ?_
  · walk_at "bm"
    refine ⟨by simp, fun q0 hq0 => ?_⟩
    refine w2_neLR (ns := good) (ms := []) (by walk_at "isl") (by walk_at "isl") ?_
    walk_at "bm"
    refine ⟨fun h => ?_, fun h => ?_⟩
    · have h' : good ≠ [] := by simpa using h
      refine ws_cut (fun σ s => ∃ m, σ = [some (.str (T r)), x1, some (.ref gd), some (.ref f), some (.ref g), some (.int m), none] ∧ s = ⟨[(gd, .lst (rwsV good)), (f, .lst (rwsV []))], []⟩ ∧ m ∈ good.map (fun x => ((far x r : Nat) : Int)) ∧ ∀ y ∈ good.map (fun x => ((far x r : Nat) : Int)), m ≤ y) ?_ ?_
      · walk_at "bm"
        refine ⟨⟨_, by walk_at "isl"⟩, ?_⟩
        refine cp_list (xs := rwsV good) (fun i => ((good.take i).map fun x => ((far x r : Nat) : Int)).map V.int) (by walk_at "isl") (by rw [List.length_map]; omega) rfl (fun i hi => by rw [List.length_map, List.length_map, List.length_take]; omega) ?_ ?_
        · intro D i y hi hy
          obtain ⟨u, hu, rfl⟩ := getR hy
          have hul := hgl u (List.mem_of_getElem? hu)
          walk_at "bm"
          refine ⟨rfl, ?_⟩
          walk_at "bm"
          refine c__law_far (by omega) hul ?_
          exact ⟨Sub.refl _, by rw [take_snoc hu, List.map_append, List.map_append]; rfl⟩
        intro D hD
        rw [List.length_map, List.take_length]
        walk_at "bm"
        refine wl_min (by walk_at "isl") (by rw [List.length_map]; exact List.length_pos_iff.mpr h') fun m hm1 hm2 => ?_
        exact ⟨_, by walk_at "sub", m, rfl, rfl, hm1, hm2⟩
      rintro σ s ⟨m, rfl, rfl, hm1, hm2⟩
      walk_at "bm"
      refine ⟨⟨_, by walk_at "isl"⟩, ?_⟩
      refine cp_list (xs := rwsV good) (fun i => rwsV ((good.take i).filter fun x => decide (((far x r : Nat) : Int) = m))) (by walk_at "isl") (by rw [List.length_map]; omega) rfl (fun i hi => by rw [List.length_map]; exact filt_take_len _ _ _) ?_ ?_
      · intro D i y hi hy
        obtain ⟨u, hu, rfl⟩ := getR hy
        have hul := hgl u (List.mem_of_getElem? hu)
        walk_at "bm"
        refine ⟨rfl, ?_⟩
        walk_at "bm"
        refine c__law_far (by omega) hul ?_
        walk_at "bm"
        refine ⟨fun h => ?_, fun h => ?_⟩
        · walk_at "bm"
          exact ⟨Sub.refl _, by rw [filt_snoc hu, h, rwsV_app]; rfl⟩
        · exact ⟨Sub.refl _, by rw [filt_snoc hu, h, if_neg (by decide), List.append_nil]⟩
      intro D hD
      rw [List.length_map, List.take_length]
      walk_at "bm"
      refine wl_sortedT (by walk_at "isl") (Nat.lt_of_le_of_lt (List.length_filter_le _ _) (by omega)) fun us p hp hso hpn => ?_
      rw [hgood] at hm1 hm2 hp
      have e := every_end hm1 hm2 hp hso
      exact ⟨_, Sub.refl _, _, _, p, rfl, by rw [e]; exact List.mem_cons_self⟩
    · have h' : good = [] := by simpa using h
      rw [hgood] at h'
      walk_at "bm"
      exact ⟨_, Sub.refl _, _, _, f, rfl, by rw [every_none h']; walk_at "mem"⟩
  rintro σ s ⟨x5, x6, p, rfl, hp⟩
  walk_at "bm"
  exact hp
end BM
namespace BM
open PySem PySem.Spec PyProof.Rows L2 Evl
/-! ### a dict of counts -/
abbrev k2 (p : Int × Int) : List Key := ik2 p.1 p.2
theorem k2_inj {p q : Int × Int} (h : k2 p = k2 q) : p = q := Prod.ext (ik2_inj.mp h).1 (ik2_inj.mp h).2
def Ks (kvs : List (List Key × V)) (ps : List (Int × Int)) : Prop := kvs.map (·.1) = ps.map k2 ∧ ps.Nodup
def Cnt (kvs : List (List Key × V)) (A : Int → Int → Nat) : Prop := ∀ d m, valV kvs (ik2 d m) = if 0 < A d m then some (.int (A d m : Nat)) else none
theorem Ks.mem {kvs : List (List Key × V)} {ps : List (Int × Int)} (h : Ks kvs ps) {p : Int × Int} : p ∈ ps ↔ (valV kvs (k2 p)).isSome = true := by
  rw [← valV_any, List.any_eq_true]
  constructor
  · intro hp
    have : k2 p ∈ kvs.map (·.1) := by rw [h.1]; exact List.mem_map.mpr ⟨_, hp, rfl⟩
    obtain ⟨kv, hm, e⟩ := List.mem_map.mp this
    exact ⟨kv, hm, decide_eq_true e⟩
  · rintro ⟨kv, hm, e⟩
    have : kv.1 ∈ ps.map k2 := by rw [← h.1]; exact List.mem_map.mpr ⟨_, hm, rfl⟩
    obtain ⟨q, hq, e2⟩ := List.mem_map.mp this
    rw [of_decide_eq_true e] at e2
    rw [← k2_inj e2]
    exact hq
theorem Ks.put {kvs : List (List Key × V)} {ps : List (Int × Int)} (h : Ks kvs ps) (p : Int × Int) (v : V) : ∃ ps', Ks (putK kvs (k2 p) v) ps' := by
  unfold putK
  split
  · refine ⟨ps, ?_, h.2⟩
    rw [← h.1, List.map_map]
    apply List.map_congr_left
    intro kv _
    show (if kv.1 = k2 p then (kv.1, v) else kv).1 = kv.1
    split <;> rfl
  · rename_i hn
    refine ⟨ps ++ [p], ?_, ?_⟩
    · rw [List.map_append, List.map_append, h.1]
      rfl
    · refine List.nodup_append.mpr ⟨h.2, by simp, fun a ha b hb => ?_⟩
      rw [List.mem_singleton.mp hb]
      rintro rfl
      rw [h.mem, ← valV_any] at ha
      exact hn ha
theorem Cnt.put {kvs : List (List Key × V)} {A : Int → Int → Nat} (h : Cnt kvs A) {d0 m0 : Int} {w : Nat} (hw : 0 < w) : Cnt (putK kvs (ik2 d0 m0) (.int ((A d0 m0 : Int) + (w : Int)))) (fun d m => A d m + if d = d0 ∧ m = m0 then w else 0) := by
  intro d m
  rw [valV_put]
  by_cases e : d = d0 ∧ m = m0
  · obtain ⟨rfl, rfl⟩ := e
    rw [if_pos rfl]
    simp only [and_self, if_true]
    rw [if_pos (by omega), Int.natCast_add]
  · rw [if_neg (fun z => e (ik2_inj.mp z)), h d m]
    simp only [if_neg e, Nat.add_zero]
theorem Cnt.getD {kvs : List (List Key × V)} {A : Int → Int → Nat} (h : Cnt kvs A) (d m : Int) : (valV kvs (ik2 d m)).getD (.int 0) = .int (A d m : Nat) := by
  rw [h d m]
  by_cases e : 0 < A d m
  · rw [if_pos e]
    rfl
  · rw [if_neg e, show A d m = 0 by omega]
    rfl
theorem Cnt.mem {kvs : List (List Key × V)} {ps : List (Int × Int)} {A : Int → Int → Nat} (h : Cnt kvs A) (hk : Ks kvs ps) {p : Int × Int} : p ∈ ps ↔ 0 < A p.1 p.2 := by
  rw [hk.mem, h p.1 p.2]
  by_cases e : 0 < A p.1 p.2
  · rw [if_pos e]
    simp [e]
  · rw [if_neg e]
    simp [e]
theorem Ks.get {kvs : List (List Key × V)} {ps : List (Int × Int)} (h : Ks kvs ps) {j : Nat} {k : List Key} {v : V} (hj : kvs[j]? = some (k, v)) : ∃ p, ps[j]? = some p ∧ k = k2 p := by
  have h1 : (kvs.map (·.1))[j]? = some k := by rw [List.getElem?_map, hj]; rfl
  rw [h.1, List.getElem?_map] at h1
  cases hp : ps[j]? with
  | none => rw [hp] at h1; cases h1
  | some p =>
    rw [hp] at h1
    exact ⟨p, rfl, (Option.some.inj h1).symm⟩
theorem Ks.len {kvs : List (List Key × V)} {ps : List (Int × Int)} (h : Ks kvs ps) : kvs.length = ps.length := by
  have := congrArg List.length h.1
  rw [List.length_map, List.length_map] at this
  exact this
def pairs41 : List (Int × Int) := (List.range 41).flatMap fun (a : Nat) => (List.range 41).map fun (b : Nat) => ((a : Int), (b : Int))
theorem pairs41_len : pairs41.length = 1681 := by
  unfold pairs41
  rw [List.length_flatMap]
  simp only [List.length_map, List.length_range]
  rfl
theorem cnt_len {r : List Bool} {i : Nat} {kvs : List (List Key × V)} {ps : List (Int × Int)} (hk : Ks kvs ps) (hc : Cnt kvs (fw r i)) (hi : i ≤ 40) : kvs.length ≤ 1681 := by
  rw [hk.len, ← pairs41_len]
  refine nodup_len hk.2 fun p hp => ?_
  have h := (hc.mem hk).mp hp
  have h1 : ¬ p.1 < 0 := fun z => by rw [fw_neg z] at h; omega
  have h2 : ¬ p.2 < 0 := fun z => by rw [fw_mneg z] at h; omega
  have h3 : ¬ ((i : Int) < p.2 ∨ (i : Int) < p.1) := fun z => by rw [fw_high z] at h; omega
  refine List.mem_flatMap.mpr ⟨p.1.toNat, List.mem_range.mpr (by omega), List.mem_map.mpr ⟨p.2.toNat, List.mem_range.mpr (by omega), ?_⟩⟩
  rw [Int.toNat_of_nonneg (by omega), Int.toNat_of_nonneg (by omega)]
theorem cnt_start (r : List Bool) : Ks [(ik2 0 0, V.int 1)] [(0, 0)] ∧ Cnt [(ik2 0 0, V.int 1)] (fw r 0) := by
  refine ⟨⟨rfl, by simp⟩, fun d m => ?_⟩
  unfold fw
  by_cases e : d = 0 ∧ m = 0
  · obtain ⟨rfl, rfl⟩ := e
    rw [valV_pos rfl]
    rfl
  · rw [valV_neg (fun z => e (by have := ik2_inj.mp z; omega)), valV_nil, if_neg e]
    rfl
/-! ### one bracket more -/
def con (r : List Bool) (i : Nat) (b c : Bool) (p : Int × Int) (d m : Int) : Nat := if 0 ≤ d ∧ d = p.1 + sg c ∧ m = p.2 + cs c b then fw r i p.1 p.2 else 0
def accA (r : List Bool) (i : Nat) (b : Bool) (l : List (Int × Int)) (d m : Int) : Nat := (l.map fun p => con r i b true p d m + con r i b false p d m).sum
theorem accA_snoc (r : List Bool) (i : Nat) (b : Bool) (l : List (Int × Int)) (p : Int × Int) (d m : Int) : accA r i b (l ++ [p]) d m = accA r i b l d m + (con r i b true p d m + con r i b false p d m) := by
  unfold accA
  rw [List.map_append, List.sum_append]
  simp
theorem sum_at {q : Int × Int} {f : Int × Int → Nat} : ∀ {ps : List (Int × Int)}, ps.Nodup → (ps.map fun p => if p = q then f p else 0).sum = if q ∈ ps then f q else 0
  | [], _ => rfl
  | a :: ps, nd => by
    have nd' := List.nodup_cons.mp nd
    have ih := sum_at (q := q) (f := f) nd'.2
    rw [List.map_cons, List.sum_cons, ih]
    by_cases e : a = q
    · subst e
      rw [if_pos rfl, if_neg nd'.1, if_pos List.mem_cons_self]
      rfl
    · rw [if_neg e, Nat.zero_add]
      by_cases h : q ∈ ps
      · rw [if_pos h, if_pos (List.mem_cons_of_mem _ h)]
      · rw [if_neg h, if_neg (fun z => (List.mem_cons.mp z).elim (fun z => e z.symm) h)]
theorem sum_two {f g : Int × Int → Nat} : ∀ (ps : List (Int × Int)), (ps.map fun p => f p + g p).sum = (ps.map f).sum + (ps.map g).sum
  | [] => rfl
  | a :: ps => by
    have ih := sum_two (f := f) (g := g) ps
    rw [List.map_cons, List.sum_cons, List.map_cons, List.sum_cons, List.map_cons, List.sum_cons, ih]
    omega
theorem sum_zero {f : Int × Int → Nat} : ∀ (ps : List (Int × Int)), (∀ p ∈ ps, f p = 0) → (ps.map f).sum = 0
  | [], _ => rfl
  | a :: ps, h => by
    rw [List.map_cons, List.sum_cons, h a List.mem_cons_self, sum_zero ps fun p hp => h p (List.mem_cons_of_mem _ hp)]
theorem con_sum {r : List Bool} {i : Nat} {b c : Bool} {kvs : List (List Key × V)} {ps : List (Int × Int)} (hk : Ks kvs ps) (hc : Cnt kvs (fw r i)) {d m : Int} (hd : 0 ≤ d) : (ps.map fun p => con r i b c p d m).sum = fw r i (d - sg c) (m - cs c b) := by
  have e : (fun p => con r i b c p d m) = fun p => if p = (d - sg c, m - cs c b) then fw r i p.1 p.2 else 0 := by
    funext p
    unfold con
    by_cases h : p = (d - sg c, m - cs c b)
    · rw [if_pos h, if_pos]
      subst h
      exact ⟨hd, by simp, by simp⟩
    · rw [if_neg h, if_neg]
      rintro ⟨_, h1, h2⟩
      exact h (Prod.ext (by show p.1 = d - sg c; omega) (by show p.2 = m - cs c b; omega))
  rw [e, sum_at (f := fun p => fw r i p.1 p.2) hk.2]
  by_cases h : (d - sg c, m - cs c b) ∈ ps
  · rw [if_pos h]
  · rw [if_neg h]
    have h2 : ¬ 0 < fw r i (d - sg c) (m - cs c b) := fun z => h ((hc.mem hk).mpr z)
    omega
theorem acc_done {r : List Bool} {i : Nat} {b : Bool} {kvs : List (List Key × V)} {ps : List (Int × Int)} (hk : Ks kvs ps) (hc : Cnt kvs (fw r i)) (hb : r[i]? = some b) (d m : Int) : accA r i b ps d m = fw r (i + 1) d m := by
  have eg : r.getD i true = b := by rw [List.getD_eq_getElem?_getD, hb]; rfl
  by_cases hd : d < 0
  · rw [fw_neg hd]
    refine sum_zero _ fun p _ => ?_
    unfold con
    rw [if_neg (by omega), if_neg (by omega)]
  · unfold accA
    rw [sum_two, con_sum hk hc (by omega), con_sum hk hc (by omega)]
    show _ = if d < 0 then 0 else fw r i (d - 1) (m - cs true (r.getD i true)) + fw r i (d + 1) (m - cs false (r.getD i true))
    rw [if_neg hd, eg]
    rfl
/-- behind some keys, and behind some brackets of one more -/
def accC (r : List Bool) (i : Nat) (b : Bool) (l : List (Int × Int)) (p : Int × Int) (c : Nat) (d m : Int) : Nat := accA r i b l d m + ((if 1 ≤ c then con r i b true p d m else 0) + (if 2 ≤ c then con r i b false p d m else 0))
theorem con_at {r : List Bool} {i : Nat} {b c : Bool} {p : Int × Int} (h : 0 ≤ p.1 + sg c) (d m : Int) : con r i b c p d m = if d = p.1 + sg c ∧ m = p.2 + cs c b then fw r i p.1 p.2 else 0 := by
  unfold con
  by_cases e : d = p.1 + sg c ∧ m = p.2 + cs c b
  · rw [if_pos e, if_pos ⟨by omega, e⟩]
  · rw [if_neg e, if_neg (fun z => e z.2)]
theorem con_no {r : List Bool} {i : Nat} {b c : Bool} {p : Int × Int} (h : ¬ 0 ≤ p.1 + sg c) (d m : Int) : con r i b c p d m = 0 := by
  unfold con
  rw [if_neg (by omega)]
/-! ### rules -/
section
variable {K : PySem.W.Frag} {H0 : Hp} {σ : L2.St} {s : Ld} {Q : V → Ld → Prop} {tt : TT} {te : TE} {vs : List Nat} {g : TG}
theorem we_dnewT (h : ∀ p, H0 p = none → Q (.ref p) ⟨(p, .dT []) :: s.L, s.T⟩) : WE H0 tDNewT σ s Q := fun H o R k p hp => k _ _ _ (o.new hp) (h p (fresh_back o.ex hp))
theorem cp_keysT {d : Addr} {od : Obj} {kvs : List (List Key × V)} (I : Addr → Nat → Ld → Prop) (h0 : ∀ D, H0 D = none → I D 0 ⟨(D, .lst []) :: s.L, s.T⟩) (hI : ∀ D i s, i ≤ kvs.length → I D i s → (d, HO.frz od (.dT kvs)) ∈ s.L)
    (hs : ∀ D i k v s q, i < kvs.length → kvs[i]? = some (k, v) → I D i s → WG H0 g (.ref q) (wipe σ vs) ⟨s.L, (q, k.map kV) :: s.T⟩ fun σ2 s2 => wipe σ2 vs = wipe σ vs ∧ WT H0 tt σ2 s2 fun b s3 =>
      (b = true → WE H0 te σ2 s3 fun y s4 => ∃ acc, (D, HO.lst acc) ∈ s4.L ∧ acc.length < 100000 ∧ ∀ L', (D, HO.lst (acc ++ [y])) ∈ L' → (∀ e ∈ s4.L, e.1 ≠ D → e ∈ L') → ∃ s0, Sub s0 ⟨L', s4.T⟩ ∧ I D (i + 1) s0) ∧ (b = false → ∃ s0, Sub s0 s3 ∧ I D (i + 1) s0)) (hq : ∀ D s, I D kvs.length s → Q (.ref D) s) : CompOk H0 (Itkt d od kvs) g tt te σ vs s Q := by
  refine ⟨kvs.length, _, _, walk_keysT, fun D hD => ⟨I D, h0 D hD, fun i s H hi q o => (o.own _ (hI D i s hi q)).2, fun i x s H H' hi q o ⟨e, k, v, p, hk, ex, hp⟩ => ⟨⟨s.L, (p, k.map kV) :: s.T⟩, by
    rw [e]
    exact o.moreT (ts := [(p, k.map kV)]) (fun t ht => by rw [List.mem_singleton.mp ht]; exact hp), ?_⟩, hq D⟩⟩
  rw [ex]
  have h := hs D i k v s p hi hk q
  refine fun H3 o3 R k => h H3 o3 R fun σ3 H4 s4 o4 h4 => k _ H4 s4 o4 ⟨h4.1, fun H5 o5 R5 k5 => h4.2 H5 o5 R5 fun b H6 s6 o6 h6 => k5 b H6 s6 o6 ⟨fun hb => ?_, h6.2⟩⟩
  refine fun H7 o7 R7 k7 => h6.1 hb H7 o7 R7 fun y H8 s8 o8 ⟨acc, hm, hl, h9⟩ => k7 y H8 s8 o8 ?_
  obtain ⟨L', sw, g1, g2⟩ := swap_mem (.lst (acc ++ [y])) hm o8.nd
  obtain ⟨s0, hs0, hI⟩ := h9 L' g1 g2
  exact ⟨acc, L', s0, sw, hl, hs0, hI⟩
/-- the key of a pair, as the heap has it -/
def kfH (H : Hp) (x : V) : Int × Int := match x with
  | .ref t => (match H t with
    | some (.tup [.int a, .int b]) => (a, b)
    | _ => (0, 0))
  | _ => (0, 0)
theorem wl_sortedPT {a : Addr} {xs : List V} (hx : IsL K H0 s a xs) (hk : ∀ x ∈ xs, ∃ t m w, x = V.ref t ∧ (t, [V.int m, V.int w]) ∈ s.T)
    (q : ∀ (ys : List V) (p : Addr), ys.Perm xs → (∀ y ys', ys = y :: ys' → ∀ t0 m0 w0, y = V.ref t0 → (t0, [V.int m0, V.int w0]) ∈ s.T → ∀ t m w, V.ref t ∈ xs → (t, [V.int m, V.int w]) ∈ s.T → m0 ≤ m) → (∀ e ∈ s.L, e.1 ≠ p) → H0 p = none → Q (.ref p) ⟨(p, .lst ys) :: s.L, s.T⟩) : WL H0 (rSortedPO K) [.ref a] s Q := fun H o R k => by
  have hkf : ∀ t m w, (t, [V.int m, V.int w]) ∈ s.T → kfH H (.ref t) = (m, w) := fun t m w h => by
    have := o.tp _ h
    have e : H t = some (.tup [V.int m, V.int w]) := this
    simp only [kfH, e]
  refine ⟨a, xs, kfH H, rfl, hx H o, fun x hx => ?_, fun ys p h1 h2 hn => k _ _ _ (o.new hn) (q ys p h2.perm (fun y ys' e t0 m0 w0 e0 hm0 t m w ht hm => ?_) (fun e he ep => by have := (o.own _ he).2; rw [ep, hn] at this; cases this) (fresh_back o.ex hn))⟩
  · obtain ⟨t, m, w, e, hm⟩ := hk x hx
    refine ⟨t, e, ?_⟩
    rw [e, hkf t m w hm]
    exact o.tp _ hm
  · subst e
    have hh : (V.ref t) ∈ y :: ys' := h2.perm.mem_iff.mpr ht
    rcases List.mem_cons.mp hh with e | hh
    · have h3 := hkf t m w hm
      rw [e, e0, hkf t0 m0 w0 hm0] at h3
      have := congrArg Prod.fst h3
      exact Int.le_of_eq this
    · have h3 : ltP (kfH H) (V.ref t) y = false := SrtO.srtd_head h1 _ hh
      have h4 := SrtO.lexB_no.mp h3
      rw [hkf t m w hm, e0, hkf t0 m0 w0 hm0] at h4
      simp only at h4
      omega
theorem pairs_of {s : Ld} : ∀ {ys : List V}, (∀ x ∈ ys, ∃ t m w, x = V.ref t ∧ (t, [V.int m, V.int w]) ∈ s.T) → ∃ ns : List (Int × Int), ns.length = ys.length ∧ ∀ H, Own H0 H s → PairsIn K H ys ns
  | [], _ => ⟨[], rfl, fun _ _ => .nil⟩
  | x :: ys, h => by
    obtain ⟨ns, hl, hn⟩ := pairs_of (ys := ys) fun y hy => h y (List.mem_cons_of_mem _ hy)
    obtain ⟨t, m, w, e, hm⟩ := h x List.mem_cons_self
    exact ⟨(m, w) :: ns, by rw [List.length_cons, List.length_cons, hl], fun H o => .cons ⟨t, e, isT_own hm H o⟩ (hn H o)⟩
end
end BM
namespace BM
open PySem L2 Evl
local macro_rules | `(tactic| walk_at "mem") => `(tactic| first | exact List.mem_cons_self | (refine List.mem_cons_of_mem _ ?_; walk_at "mem"))
local macro_rules | `(tactic| walk_at "swap") => `(tactic| first | exact Swap.here | (apply Swap.there; walk_at "swap"))
local macro_rules | `(tactic| walk_at "subl") => `(tactic| first | exact List.Sublist.refl _ | exact List.nil_sublist _ | (refine List.Sublist.cons_cons _ ?_; walk_at "subl") | (refine List.Sublist.cons _ ?_; walk_at "subl"))
local macro_rules | `(tactic| walk_at "sub") => `(tactic| first | exact Sub.refl _ | (refine ⟨?_, ?_⟩ <;> walk_at "subl"))
local macro_rules | `(tactic| walk_at "isl") => `(tactic| first | exact isL_own (by walk_at "mem") | exact isL_old (by assumption) | assumption)
local macro_rules | `(tactic| walk_at "ist") => `(tactic| first | exact isT_own (by walk_at "mem") | exact isT_old (by assumption) | assumption)
local macro_rules | `(tactic| walk_at "len") => `(tactic| first | omega | decide | (simp only [List.length_map, List.length_take, List.length_drop, List.length_append, List.length_cons, List.length_nil, List.length_reverse, dps_len, flp_len]; omega) | (simp [dps_len, flp_len]; omega) | simp)
local macro_rules | `(tactic| walk_at "b0") => `(tactic| first
  | with_reducible refine' ws_set ?_
  | with_reducible refine' ws_par ?_
  | with_reducible refine' ws_asg ?_
  | with_reducible refine' ws_drop ?_
  | with_reducible refine' ws_ret ?_
  | with_reducible refine' ws_if ?_
  | with_reducible refine' ws_next ?_
  | with_reducible refine' ws_brk ?_
  | with_reducible refine' ws_cont ?_
  | ((with_reducible refine' we_var ?hv ?_); case hv => rfl)
  | with_reducible refine' we_c ?_
  | with_reducible refine' we_op ?_
  | with_reducible refine' we_un ?_
  | with_reducible refine' we_if ?_
  | with_reducible refine' we_and ?_
  | with_reducible refine' we_or ?_
  | with_reducible refine' we_not ?_
  | with_reducible refine' wa_nil ?_
  | with_reducible refine' wa_cons ?_
  | (with_reducible refine' we_lst ?_)
  | (with_reducible refine' we_tup ?_)
  | with_reducible refine' we_cb ?_
  | with_reducible refine' we_call0 ?_
  | with_reducible refine' we_sl ?_
  | with_reducible refine' wo_none ?_
  | (with_reducible refine' wo_some ?_)
  | with_reducible refine' wt_test ?_
  | with_reducible refine' wt_B ?_
  | with_reducible refine' wt_and ?_
  | with_reducible refine' wt_or ?_
  | with_reducible refine' wt_not ?_
  | with_reducible refine' wt_yes ?_
  | with_reducible refine' we_chain ?_
  | with_reducible refine' we_chain3 ?_
  | with_reducible refine' we_revT ?_
  | with_reducible refine' we_revL ?_
  | with_reducible refine' we_bm ?_
  | with_reducible refine' we_bm0 ?_
  | with_reducible refine' ws_for ?_
  | with_reducible refine' we_lc ?_
  | with_reducible refine' wi_list ?_
  | with_reducible refine' wi_tup ?_
  | with_reducible refine' wi_T ?_
  | with_reducible refine' wi_rng1 ?_
  | with_reducible refine' wi_rng2 ?_
  | with_reducible refine' wi_rng3 ?_
  | with_reducible refine' wi_enum ?_
  | with_reducible refine' wi_enumT ?_
  | with_reducible refine' wi_zip ?_
  | with_reducible refine' wg_name ?_
  | with_reducible refine' wg_sub ?_
  | with_reducible refine' wgs_nil ?_
  | with_reducible refine' wgs_cons ?_
  | ((with_reducible refine' wg_tup ?ht ?hn ?_); (case ht => walk_at "ist"); (case hn => rfl))
  | with_reducible refine' w2_add ?_
  | with_reducible refine' w2_sub ?_
  | with_reducible refine' w2_lt ?_
  | with_reducible refine' w2_le ?_
  | with_reducible refine' w2_gt ?_
  | with_reducible refine' w2_ge ?_
  | with_reducible refine' w2_eqI ?_
  | with_reducible refine' w2_neI ?_
  | with_reducible refine' w2_eqT ?_
  | with_reducible refine' w2_neT ?_
  | with_reducible refine' w2_eqB ?_
  | with_reducible refine' w2_neB ?_
  | with_reducible refine' w2_isN ?_
  | with_reducible refine' w2_notN ?_
  | with_reducible refine' w2_isB ?_
  | with_reducible refine' w2_inT ?_
  | with_reducible refine' w1_neg ?_
  | with_reducible refine' wl_abs ?_
  | with_reducible refine' wl_max2 ?_
  | with_reducible refine' wl_min2 ?_
  | with_reducible refine' wl_intB ?_
  | ((with_reducible refine' w2_div ?h ?_); case h => first | omega | (constructor <;> omega))
  | ((with_reducible refine' w2_mod ?h ?_); case h => omega)
  | ((with_reducible refine' w2_catT ?h ?_); case h => walk_at "len")
  | ((with_reducible refine' wsl_T ?h ?_); case h => walk_at "len")
  | ((with_reducible refine' wl_lenT ?h ?_); case h => walk_at "len")
  | ((with_reducible refine' wl_len ?h ?_); case h => walk_at "isl")
  | ((with_reducible refine' wl_len ?h ?_); case h => walk_at "isl")
  | ((with_reducible refine' wm_append ?sw ?hl ?_); (case sw => walk_at "swap"); (case hl => walk_at "len")))
local macro_rules | `(tactic| walk_at "b1") => `(tactic| first | with_reducible refine' ws_seq ?_ | walk_at "b0")
local macro_rules | `(tactic| walk_at "bx") => `(tactic| first
  | refine ⟨_, rfl, ?_⟩
  | refine ⟨_, _, rfl, ?_⟩
  | refine ⟨ty_L (by walk_at "isl"), ?_⟩
  | refine ⟨ty_S, ?_⟩
  | refine spl_t (by rfl) ?_
  | refine spl_f (by rfl) ?_
  | exact rfl)
local macro_rules | `(tactic| walk_at "bm") => `(tactic| repeat (first | walk_at "b1" | walk_at "bx"))
local macro_rules | `(tactic| walk_at "bn") => `(tactic| repeat (first | walk_at "b0" | walk_at "bx"))
local macro_rules | `(tactic| walk_at "b0") => `(tactic| with_reducible refine' c_deepens ?_)
local macro_rules | `(tactic| walk_at "b0") => `(tactic| ((with_reducible refine' c_depths_of ?hl ?_); (case hl => walk_at "len")))
local macro_rules | `(tactic| walk_at "b0") => `(tactic| with_reducible refine' c_is_wholeI ?_)
local macro_rules | `(tactic| walk_at "b0") => `(tactic| with_reducible refine' c_flipped ?_)
local macro_rules | `(tactic| walk_at "b0") => `(tactic| ((with_reducible refine' c_is_right_row ?hl ?_); (case hl => walk_at "len")))
local macro_rules | `(tactic| walk_at "b0") => `(tactic| ((with_reducible refine' c_asked_row ?hl ?_); (case hl => walk_at "len")))
local macro_rules | `(tactic| walk_at "b0") => `(tactic| ((with_reducible refine' c_depths ?hl ?_); (case hl => walk_at "len")))
local macro_rules | `(tactic| walk_at "b0") => `(tactic| ((with_reducible refine' c_is_right ?hl ?_); (case hl => walk_at "len")))
local macro_rules | `(tactic| walk_at "b0") => `(tactic| ((with_reducible refine' c__law_depths ?hl ?_); (case hl => walk_at "len")))
local macro_rules | `(tactic| walk_at "b0") => `(tactic| ((with_reducible refine' c__law_good ?hl ?_); (case hl => walk_at "len")))
local macro_rules | `(tactic| walk_at "b0") => `(tactic| ((with_reducible refine' wl_listOf ?hx ?_); (case hx => walk_at "isl")))
local macro_rules | `(tactic| walk_at "b0") => `(tactic| with_reducible refine' w2_notB ?_)
local macro_rules | `(tactic| walk_at "own") => `(tactic| exact own_l (by walk_at "mem"))
local macro_rules | `(tactic| walk_at "b0") => `(tactic| with_reducible refine' we_fld ?_)
local macro_rules | `(tactic| walk_at "b0") => `(tactic| refine ⟨_, _, _, _, _, rfl, own_l (by walk_at "mem"), Grw.cl (by assumption), Grw.nr (by assumption), by rfl, ?_⟩)
local macro_rules | `(tactic| walk_at "b0") => `(tactic| refine ⟨_, _, _, _, _, rfl, fun H' o => o.ex _ _ (by assumption), Grw.cl (by assumption), Grw.nr (by assumption), by rfl, ?_⟩)
local macro_rules | `(tactic| walk_at "b0") => `(tactic| with_reducible refine' we_meth ?_)
local macro_rules | `(tactic| walk_at "b0") => `(tactic| refine ⟨_, _, _, rfl, own_l (by walk_at "mem"), by rfl, ?_⟩)
local macro_rules | `(tactic| walk_at "b0") => `(tactic| refine ⟨_, _, _, rfl, fun H' o => o.ex _ _ (by assumption), by rfl, ?_⟩)
local macro_rules | `(tactic| walk_at "gown") => `(tactic| first | exact own_l (by walk_at "mem") | exact fun H' o => o.ex _ _ (by assumption))
local macro_rules | `(tactic| walk_at "b0") => `(tactic| with_reducible refine' wm_countT ?_)
local macro_rules | `(tactic| walk_at "b0") => `(tactic| with_reducible refine' we_methU ?_)
local macro_rules | `(tactic| walk_at "mem") => `(tactic| assumption)
theorem cnt_step {r : List Bool} {i : Nat} {b c : Bool} {l : List (Int × Int)} {p : Int × Int} {A B : Int → Int → Nat} {ks : List (List Key × V)} {ps' : List (Int × Int)} (hk : Ks ks ps') (hc : Cnt ks A) (hw : 0 < fw r i p.1 p.2) (h : 0 ≤ p.1 + sg c) (hB : ∀ d m, B d m = A d m + con r i b c p d m) : ∃ ps2, Ks (putK ks (ik2 (p.1 + sg c) (p.2 + cs c b)) (.int ((A (p.1 + sg c) (p.2 + cs c b) : Int) + (fw r i p.1 p.2 : Int)))) ps2 ∧ Cnt (putK ks (ik2 (p.1 + sg c) (p.2 + cs c b)) (.int ((A (p.1 + sg c) (p.2 + cs c b) : Int) + (fw r i p.1 p.2 : Int)))) B := by
  obtain ⟨ps2, h2⟩ := hk.put (p.1 + sg c, p.2 + cs c b) (.int ((A (p.1 + sg c) (p.2 + cs c b) : Int) + (fw r i p.1 p.2 : Int)))
  refine ⟨ps2, h2, fun d m => ?_⟩
  have := hc.put (d0 := p.1 + sg c) (m0 := p.2 + cs c b) hw d m
  rw [this, hB d m, con_at h]
theorem ln__law_count {K : PySem.W.Frag} {C : CA} {vs : List V} {H : Hp} {Q : VK} {E : XK} (h : sp__law_count K C vs H Q E) : vs.length = 1 := by
  obtain ⟨_, ⟨r, rfl, _⟩, _⟩ := h
  rfl
theorem pu__law_count {K : PySem.W.Frag} {C : CA} {vs : List V} {H : Hp} {Q : VK} {E : XK} (h : sp__law_count K C vs H Q E) : rd__law_count K C { nx := fun _ H' => Q .non H', rt := Q } (start N__law_count vs) H := by
  obtain ⟨_, ⟨r, rfl, hl, rfl⟩, k⟩ := h
  refine body_U ?_ k
  unfold rd__law_count
  refine ws_cut (fun σ s => ∃ p kvs ps, σ = [some (.str (T r)), some (.ref p), none, none, none, none, none, none, none, none] ∧ (p, HO.dT kvs) ∈ s.L ∧ Ks kvs ps ∧ Cnt kvs (fw r 0)) ?_ ?_
  · walk_at "bm"
    refine we_dispT fun p hp => ?_
    walk_at "bm"
    refine ⟨by simp, fun t ht => ?_⟩
    walk_at "bm"
    refine ⟨ik2 0 0, t, _, rfl, List.mem_cons_self, Swap.here, ?_⟩
    exact ⟨_, Sub.refl _, p, _, _, rfl, List.mem_cons_self, cnt_start r⟩
  rintro σ s ⟨p, kvs, ps, rfl, hp, hk0, hc0⟩
  refine ws_cut (fun σ s => ∃ p kvs ps x2 x4 x5 x6 x7 x8 x9, σ = [some (.str (T r)), some (.ref p), x2, none, x4, x5, x6, x7, x8, x9] ∧ (p, HO.dT kvs) ∈ s.L ∧ Ks kvs ps ∧ Cnt kvs (fw r r.length)) ?_ ?_
  · walk_at "bm"
    refine lp_T (r := r) (n := r.length) (fun i σ s => ∃ p kvs ps x2 x4 x5 x6 x7 x8 x9, σ = [some (.str (T r)), some (.ref p), x2, none, x4, x5, x6, x7, x8, x9] ∧ (p, HO.dT kvs) ∈ s.L ∧ Ks kvs ps ∧ Cnt kvs (fw r i)) rfl ⟨p, kvs, ps, none, none, none, none, none, none, none, rfl, hp, hk0, hc0⟩ ?_ (fun σ s q => ⟨_, Sub.refl _, q⟩)
    clear hp hk0 hc0
    rintro i b σ s hi hb ⟨p, kvs, ps, x2, x4, x5, x6, x7, x8, x9, rfl, hp, hk, hc⟩
    have hlen := cnt_len hk hc (by omega)
    refine wg_name ?_
    refine ws_cut (fun σ s => ∃ f L0, σ = [some (.str (T r)), some (.ref p), some (.str (T [b])), none, some (.ref f), x5, x6, x7, x8, x9] ∧ s.L = (f, HO.dT []) :: L0 ∧ (p, HO.dT kvs) ∈ L0) ?_ ?_
    · walk_at "bm"
      refine we_dnewT fun f hf => ?_
      exact ⟨_, Sub.refl _, f, _, rfl, rfl, hp⟩
    clear hp
    rintro σ s ⟨f, L0, rfl, eL, hp⟩
    refine ws_nd fun nd => ?_
    rw [eL] at nd
    have hne : p ≠ f := (new_ne nd hp).symm
    have hf : (f, HO.dT []) ∈ s.L := by rw [eL]; exact List.mem_cons_self
    replace hp : (p, HO.dT kvs) ∈ s.L := by rw [eL]; exact List.mem_cons_of_mem _ hp
    refine ws_cut (fun σ s => ∃ ks ps2 x5 x6 x7 x8 x9, σ = [some (.str (T r)), some (.ref p), some (.str (T [b])), none, some (.ref f), x5, x6, x7, x8, x9] ∧ (f, HO.dT ks) ∈ s.L ∧ Ks ks ps2 ∧ Cnt ks (fw r (i + 1))) ?_ ?_
    · refine ws_lock hp fun od L1 h1 h2 => ?_
      have hf1 := h2 _ hf hne.symm
      refine ws_for ?_
      refine wi_keysT ?_
      walk_at "bm"
      refine ⟨p, od, kvs, rfl, h1, ?_⟩
      refine lp_keysT (fun j σ s => ∃ ks ps2 x5 x6 x7 x8 x9, σ = [some (.str (T r)), some (.ref p), some (.str (T [b])), none, some (.ref f), x5, x6, x7, x8, x9] ∧ (p, HO.frz od (.dT kvs)) ∈ s.L ∧ (f, HO.dT ks) ∈ s.L ∧ Ks ks ps2 ∧ Cnt ks (accA r i b (ps.take j)) ∧ ks.length ≤ 2 * j) ⟨[], [], x5, x6, x7, x8, x9, rfl, h1, hf1, ⟨rfl, .nil⟩, fun d m => rfl, Nat.le_refl _⟩ (fun j σ s _ ⟨_, _, _, _, _, _, _, _, h, _⟩ => h) ?_ ?_
      · rintro j k v σ s q hj hkv ⟨ks, ps2, x5, x6, x7, x8, x9, rfl, hp, hf, hk2, hc2, hkl⟩
        obtain ⟨⟨d, m⟩, hpj, rfl⟩ := hk.get hkv
        have hw : 0 < fw r i d m := (hc.mem hk (p := (d, m))).mp (List.mem_of_getElem? hpj)
        have hval : valV kvs (ik2 d m) = some (.int (fw r i d m : Nat)) := by rw [hc d m, if_pos hw]
        have hsn : ∀ d' m', accA r i b (ps.take (j + 1)) d' m' = accC r i b (ps.take j) (d, m) 2 d' m' := fun d' m' => by
          rw [take_snoc hpj, accA_snoc]
          rfl
        rw [show (k2 (d, m)).map kV = [V.int d, V.int m] from rfl]
        walk_at "bm"
        refine lp_T (r := [true, false]) (n := 2) (fun c σ s => ∃ ks ps2 x7 x8 x9, σ = [some (.str (T r)), some (.ref p), some (.str (T [b])), none, some (.ref f), some (.int d), some (.int m), x7, x8, x9] ∧ (p, HO.frz od (.dT kvs)) ∈ s.L ∧ (f, HO.dT ks) ∈ s.L ∧ Ks ks ps2 ∧ Cnt ks (accC r i b (ps.take j) (d, m) c) ∧ ks.length ≤ 2 * j + c) rfl ⟨ks, ps2, x7, x8, x9, rfl, hp, hf, hk2, hc2, by omega⟩ ?_ ?_
        · clear hp hf hk2 hc2 hkl
          rintro c z σ s hcl hz ⟨ks, ps2, x7, x8, x9, rfl, hp, hf, hk2, hc2, hkl⟩
          have hcz : (c = 0 ∧ z = true) ∨ (c = 1 ∧ z = false) := by
            rcases Nat.lt_or_ge c 1 with h | h
            · have : c = 0 := by omega
              subst this
              exact .inl ⟨rfl, (Option.some.inj hz).symm⟩
            · have : c = 1 := by omega
              subst this
              exact .inr ⟨rfl, (Option.some.inj hz).symm⟩
          have hstep : ∀ d' m', accC r i b (ps.take j) (d, m) (c + 1) d' m' = accC r i b (ps.take j) (d, m) c d' m' + con r i b z (d, m) d' m' := by
            rcases hcz with ⟨rfl, rfl⟩ | ⟨rfl, rfl⟩
            · intro d' m'
              rfl
            · intro d' m'
              show _ + (con r i b true (d, m) d' m' + con r i b false (d, m) d' m') = _ + (con r i b true (d, m) d' m' + 0) + _
              omega
          have hcs : ((if (!decide ([z] = [b])) = true then 1 else 0 : Int)) = cs z b := by
            unfold cs
            cases z <;> cases b <;> rfl
          have hdeep : (if (decide (([z] : List Bool) = [true])) = true then (1 : Int) else -1) = sg z := by cases z <;> rfl
          refine wg_name ?_
          refine ws_cut (fun σ s => σ = [some (.str (T r)), some (.ref p), some (.str (T [b])), none, some (.ref f), some (.int d), some (.int m), some (.str (T [z])), some (.int (d + sg z)), x9] ∧ (p, HO.frz od (.dT kvs)) ∈ s.L ∧ (f, HO.dT ks) ∈ s.L) ?_ ?_
          · cases z with
            | true =>
              walk_at "bm"
              exact ⟨_, Sub.refl _, rfl, hp, hf⟩
            | false =>
              walk_at "bm"
              exact ⟨_, Sub.refl _, rfl, hp, hf⟩
          clear hp hf
          rintro σ s ⟨rfl, hp, hf⟩
          walk_at "bm"
          refine ⟨fun h => ?_, fun h => ?_⟩
          · have h0 := of_decide_eq_true h
            obtain ⟨ps3, hk3, hc3⟩ := cnt_step (l := []) (p := (d, m)) hk2 hc2 hw h0 hstep
            walk_at "bm"
            rw [hcs]
            refine ⟨by simp, fun t ht => ?_⟩
            walk_at "bm"
            refine ws_dputT ?_
            walk_at "bm"
            refine we_dget2T ?_
            walk_at "bm"
            refine ⟨isD_L hf, ?_⟩
            walk_at "bm"
            refine ⟨t, ks, ik2 (d + sg z) (m + cs z b), rfl, rd_L hf, List.mem_cons_self, ?_⟩
            rw [hc2.getD]
            walk_at "bm"
            refine we_dgetT ?_
            walk_at "bm"
            refine ⟨by simp, fun t2 ht2 => ?_⟩
            walk_at "bm"
            refine ⟨p, t2, kvs, ik2 d m, _, rfl, rfl, .inr ⟨od, hp⟩, List.mem_cons_self, hval, ?_⟩
            walk_at "bm"
            refine ⟨f, t, ks, ik2 (d + sg z) (m + cs z b), rfl, rfl, hf, List.mem_cons_of_mem _ List.mem_cons_self, by omega, fun L' g1 g2 => ?_⟩
            exact ⟨_, Sub.refl _, _, ps3, _, _, _, rfl, g2 _ hp hne, g1, hk3, hc3, by have := length_putK ks (ik2 (d + sg z) (m + cs z b)) (.int ((accC r i b (ps.take j) (d, m) c (d + sg z) (m + cs z b) : Int) + (fw r i d m : Int))); omega⟩
          · have h0 := of_decide_eq_false h
            walk_at "bm"
            refine ⟨_, Sub.refl _, ks, ps2, _, _, _, rfl, hp, hf, hk2, fun d' m' => ?_, by omega⟩
            rw [hstep, con_no h0, Nat.add_zero]
            exact hc2 d' m'
        · rintro σ s ⟨ks, ps2, x7, x8, x9, rfl, hp, hf, hk2, hc2, hkl⟩
          exact ⟨_, Sub.refl _, ks, ps2, _, _, x7, x8, x9, rfl, hp, hf, hk2, fun d' m' => by rw [hsn]; exact hc2 d' m', by omega⟩
      · rintro σ s ⟨ks, ps2, x5, x6, x7, x8, x9, rfl, hp, hf, hk2, hc2, hkl⟩
        refine ⟨hp, fun L' g1 g2 => ⟨_, Sub.refl _, ks, ps2, x5, x6, x7, x8, x9, rfl, g2 _ hf hne.symm, hk2, fun d m => ?_⟩⟩
        rw [← acc_done hk hc hb, hc2 d m, hk.len, List.take_length]
    rintro σ s ⟨ks, ps2, x5, x6, x7, x8, x9, rfl, hf2, hk2, hc2⟩
    walk_at "bm"
    exact ⟨_, Sub.refl _, f, ks, ps2, _, _, _, _, _, _, _, rfl, hf2, hk2, hc2⟩
  clear hp hk0 hc0
  rintro σ s ⟨p, kvs, ps, x2, x4, x5, x6, x7, x8, x9, rfl, hp, hk, hc⟩
  have hlen := cnt_len hk hc hl
  have hw0 : ∀ m, fw r r.length 0 m = wy r 0 m := fw_wy r
  have hmem : ∀ m, (0, m) ∈ ps ↔ 0 < wy r 0 m := fun m => by rw [hc.mem hk, ← hw0]
  refine ws_cut (fun σ s => ∃ l ys x5 x6, σ = [some (.str (T r)), some (.ref p), x2, some (.ref l), x4, x5, x6, x7, x8, x9] ∧ (l, HO.lst ys) ∈ s.L ∧ (∀ x ∈ ys, ∃ t m w, x = V.ref t ∧ (t, [V.int m, V.int w]) ∈ s.T) ∧ (ys = [] → hm r = 0) ∧ ∀ y ys', ys = y :: ys' → ∃ t0, y = V.ref t0 ∧ (t0, [V.int (mn r : Nat), V.int (hm r : Nat)]) ∈ s.T ∧ 0 < hm r) ?_ ?_
  · refine ws_lock hp fun od L1 h1 h2 => ?_
    refine ws_asg ?_
    walk_at "bm"
    refine wi_keysT ?_
    walk_at "bm"
    refine ⟨p, od, kvs, rfl, h1, ?_⟩
    refine cp_keysT (fun D j s => ∃ acc, (D, HO.lst acc) ∈ s.L ∧ (p, HO.frz od (.dT kvs)) ∈ s.L ∧ acc.length ≤ j ∧ (∀ x ∈ acc, ∃ t m, x = V.ref t ∧ 0 < wy r 0 m ∧ (t, [V.int m, V.int (wy r 0 m : Nat)]) ∈ s.T) ∧ ∀ q ∈ ps.take j, q.1 = 0 → ∃ t, V.ref t ∈ acc ∧ (t, [V.int q.2, V.int (wy r 0 q.2 : Nat)]) ∈ s.T) (fun D hD => ⟨[], List.mem_cons_self, List.mem_cons_of_mem _ h1, Nat.le_refl _, by simp, by simp⟩) (fun D j s _ ⟨_, _, h, _⟩ => h) ?_ ?_
    · rintro D j k v s q hj hkv ⟨acc, hD, hp, hal, ha, hb⟩
      obtain ⟨⟨d, m⟩, hpj, rfl⟩ := hk.get hkv
      have hw : 0 < fw r r.length d m := (hc.mem hk (p := (d, m))).mp (List.mem_of_getElem? hpj)
      have hval : valV kvs (ik2 d m) = some (.int (fw r r.length d m : Nat)) := by rw [hc d m, if_pos hw]
      rw [show (k2 (d, m)).map kV = [V.int d, V.int m] from rfl]
      walk_at "bm"
      refine ⟨rfl, ?_⟩
      walk_at "bm"
      refine ⟨fun h => ?_, fun h => ?_⟩
      · have h0 : d = 0 := by simpa using h
        subst h0
        rw [hw0] at hw hval
        refine we_nd fun nd => ?_
        have hne : p ≠ D := fun e => by
          subst e
          cases uniq_key nd hp hD
        walk_at "bm"
        refine we_dgetT ?_
        walk_at "bm"
        refine ⟨by simp, fun t2 ht2 => ?_⟩
        walk_at "bm"
        refine ⟨p, t2, kvs, ik2 0 m, _, rfl, rfl, .inr ⟨od, hp⟩, List.mem_cons_self, hval, ?_⟩
        walk_at "bm"
        refine ⟨by simp, fun t ht => ?_⟩
        refine ⟨acc, hD, by omega, fun L' g1 g2 => ?_⟩
        refine ⟨_, Sub.refl _, _, g1, g2 _ hp hne, by rw [List.length_append, List.length_singleton]; omega, fun x hx => ?_, fun q' hq h0 => ?_⟩
        · rcases List.mem_append.mp hx with hx | hx
          · obtain ⟨t', m', e1, e2, e3⟩ := ha x hx
            exact ⟨t', m', e1, e2, List.mem_cons_of_mem _ (List.mem_cons_of_mem _ (List.mem_cons_of_mem _ e3))⟩
          · rw [List.mem_singleton.mp hx]
            exact ⟨t, m, rfl, hw, List.mem_cons_self⟩
        · rw [take_snoc hpj] at hq
          rcases List.mem_append.mp hq with hq | hq
          · obtain ⟨t', e1, e2⟩ := hb q' hq h0
            exact ⟨t', List.mem_append_left _ e1, List.mem_cons_of_mem _ (List.mem_cons_of_mem _ (List.mem_cons_of_mem _ e2))⟩
          · rw [List.mem_singleton.mp hq]
            exact ⟨t, List.mem_append_right _ List.mem_cons_self, List.mem_cons_self⟩
      · have h0 : ¬ d = 0 := by simpa using h
        refine ⟨_, Sub.refl _, acc, hD, hp, by omega, fun x hx => ?_, fun q' hq hq0 => ?_⟩
        · obtain ⟨t', m', e1, e2, e3⟩ := ha x hx
          exact ⟨t', m', e1, e2, List.mem_cons_of_mem _ e3⟩
        · rw [take_snoc hpj] at hq
          rcases List.mem_append.mp hq with hq | hq
          · obtain ⟨t', e1, e2⟩ := hb q' hq hq0
            exact ⟨t', e1, List.mem_cons_of_mem _ e2⟩
          · rw [List.mem_singleton.mp hq] at hq0
            exact absurd hq0 h0
    · rintro D s ⟨acc, hD, hp, hal, ha, hb⟩
      rw [hk.len, List.take_length] at hb
      walk_at "bm"
      refine wl_sortedPT (isL_own hD) (fun x hx => ?_) fun ys l hperm hfst hnew hl => ?_
      · obtain ⟨t', m', e1, e2, e3⟩ := ha x hx
        exact ⟨t', m', _, e1, e3⟩
      walk_at "bm"
      refine ⟨List.mem_cons_of_mem _ hp, fun L' g1 g2 => ?_⟩
      refine ⟨_, Sub.refl _, l, ys, _, _, rfl, g2 _ List.mem_cons_self (hnew _ hp).symm, fun x hx => ?_, fun e => ?_, fun y ys' e => ?_⟩
      · obtain ⟨t', m', e1, e2, e3⟩ := ha x (hperm.mem_iff.mp hx)
        exact ⟨t', m', _, e1, e3⟩
      · subst e
        have e2 : acc = [] := List.perm_nil.mp hperm.symm
        subst e2
        refine Nat.eq_zero_of_not_pos fun hh => ?_
        obtain ⟨t, e1, _⟩ := hb (0, (mn r : Nat)) ((hmem _).mpr hh) rfl
        cases e1
      · obtain ⟨t, m, e1, e2, e3⟩ := ha y (hperm.mem_iff.mp (by rw [e]; exact List.mem_cons_self))
        have F := mn_spec e2
        obtain ⟨t', e4, e5⟩ := hb (0, (mn r : Nat)) ((hmem _).mpr F.some) rfl
        have h1 := hfst y ys' e t m _ e1 e3 t' _ _ e4 e5
        have h2 := F.least m e2
        have h3 : m = (mn r : Nat) := Int.le_antisymm h1 h2
        subst h3
        exact ⟨t, e1, e3, F.some⟩
  rintro σ s ⟨l, ys, x5, x6, rfl, hl, ht, hn, hf⟩
  obtain ⟨ns, hnl, hns⟩ := pairs_of (K := K) (H0 := H) ht
  walk_at "bm"
  refine ⟨by simp, fun e he => ?_⟩
  refine w2_neLP (ns := ns) (ms := []) (isL_own (List.mem_cons_of_mem _ hl)) (fun H' o => hns H' (o.sub (by walk_at "sub"))) (ys := []) (by walk_at "isl") (fun H' o => .nil) ?_
  walk_at "bm"
  cases ys with
  | nil =>
    have e0 : ns = [] := List.length_eq_zero_iff.mp hnl
    subst e0
    refine spl_f (by decide) ?_
    walk_at "bm"
    refine ⟨by simp, fun t ht => ?_⟩
    rw [hn rfl]
    walk_at "bm"
    exact List.mem_cons.mpr (.inl rfl)
  | cons y ys' =>
    obtain ⟨t0, e1, e2, e3⟩ := hf y ys' rfl
    refine spl_t (by cases ns with | nil => cases hnl | cons a b => rfl) ?_
    walk_at "bm"
    refine w2_ixL (v := y) (isL_own (List.mem_cons_of_mem _ hl)) (atI_of (by decide) rfl) ?_
    walk_at "bm"
    rw [if_pos e3]
    exact ⟨t0, e1, e2⟩
theorem c__law_count {K : PySem.W.Frag} {C : CA} {H0 : Hp} {s : Ld} {Q : V → Ld → Prop} {E : XK} {r : List Bool} (hl : r.length ≤ 40) (q : ∀ p, Q (.ref p) ⟨s.L, (p, [.int (if 0 < hm r then (mn r : Int) else 0), .int (hm r : Nat)]) :: s.T⟩) : WC H0 (sp__law_count K C) E [.str (T r)] s Q := wc_U (fun H o => ⟨r, rfl, hl, rfl⟩) q
end BM
namespace BM
open PySem L2 Evl
local macro_rules | `(tactic| walk_at "mem") => `(tactic| first | exact List.mem_cons_self | (refine List.mem_cons_of_mem _ ?_; walk_at "mem"))
local macro_rules | `(tactic| walk_at "swap") => `(tactic| first | exact Swap.here | (apply Swap.there; walk_at "swap"))
local macro_rules | `(tactic| walk_at "subl") => `(tactic| first | exact List.Sublist.refl _ | exact List.nil_sublist _ | (refine List.Sublist.cons_cons _ ?_; walk_at "subl") | (refine List.Sublist.cons _ ?_; walk_at "subl"))
local macro_rules | `(tactic| walk_at "sub") => `(tactic| first | exact Sub.refl _ | (refine ⟨?_, ?_⟩ <;> walk_at "subl"))
local macro_rules | `(tactic| walk_at "isl") => `(tactic| first | exact isL_own (by walk_at "mem") | exact isL_old (by assumption) | assumption)
local macro_rules | `(tactic| walk_at "ist") => `(tactic| first | exact isT_own (by walk_at "mem") | exact isT_old (by assumption) | assumption)
local macro_rules | `(tactic| walk_at "len") => `(tactic| first | omega | decide | (simp only [List.length_map, List.length_take, List.length_drop, List.length_append, List.length_cons, List.length_nil, List.length_reverse, dps_len, flp_len]; omega) | (simp [dps_len, flp_len]; omega) | simp)
local macro_rules | `(tactic| walk_at "b0") => `(tactic| first
  | with_reducible refine' ws_set ?_
  | with_reducible refine' ws_par ?_
  | with_reducible refine' ws_asg ?_
  | with_reducible refine' ws_drop ?_
  | with_reducible refine' ws_ret ?_
  | with_reducible refine' ws_if ?_
  | with_reducible refine' ws_next ?_
  | with_reducible refine' ws_brk ?_
  | with_reducible refine' ws_cont ?_
  | ((with_reducible refine' we_var ?hv ?_); case hv => rfl)
  | with_reducible refine' we_c ?_
  | with_reducible refine' we_op ?_
  | with_reducible refine' we_un ?_
  | with_reducible refine' we_if ?_
  | with_reducible refine' we_and ?_
  | with_reducible refine' we_or ?_
  | with_reducible refine' we_not ?_
  | with_reducible refine' wa_nil ?_
  | with_reducible refine' wa_cons ?_
  | (with_reducible refine' we_lst ?_)
  | (with_reducible refine' we_tup ?_)
  | with_reducible refine' we_cb ?_
  | with_reducible refine' we_call0 ?_
  | with_reducible refine' we_sl ?_
  | with_reducible refine' wo_none ?_
  | (with_reducible refine' wo_some ?_)
  | with_reducible refine' wt_test ?_
  | with_reducible refine' wt_B ?_
  | with_reducible refine' wt_and ?_
  | with_reducible refine' wt_or ?_
  | with_reducible refine' wt_not ?_
  | with_reducible refine' wt_yes ?_
  | with_reducible refine' we_chain ?_
  | with_reducible refine' we_chain3 ?_
  | with_reducible refine' we_revT ?_
  | with_reducible refine' we_revL ?_
  | with_reducible refine' we_bm ?_
  | with_reducible refine' we_bm0 ?_
  | with_reducible refine' ws_for ?_
  | with_reducible refine' we_lc ?_
  | with_reducible refine' wi_list ?_
  | with_reducible refine' wi_tup ?_
  | with_reducible refine' wi_T ?_
  | with_reducible refine' wi_rng1 ?_
  | with_reducible refine' wi_rng2 ?_
  | with_reducible refine' wi_rng3 ?_
  | with_reducible refine' wi_enum ?_
  | with_reducible refine' wi_enumT ?_
  | with_reducible refine' wi_zip ?_
  | with_reducible refine' wg_name ?_
  | with_reducible refine' wg_sub ?_
  | with_reducible refine' wgs_nil ?_
  | with_reducible refine' wgs_cons ?_
  | ((with_reducible refine' wg_tup ?ht ?hn ?_); (case ht => walk_at "ist"); (case hn => rfl))
  | with_reducible refine' w2_add ?_
  | with_reducible refine' w2_sub ?_
  | with_reducible refine' w2_lt ?_
  | with_reducible refine' w2_le ?_
  | with_reducible refine' w2_gt ?_
  | with_reducible refine' w2_ge ?_
  | with_reducible refine' w2_eqI ?_
  | with_reducible refine' w2_neI ?_
  | with_reducible refine' w2_eqT ?_
  | with_reducible refine' w2_neT ?_
  | with_reducible refine' w2_eqB ?_
  | with_reducible refine' w2_neB ?_
  | with_reducible refine' w2_isN ?_
  | with_reducible refine' w2_notN ?_
  | with_reducible refine' w2_isB ?_
  | with_reducible refine' w2_inT ?_
  | with_reducible refine' w1_neg ?_
  | with_reducible refine' wl_abs ?_
  | with_reducible refine' wl_max2 ?_
  | with_reducible refine' wl_min2 ?_
  | with_reducible refine' wl_intB ?_
  | ((with_reducible refine' w2_div ?h ?_); case h => first | omega | (constructor <;> omega))
  | ((with_reducible refine' w2_mod ?h ?_); case h => omega)
  | ((with_reducible refine' w2_catT ?h ?_); case h => walk_at "len")
  | ((with_reducible refine' wsl_T ?h ?_); case h => walk_at "len")
  | ((with_reducible refine' wl_lenT ?h ?_); case h => walk_at "len")
  | ((with_reducible refine' wl_len ?h ?_); case h => walk_at "isl")
  | ((with_reducible refine' wl_len ?h ?_); case h => walk_at "isl")
  | ((with_reducible refine' wm_append ?sw ?hl ?_); (case sw => walk_at "swap"); (case hl => walk_at "len")))
local macro_rules | `(tactic| walk_at "b1") => `(tactic| first | with_reducible refine' ws_seq ?_ | walk_at "b0")
local macro_rules | `(tactic| walk_at "bx") => `(tactic| first
  | refine ⟨_, rfl, ?_⟩
  | refine ⟨_, _, rfl, ?_⟩
  | refine ⟨ty_L (by walk_at "isl"), ?_⟩
  | refine ⟨ty_S, ?_⟩
  | refine spl_t (by rfl) ?_
  | refine spl_f (by rfl) ?_
  | exact rfl)
local macro_rules | `(tactic| walk_at "bm") => `(tactic| repeat (first | walk_at "b1" | walk_at "bx"))
local macro_rules | `(tactic| walk_at "bn") => `(tactic| repeat (first | walk_at "b0" | walk_at "bx"))
local macro_rules | `(tactic| walk_at "b0") => `(tactic| with_reducible refine' c_deepens ?_)
local macro_rules | `(tactic| walk_at "b0") => `(tactic| ((with_reducible refine' c_depths_of ?hl ?_); (case hl => walk_at "len")))
local macro_rules | `(tactic| walk_at "b0") => `(tactic| with_reducible refine' c_is_wholeI ?_)
local macro_rules | `(tactic| walk_at "b0") => `(tactic| with_reducible refine' c_flipped ?_)
local macro_rules | `(tactic| walk_at "b0") => `(tactic| ((with_reducible refine' c_is_right_row ?hl ?_); (case hl => walk_at "len")))
local macro_rules | `(tactic| walk_at "b0") => `(tactic| ((with_reducible refine' c_asked_row ?hl ?_); (case hl => walk_at "len")))
local macro_rules | `(tactic| walk_at "b0") => `(tactic| ((with_reducible refine' c_depths ?hl ?_); (case hl => walk_at "len")))
local macro_rules | `(tactic| walk_at "b0") => `(tactic| ((with_reducible refine' c_is_right ?hl ?_); (case hl => walk_at "len")))
local macro_rules | `(tactic| walk_at "b0") => `(tactic| ((with_reducible refine' c__law_depths ?hl ?_); (case hl => walk_at "len")))
local macro_rules | `(tactic| walk_at "b0") => `(tactic| ((with_reducible refine' c__law_good ?hl ?_); (case hl => walk_at "len")))
local macro_rules | `(tactic| walk_at "b0") => `(tactic| ((with_reducible refine' wl_listOf ?hx ?_); (case hx => walk_at "isl")))
local macro_rules | `(tactic| walk_at "b0") => `(tactic| with_reducible refine' w2_notB ?_)
local macro_rules | `(tactic| walk_at "own") => `(tactic| exact own_l (by walk_at "mem"))
local macro_rules | `(tactic| walk_at "b0") => `(tactic| with_reducible refine' we_fld ?_)
local macro_rules | `(tactic| walk_at "b0") => `(tactic| refine ⟨_, _, _, _, _, rfl, own_l (by walk_at "mem"), Grw.cl (by assumption), Grw.nr (by assumption), by rfl, ?_⟩)
local macro_rules | `(tactic| walk_at "b0") => `(tactic| refine ⟨_, _, _, _, _, rfl, fun H' o => o.ex _ _ (by assumption), Grw.cl (by assumption), Grw.nr (by assumption), by rfl, ?_⟩)
local macro_rules | `(tactic| walk_at "b0") => `(tactic| with_reducible refine' we_meth ?_)
local macro_rules | `(tactic| walk_at "b0") => `(tactic| refine ⟨_, _, _, rfl, own_l (by walk_at "mem"), by rfl, ?_⟩)
local macro_rules | `(tactic| walk_at "b0") => `(tactic| refine ⟨_, _, _, rfl, fun H' o => o.ex _ _ (by assumption), by rfl, ?_⟩)
local macro_rules | `(tactic| walk_at "gown") => `(tactic| first | exact own_l (by walk_at "mem") | exact fun H' o => o.ex _ _ (by assumption))
local macro_rules | `(tactic| walk_at "b0") => `(tactic| with_reducible refine' wm_countT ?_)
local macro_rules | `(tactic| walk_at "b0") => `(tactic| with_reducible refine' we_methU ?_)
theorem ln__law_refused06 {K : PySem.W.Frag} {C : CA} {vs : List V} {H : Hp} {Q : VK} {E : XK} (h : sp__law_refused06 K C vs H Q E) : vs.length = 2 := by
  obtain ⟨v, ⟨r, a, _, rfl, _⟩, _⟩ := h
  rfl
theorem pu__law_refused06 {K : PySem.W.Frag} {C : CA} {vs : List V} {H : Hp} {Q : VK} {E : XK} (h : sp__law_refused06 K C vs H Q E) : rd__law_refused06 K C { nx := fun _ H' => Q .non H', rt := Q } (start N__law_refused06 vs) H := by
  obtain ⟨v, ⟨r, a, hX, rfl, hl, hno, rfl⟩, k⟩ := h
  refine body_V ?_ k
  unfold rd__law_refused06
  refine ws_seq ?_
  refine ws_try_drop ?_
  walk_at "bm"
  intro H' o' R E' hv hE
  refine ⟨r, a, hX.e3, rfl, hl, fun z => absurd z hno, fun _ H2 x => hE _ _ _ _ (o'.ext x) ?_⟩
  refine ⟨hX.bb, fun e he => ?_⟩
  refine ws_exc rfl rfl hX.bn ?_
  walk_at "bm"
  refine wl_isE (kit_self _ _) ?_
  walk_at "bm"
theorem c__law_refused06 {K : PySem.W.Frag} {C : CA} {H0 : Hp} {s : Ld} {Q : V → Ld → Prop} {E : XK} {r : List Bool} {k : Int} (hX : Ex06 K C) (hl : r.length ≤ 40) (hno : ¬ (0 ≤ k ∧ k < hm r)) (q : Q (.bl true) s) : WC H0 (sp__law_refused06 K C) E [.str (T r), .int k] s Q :=
  wc_V (fun H o => ⟨r, k, hX, rfl, hl, hno, rfl⟩) q
end BM
namespace BM
open PySem PySem.Spec PyProof.Rows L2
/-! sorted(set(texts)), the texts all different -/
def GoodX (w : World) (e : Int × Value) : Prop := ∃ k tk, e.2 = Value.str k tk ∧ e.1 = hashStr w k
def txOf (v : Value) : Str := match v with
  | .str k _ => k
  | _ => ⟨#[]⟩
def SetX (w : World) (h : Heap) (a : Addr) (l : List Str) : Prop :=
  ∃ o es ep t, h.get? a = some o ∧ o.ExactSet ∧ o.data = .set es ep t ∧ (∀ e ∈ es.toList, GoodX w e) ∧ (es.toList.map fun e => txOf e.2).Perm l ∧
    es.size < scanBound ∧ t.fits es.size = true ∧ Ris t.place.toList ∧ (w.params.followText "set-order" = true ∨ t.led = true)
theorem is_tx {P : Program} {w : World} (k : Str) (u : Tok) : (PySem.strKind P w).is k (.str k u) = true := by
  show Value.isStrOf k (.str k u) = true
  simp [Value.isStrOf]
section
variable {P : Program} {w : World} {h h' : Heap} {a : Addr} {l : List Str}
theorem SetX.at (R : SetX w h a l) (k : ∀ o, h.get? a = some o → h'.get? a = some o) : SetX w h' a l := by
  obtain ⟨o, es, ep, t, ho, r⟩ := R
  exact ⟨o, es, ep, t, k o ho, r⟩
theorem SetX.perm {l' : List Str} (R : SetX w h a l) (p : l.Perm l') : SetX w h a l' := by
  obtain ⟨o, es, ep, t, ho, r1, r2, r3, r4, r5⟩ := R
  exact ⟨o, es, ep, t, ho, r1, r2, r3, r4.trans p, r5⟩
theorem goodX_elems {l : List (Int × Value)} (g : ∀ e ∈ l, GoodX w e) : ElemsOf (PySem.strKind P w) l := fun e he => by
  obtain ⟨k, tk, h1, h2⟩ := g e he
  exact ⟨⟨k, by rw [h1]; exact is_tx k tk, h2⟩, by rw [h1] <;> rfl⟩
theorem goodX_is {e : Int × Value} (g : GoodX w e) {k : Str} (h : (PySem.strKind P w).is k e.2 = true) : txOf e.2 = k := by
  obtain ⟨k0, tk, h1, _⟩ := g
  rw [h1] at h ⊢
  exact ((PySem.strKind P w).inj (.str k0 tk) k k0 h (is_tx k0 tk)).symm
end
section
variable {P : Program} {w : World} {A : Around} {E : Value → Shared → Prop} {s : Shared} {a : Addr} {l : List Str}
theorem setX_tail {g : Bool → Sem Unit} (hg : ∀ (b : Bool) (s₁ : Shared) (Q' : Unit → Shared → Prop), Q' () s₁ → wpAny (model P w) A (g b) Q' E s₁)
    {o : Obj} {es : Array (Int × Value)} {ep : Nat} {t : SetTable} (ho : s.heap.get? a = some o) (hex : o.ExactSet) (hd : o.data = .set es ep t)
    {es1 : Array (Int × Value)} {t2 : SetTable} {l' : List Str} (g1 : ∀ e ∈ es1.toList, GoodX w e) (m1 : (es1.toList.map fun e => txOf e.2).Perm l')
    (hb1 : es1.size < scanBound) (hf2 : t2.fits es1.size = true) (hr : Ris t2.place.toList) (hl : w.params.followText "set-order" = true ∨ t2.led = true) {wasDummy : Bool} {R : Option Bool → Shared → Prop}
    (hR : ∀ h', Heap.SameBut a s.heap h' → SetX w h' a l' → R (some true) { s with heap := h' }) :
    wpAny (model P w) A (do
        storeSet a es1 t2
        if (!wasDummy && t2.tooFull) = true then do
            g (relayAll t2 es1 (SetTable.grown es1.size)).2.2
            storeSet a (relayAll t2 es1 (SetTable.grown es1.size)).1 (relayAll t2 es1 (SetTable.grown es1.size)).2.1
            pure (some true)
          else pure (some true)) R E s := by
  refine wpAny_bind (wpAny_storeSet_of ho hd ?_ (fits_of_scanBound hb1))
  have ho1 := store_at (es' := es1) (t' := t2) ho hd
  have sb1 := Heap.SameBut.update s.heap a (Obj.putSet es1 t2)
  split
  · have pm := relayAll_perm t2 es1 (SetTable.grown es1.size)
    have hf3 := relayAll_fits t2 es1 (SetTable.grown es1.size)
    have hr3 := relayAll_ris t2 es1 (SetTable.grown es1.size)
    have hl3 := relayAll_led t2 es1 (SetTable.grown es1.size)
    generalize relayAll t2 es1 (SetTable.grown es1.size) = Z at pm hf3 hr3 hl3 ⊢
    obtain ⟨es2, t3, gave⟩ := Z
    dsimp only at pm hf3 hr3 hl3 ⊢
    have hsz : es2.size = es1.size := by rw [← Array.length_toList, pm.length_eq, Array.length_toList]
    have hb2 : es2.size < scanBound := by rw [hsz]; exact hb1
    refine wpAny_bind (hg _ _ _ ?_)
    refine wpAny_bind (wpAny_storeSet_of ho1 rfl ?_ (fits_of_scanBound hb2))
    have ho2 := store_at (es' := es2) (t' := t3) ho1 rfl
    refine wpAny_pure (hR _ (sb1.trans (Heap.SameBut.update _ a _)) ?_)
    exact ⟨_, es2, _, t3, ho2, hex, rfl, fun e he => g1 e (pm.mem_iff.mp he), (pm.map fun e => txOf e.2).trans m1, hb2, hf3, hr3,
      hl.imp id fun z => by rw [hl3]; exact z⟩
  · exact wpAny_pure (hR _ sb1 ⟨_, es1, _, t2, ho1, hex, rfl, g1, m1, hb1, hf2, hr, hl⟩)
theorem setX_add {k : Str} {tk : Tok} {Q : Bool → Shared → Prop} (R : SetX w s.heap a l) (hk : k ∉ l) (room : l.length + 1 < scanBound)
    (hQ : ∀ h', Heap.SameBut a s.heap h' → SetX w h' a (k :: l) → Q true { s with heap := h' }) :
    wpAny (model P w) A (setAddHashed a (.str k tk) ((PySem.strKind P w).hash k)) Q E s := by
  obtain ⟨o, es, ep, t, ho, hex, hd, g, hm, hb, hf, hr, hl⟩ := R
  have hkey : (PySem.strKind P w).is k (.str k tk) = true := is_tx k tk
  have hsc : (Value.str k tk).scannable = true := rfl
  have hel : ElemsOf (PySem.strKind P w) es.toList := goodX_elems g
  have hnone : List.findIdx? (fun e => (PySem.strKind P w).is k e.2) es.toList = none := by
    cases hr : List.findIdx? (fun e => (PySem.strKind P w).is k e.2) es.toList with
    | none => rfl
    | some j =>
      obtain ⟨hj, hpj, _⟩ := List.findIdx?_eq_some_iff_getElem.mp hr
      have hin := List.getElem_mem hj
      have := goodX_is (g _ hin) hpj
      exact absurd (hm.mem_iff.mp (List.mem_map.mpr ⟨_, hin, this⟩)) hk
  unfold setAddHashed setAddHashedIn
  refine wpAny_holding (wpAny_bind (wpAny_setState_of ho hd hf ?_))
  dsimp only
  rw [byScan_of hsc hb hel]
  simp only [↓reduceIte]
  unfold setAddByScan
  refine wpAny_bind ?_
  refine wpAny_bind (wpAny_rule ?_)
  refine wpAny_bind (wpAny_setScan_of hkey ho hd hf hel ?_)
  rw [hnone]
  dsimp only
  have hgw : ∀ (b : Bool) {s₁ : Shared} {Q' : Unit → Shared → Prop}, Q' () s₁ → wpAny (model P w) A (match b with | true => rule "set.scan.the-table-gave-way" | false => pure ()) Q' E s₁ :=
    fun b s₁ Q' q => by cases b <;> first | exact wpAny_pure q | exact wpAny_rule q
  have pm := layNew_perm t es ((PySem.strKind P w).hash k) (.str k tk)
  have hf1 := layNew_fits t es ((PySem.strKind P w).hash k) (.str k tk)
  have hr1 := layNew_ris t es ((PySem.strKind P w).hash k) (.str k tk) hr
  have hl1 := layNew_led t es ((PySem.strKind P w).hash k) (.str k tk)
  generalize layNew t es ((PySem.strKind P w).hash k) (.str k tk) = Z at pm hf1 hr1 hl1 ⊢
  obtain ⟨es1, t1, wasDummy, gave⟩ := Z
  dsimp only at pm hf1 hr1 hl1 ⊢
  rw [Array.toList_push] at pm
  have pc : es1.toList.Perm (((PySem.strKind P w).hash k, Value.str k tk) :: es.toList) := pm.trans (List.perm_append_singleton _ _)
  have g1 : ∀ e ∈ es1.toList, GoodX w e := fun e he => by
    rcases List.mem_cons.mp (pc.mem_iff.mp he) with z | z
    · rw [z]; exact ⟨k, tk, rfl, rfl⟩
    · exact g e z
  have m1 : (es1.toList.map fun e => txOf e.2).Perm (k :: l) := (pc.map fun (e : Int × Value) => txOf e.2).trans (show ((k :: es.toList.map fun (e : Int × Value) => txOf e.2).Perm (k :: l)) from hm.cons k)
  have hsz : es1.size = l.length + 1 := by
    have := m1.length_eq
    rw [List.length_map, Array.length_toList, List.length_cons] at this
    exact this
  have hb1 : es1.size < scanBound := by rw [hsz]; exact room
  have hled : w.params.followText "set-order" = true ∨ t1.led = true := hl.imp id fun z => by rw [hl1]; exact z
  refine wpAny_bind (hgw _ ?_)
  split
  · refine wpAny_bind ?_
    rw [hashByValue_scannable 8 hsc]
    refine wpAny_pure ?_
    refine setX_tail ?_ ho hex hd g1 m1 hb1 ?_ ?_ ?_ ?_
    · intro b s₁ Q' q; cases b <;> first | exact wpAny_pure q | exact wpAny_rule q
    · first | (split <;> first | exact hf1 | exact SetTable.fits_plain_off hf1) | exact hf1
    · first | (split <;> exact hr1) | exact hr1
    · first | (split <;> exact hled) | exact hled
    · intro h' sb r; dsimp only; exact wpAny_pure (hQ h' sb r)
  · refine wpAny_bind (wpAny_pure ?_)
    simp only [↓reduceIte]
    refine setX_tail ?_ ho hex hd g1 m1 hb1 hf1 hr1 hled ?_
    · intro b s₁ Q' q; cases b <;> first | exact wpAny_pure q | exact wpAny_rule q
    · intro h' sb r; dsimp only; exact wpAny_pure (hQ h' sb r)
theorem setX_new {h : Heap} (ho : h.get? a = some { cls := .type "set", dict := none, data := .set #[] 0 (.fresh 0 0 (!w.params.followText "set-order")) }) : SetX w h a [] :=
  ⟨_, #[], 0, _, ho, ⟨rfl, rfl, rfl⟩, rfl, (fun e he => by simp at he), (by simp), (by decide), (by rfl), List.Pairwise.nil, by
    show _ ∨ (!w.params.followText "set-order") = true
    cases w.params.followText "set-order"
    · exact .inr rfl
    · exact .inl rfl⟩
theorem set_update_x {it : Addr} {foot wrote : List Addr} {Gn : Array GenState → Array GenState → Prop} {m : Nat} {Pw : Nat → Value → Prop} {Sw : Nat → Shared → Prop} {Z : Result → Shared → Prop}
    (Wk : WalksS P w A.in1 it foot wrote Gn m Pw Sw) (at_ : Addr) (out_ : at_ ∉ foot) (ns : List Str) (nd : ns.Nodup) (em : m = ns.length) (room : ns.length + 1 < scanBound) (isTx : ∀ i v, Pw i v → ∃ z t, ns[i]? = some z ∧ v = .str z t) :
    ∀ (left i : Nat) (u : Shared), m - i = left → i ≤ m → Sw i u → SetX w u.heap at_ (ns.take i) →
      (∀ u', Moved (at_ :: wrote) Gn u u' → SetX w u'.heap at_ ns → Z (.ok (.ret .none)) u') →
      codeAny (model P w) A (.builtin "set.update.loop" ⟨[.ref at_, .ref it], []⟩) Z u := by
  have outW : at_ ∉ wrote := fun hx => out_ (Wk.sub _ hx)
  have wsub : ∀ b ∈ wrote, b ∈ at_ :: wrote := fun b hx => List.mem_cons_of_mem _ hx
  intro left
  induction left with
  | zero =>
    rintro i u el hi hst hS fin
    obtain rfl : i = m := by omega
    refine codeAny_builtin F.entry_set_update_loop ?_
    rw [Around.under_plainId F.plain_set_update_loop _]
    refine wpAny_bind (Wk.done u _ _ hst fun u' mv => ?_)
    have et : ns.take i = ns := List.take_of_length_le (by omega)
    rw [et] at hS
    exact wpAny_pure (fin u' (mv.mono wsub) (hS.at fun o e => mv.heap at_ o outW e))
  | succ left again =>
    rintro i u el hi hst hS fin
    have more : i < m := by omega
    refine codeAny_builtin F.entry_set_update_loop ?_
    rw [Around.under_plainId F.plain_set_update_loop _]
    refine wpAny_bind (Wk.item i u _ _ more hst fun v u' hP hst' mv => ?_)
    obtain ⟨z, t, hz, rfl⟩ := isTx i v hP
    have hS1 : SetX w u'.heap at_ (ns.take i) := hS.at fun o e => mv.heap at_ o outW e
    have et : ns.take (i + 1) = ns.take i ++ [z] := by rw [List.take_add_one, hz]; rfl
    have hno : z ∉ ns.take i := fun hin => by
      have n2 : (ns.take (i + 1)).Nodup := nd.sublist (List.take_sublist _ _)
      rw [et] at n2
      exact (List.nodup_append.mp n2).2.2 z hin z List.mem_cons_self rfl
    refine wpAny_bind (wpAny_holding ?_)
    unfold setAdd
    refine wpAny_holding (wpAny_bind ((PySem.strKind P w).pyHash (k := z) (is_tx _ _) ?_))
    refine setX_add (s := { u' with toks := u'.toks + 1 }) hS1 hno (by rw [List.length_take]; omega) fun hp but hS2 => ?_
    have hS3 : SetX w hp at_ (ns.take (i + 1)) := hS2.perm (by rw [et]; exact (List.perm_append_singleton _ _).symm)
    refine wpAny_pure ⟨plainId_quiet F.plain_set_update_loop _, again (i + 1) _ (by omega) more (Wk.frame _ u' _ _ hst' (Nat.le_succ _) fun b hx o e => ?_) hS3 fun u2 mv2 hS4 => ?_⟩
    · rw [but.2 b (fun e2 => out_ (e2 ▸ hx))]
      exact e
    · refine fin u2 (Moved.trans Wk.gtrans ((mv.mono wsub).then_heap (Nat.le_succ _) fun b o hx e => ?_) mv2) hS4
      rw [but.2 b (fun e2 => hx (e2 ▸ List.mem_cons_self))]
      exact e
/-- set(l), l a list of different texts -/
theorem call_set_lstX {l : Addr} {xs : Array Value} (ns : List Str) {Q : Value → Shared → Prop} (hh : A.handled = none) (hl : s.heap.IsList l xs) (hit : StrsAre xs.toList ns) (nd : ns.Nodup) (hb : ns.length + 1 < scanBound)
    (h : ∀ (h2 : Heap) (k : Nat), SetX w h2 s.heap.objs.size ns → (∀ b o, s.heap.get? b = some o → h2.get? b = some o) → Q (.ref s.heap.objs.size) { s with heap := h2, toks := k }) :
    wpAny (model P w) A (call (.type "set") [.ref l]) Q E s := by
  have hzz : xs.size = ns.length := by rw [← Array.length_toList]; exact StrsAre.length hit
  obtain ⟨c, tl, m1⟩ := F.called_set.mro
  have m2 := F.called_set.made
  have m3 := F.called_set.sub
  have m4 := F.called_set.notType
  have m5 := F.called_set.canCreate
  have m6 := F.typeCall_set_1 (.ref l)
  refine wpAny_call (codeAny_of_tree (?_ : wpAny _ _ (callAny (.type "set") _) _ _ _))
  refine wpAny_pure ⟨Code.quiet_builtin _ (by decide +kernel), codeAny_builtin F.entry_type_call (?_ : _)⟩
  rw [(Around.under_plain (weight_type_call_type "set" [.ref l] []) rfl : _)]
  repeat (any_goals (first | assumption | wp_step))
  refine codeAny_mono (code_set_led1 (.ref l) (E := E) (Q₁ := fun ob s1 => ob = .ref s.heap.objs.size ∧ s1 = { s with heap := s.heap.push ({ cls := Value.type "set", dict := none, data := Data.set #[] 0 (.fresh 0 0 (!w.params.followText "set-order")) } : Obj) }) ⟨rfl, rfl⟩) fun r s1 hr => ?_
  cases r with
  | error e => exact hr
  | ok fl =>
    cases fl with
    | ret ob =>
      obtain ⟨rfl, rfl⟩ := hr
      have g1 : (s.heap.push ({ cls := Value.type "set", dict := none, data := Data.set #[] 0 (.fresh 0 0 (!w.params.followText "set-order")) } : Obj)).get? s.heap.objs.size = some ({ cls := Value.type "set", dict := none, data := Data.set #[] 0 (.fresh 0 0 (!w.params.followText "set-order")) } : Obj) := Heap.get?_push_size _ rfl
      have g2 : Shared.TypeIs { s with heap := s.heap.push ({ cls := Value.type "set", dict := none, data := Data.set #[] 0 (.fresh 0 0 (!w.params.followText "set-order")) } : Obj) } (.ref s.heap.objs.size) "set" := ⟨_, g1, rfl⟩
      have m7 := F.called_set.init.lookup
      have m8 := F.called_set.init.bind (.ref s.heap.objs.size)
      repeat (any_goals (first | assumption | wp_step))
      refine codeAny_mono (codeAny_call_builtin (R := wants (fun r s2 => r = .none ∧ ∃ h2 k, s2 = { s with heap := h2, toks := k } ∧ SetX w h2 s.heap.objs.size ns ∧ ∀ b o, s.heap.get? b = some o → h2.get? b = some o) E)
        F.called_set.init.plain F.entry_set_init (check_set_init_1 g2 ?_)) fun r2 s2 hr2 => ?_
      · obtain ⟨⟨oc, od, odt, osl⟩, hol, hc1, nl, hd1⟩ := hl
        simp only at hc1 hd1
        subst hc1 hd1
        have lt : l < s.heap.objs.size := Heap.lt_size hol
        have g3 : (s.heap.push ({ cls := Value.type "set", dict := none, data := Data.set #[] 0 (.fresh 0 0 (!w.params.followText "set-order")) } : Obj)).get? l = some { cls := .type "list", dict := od, data := .seq xs nl, slots := osl } := Heap.get?_push_of_some _ hol
        have m9 := F.sub_list_set
        have m10 := F.sub_list_frozenset
        have m11 : (Value.type "list" == Value.type "dict") = false := by decide
        have g4 : (s.heap.push ({ cls := Value.type "set", dict := none, data := Data.set #[] 0 (.fresh 0 0 (!w.params.followText "set-order")) } : Obj)).IsList l xs := ⟨_, g3, rfl, nl, rfl⟩
        unfold Builtin.«set.__init__» noKeywords Builtin.Frozenset.updateFrom
        generalize hPy : pyIter = PY
        wp_walk
        subst hPy
        refine wpAny_pyIter_list g4 (wpAny_bind (wpAny_runValue ?_))
        have hd : A.in1.in1.in1.handled = none := by simp [hh]
        have n1 : l ≠ (s.heap.push ({ cls := Value.type "set", dict := none, data := Data.set #[] 0 (.fresh 0 0 (!w.params.followText "set-order")) } : Obj)).objs.size := by
          rw [Heap.size_push]
          exact Nat.ne_of_lt (Nat.lt_succ_of_lt lt)
        have n2 : s.heap.objs.size ∉ [(s.heap.push ({ cls := Value.type "set", dict := none, data := Data.set #[] 0 (.fresh 0 0 (!w.params.followText "set-order")) } : Obj)).objs.size, l] := by
          rw [Heap.size_push]
          intro z
          rcases List.mem_cons.mp z with z | z
          · exact Nat.ne_of_lt (Nat.lt_succ_self _) z
          · exact Nat.ne_of_gt lt (List.mem_singleton.mp z)
        have vals : ∀ (i : Nat) (v : Value), xs[i]? = some v → ∃ k t, ns[i]? = some k ∧ v = .str k t := fun i v hv => by
          obtain ⟨y, t, e1, e2⟩ := StrsAre.item hit i v (by rw [Array.getElem?_toList]; exact hv)
          exact ⟨y, t, e2, e1⟩
        refine set_update_x ((Walks.list hd _ l n1 xs).toS) s.heap.objs.size n2 ns nd hzz hb vals (xs.size - 0) 0 _ (by omega) (Nat.zero_le _) ⟨⟨_, Heap.get?_push_size _ rfl, rfl, rfl⟩, g4.push _⟩ ?hz0 ?hzR
        case hz0 => exact setX_new (Heap.get?_push_of_some _ g1)
        case hzR =>
          intro s3 hm hS3
          obtain ⟨h4, a4, b4, k4, o4⟩ := s3
          have e1 : a4 = s.gens := hm.gens
          have e2 : b4 = s.drawn := hm.drawn
          have e3 : o4 = s.os := hm.os
          subst e1 e2 e3
          change wpAny _ _ _ _ _ _
          apply wpAny_pure
          change wpAny _ _ (ret Value.none) _ _ _
          refine wpAny_pure ⟨rfl, h4, k4, rfl, hS3, fun b o e => ?_⟩
          have lb : b < s.heap.objs.size := Heap.lt_size e
          refine hm.heap b o (fun z => ?_) (Heap.get?_push_of_some _ (Heap.get?_push_of_some _ e))
          rcases List.mem_cons.mp z with z | z
          · exact Nat.ne_of_lt lb z
          · have z1 := List.mem_singleton.mp z
            rw [Heap.size_push] at z1
            exact Nat.ne_of_lt (Nat.lt_succ_of_lt lb) z1
      · cases r2 with
        | error e => exact hr2
        | ok fl2 =>
          cases fl2 with
          | ret r =>
            obtain ⟨rfl, h2, k, rfl, q1, q3⟩ := hr2
            repeat (any_goals (first | assumption | wp_step))
            exact h _ _ q1 q3
          | _ => exact hr2.elim
    | _ => exact hr.elim
theorem strs_of : ∀ (l : List Value), (∀ v ∈ l, ∃ k tk, v = Value.str k tk) → StrsAre l (l.map txOf)
  | [], _ => .nil
  | v :: l, h => by
    obtain ⟨k, tk, rfl⟩ := h v List.mem_cons_self
    exact .cons k tk (strs_of l fun u hu => h u (List.mem_cons_of_mem _ hu))
theorem list_sort_strs {a : Addr} {vs : List Value} {ss : List Str} {n : Nat} {Z : Fin → Shared → Prop} (ho : s.heap.get? a = some (seqObj "list" vs.toArray n)) (hS : StrsAre vs ss) (h64 : vs.length < 64)
    (h : ∀ (out : Array Value) (ss' : List Str), StrsAre out.toList ss' → ss'.Perm ss → sortedS ss' = true → Z (.done (.ret .none)) { s with heap := sortedHeap s.heap a vs out }) :
    wpAny (model P w) A (Builtin.«list.sort» ⟨[.ref a], []⟩) Z E s :=
  list_sort_treeK strKind_oneLt ho hS.keysOf (fun v₁ v₂ rest e => keyKind_strs (by rw [← e]; exact hS)) h64 fun st' hp hs => by
    obtain ⟨ss', h1, h2, h3⟩ := sorted_out_str hS hp hs
    exact h _ ss' h1 h2 h3
theorem sorted_setX {Q : Value → Shared → Prop} (R : SetX w s.heap a l) (hh : A.handled = none) (h64 : l.length < 64)
    (hQ : ∀ s' p (out : Array Value) (c : Nat) (ns : List Str), (∀ b o, s.heap.get? b = some o → s'.heap.get? b = some o) → s'.gens = s.gens → s'.os = s.os → s.heap.objs.size ≤ p →
      s'.heap.get? p = some (seqObj "list" out c) → StrsAre out.toList ns → sortedS ns = true → ns.Perm l → Q (.ref p) s') :
    wpAny (model P w) A (call (.builtin "sorted") [.ref a]) Q E s := by
  obtain ⟨o, es, ep, t, ho, hex, hd, g, hm, hb, hf, hr, hl⟩ := R
  refine Calls.call_function_entry kind_sorted plain_sorted entry_sorted (args_sorted1 _) ?_
  unfold Builtin.«sorted»
  refine wpAny_bind (m := checkCount "sorted" 1 1 _) (wpAny_pure ?_)
  refine wpAny_bind (collect_set (A := A.in1) hh ⟨o, ho, hex.1, hd⟩ hf hb hr hl fun s1 vs k1 hz g1 o1 pm => ?_)
  have pk : (vs.map txOf).Perm l := by
    have q := pm.map txOf
    rw [List.map_map] at q
    exact q.trans hm
  have hvl : vs.length = l.length := by
    have := pk.length_eq
    rw [List.length_map] at this
    exact this
  have hI : StrsAre vs (vs.map txOf) := strs_of vs fun v hv => by
    obtain ⟨e, he, q⟩ := List.mem_map.mp (pm.mem_iff.mp hv)
    obtain ⟨k, tk, h1, _⟩ := g e he
    exact ⟨k, tk, by rw [← q]; exact h1⟩
  refine wpAny_bind (wpAny_newList ?_ (by rw [hvl, sizeLine_eq]; omega))
  have hoL : (s1.heap.push (seqObj "list" vs.toArray 0)).get? s1.heap.objs.size = some (seqObj "list" vs.toArray 0) := Heap.get?_push_size _ rfl
  refine wpAny_bind (wpAny_holding (wpAny_call_entry slot_list_sort ⟨_, hoL, rfl⟩ entry_list_sort (list_sort_strs hoL hI (by rw [hvl]; exact h64) fun out ns' a1 a2 a3 => ⟨_, rfl, ?_⟩) (args_list_sort _)))
  obtain ⟨c, hc⟩ := sortedHeap_at (vs := vs) (out := out) hoL
  refine wpAny_pure ⟨_, rfl, hQ _ s1.heap.objs.size out c ns' (fun b u e => ?_) g1 o1 hz hc a1 a3 (a2.trans pk)⟩
  have q := k1 b u e
  have hlt := Heap.lt_size q
  show (sortedHeap (s1.heap.push (seqObj "list" vs.toArray 0)) s1.heap.objs.size vs out).get? b = some u
  rw [sortedHeap_old (Nat.ne_of_lt hlt) (by rw [size_push']; exact Nat.lt_succ_of_lt hlt)]
  exact Heap.get?_push_of_some _ q
end
/-- sorted(set(l)), l a list of fewer than 64 rows, all different -/
def tSortedSetT (K : PySem.W.Frag) (te : TE) : TE := fun σ H Q => te σ H fun x H1 => ∃ (l : Addr) (rs : List (List Bool)), x = .ref l ∧ SqL K H1 l (rs.map fun r => V.str (T r)) ∧ rs.Nodup ∧ rs.length < 64 ∧
  ∀ (us : List (List Bool)) (p : Addr), us.Perm rs → sortedS (us.map T) = true → H1 p = none → Q (.ref p) (upd H1 p (.lst (us.map fun r => V.str (T r))))
theorem pe_sortedSetT {X : Cx} {a : Expr} {te : TE} {p p2 q pos : Pos} (hc : X.calm = true) (hg : Gl X "sorted") (hm : X.mg "sorted" = none) (hg2 : Gl X "set") (hm2 : X.mg "set" = none) (ha : PE X a te)
    (na : starEach [a] X.env = (false, eval a X.env) :: starEach [] X.env := by rfl) : PE X (.Call (.Name "sorted" p) [.Call (.Name "set" p2) [a] [] q] [] pos) (tSortedSetT X.K te) := by
  refine ⟨fun pins s σ H Q I h => ?_⟩
  refine Call_ (ld_blt I hg hm boot_sorted (callWith_builtin1 (args_cons ?_ rfl) rfl rfl))
  refine Call_ (ld_blt I hg2 hm2 boot_set (callWith_type1 (args_cons (L2.thn (ha.run pins s σ H _ I h) fun v s1 ⟨x, H1, I1, r1, q1⟩ => args_nil ?_) na) na rfl))
  obtain ⟨l, rs, rfl, hq, nd, hl, q1⟩ := q1
  cases r1
  have hq' : SqL X.K H1 l ((rs.map T).map V.str) := by rw [List.map_map]; exact hq
  obtain ⟨its, r, pl, hz⟩ := I1.list hq'
  have hd := I1.ok.hd hc
  have nd' : (rs.map T).Nodup := List.pairwise_map.mpr (nd.imp fun h e => h (T_inj e))
  refine call_set_lstX (rs.map T) hd pl.isList r.strs nd' (by rw [List.length_map]; unfold scanBound; omega) fun h2 tk R1 k => args_nil ?_
  refine sorted_setX (s := { s1 with heap := h2, toks := tk }) R1 hd (by rw [List.length_map]; omega) fun s2 p out c2 ms k2 g o hp hg3 hi hs hm3 => ?_
  obtain ⟨us, rfl, hus⟩ := rows_of_perm hm3
  have kall : ∀ b u, s1.heap.get? b = some u → s2.heap.get? b = some u := fun b u e => k2 b u (k b u e)
  have hlt : s1.heap.objs.size ≤ p := by
    refine Nat.le_trans ?_ hp
    obtain ⟨o9, es, ep, t, ho, _⟩ := R1
    exact Nat.le_of_lt (Heap.lt_size ho)
  have hn : H1 p = none := I1.hok.fresh hlt
  have hlen : ((us.map T).map V.str).length ≤ sizeLine := by rw [List.length_map, List.length_map, hus.length_eq, sizeLine_eq]; omega
  have J : Inv X pins σ (upd H1 p (.lst ((us.map T).map V.str))) { s1 with heap := s2.heap, gens := s2.gens, drawn := s2.drawn, toks := s2.toks } :=
    I1.call (ch := []) (Un.laid kall hlt hn) (I1.hok.laid kall hlt ⟨hlen, out.toList, c2, vals_of_strs hi, hg3⟩) (by rw [g]; exact I1.bare) (fun _ z => nomatch z)
  have e : s2 = { s1 with heap := s2.heap, gens := s2.gens, drawn := s2.drawn, toks := s2.toks } := by
    cases s2
    cases s1
    cases o
    rfl
  rw [e]
  refine ⟨.ref p, _, J, rfl, ?_⟩
  rw [List.map_map]
  exact q1 us p hus hs hn
open Evl in
theorem we_sortedSetT {K : PySem.W.Frag} {H0 : Hp} {σ : L2.St} {s : Ld} {te : TE} {Q : V → Ld → Prop} (h : WE H0 te σ s fun x s1 => ∃ (l : Addr) (rs : List (List Bool)), x = .ref l ∧ IsL K H0 s1 l (rs.map fun r => V.str (T r)) ∧ rs.Nodup ∧ rs.length < 64 ∧
    ∀ (us : List (List Bool)) (p : Addr), us.Perm rs → sortedS (us.map T) = true → H0 p = none → Q (.ref p) ⟨(p, .lst (us.map fun r => V.str (T r))) :: s1.L, s1.T⟩) : WE H0 (tSortedSetT K te) σ s Q := fun H o R k =>
  h H o _ fun x H1 s1 o1 ⟨l, rs, e, h1, h2, h3, q⟩ => ⟨l, rs, e, h1 H1 o1, h2, h3, fun us p hs hm hn => k _ _ _ (o1.new hn) (q us p hs hm (fresh_back o1.ex hn))⟩
end BM
namespace BM
open PySem L2 Evl
def N_law06 : List Str := ["_law_script", "_law_cells", "_law_whole", "_law_by", "_law_row_here", "_law_every_here", "_law_far_here", "_law_best", "_law_many", "_law_numbers", "_law_found", "_law_at", "_law_number_here", "_law_one"]
def rd_law06 (K : PySem.W.Frag) (C_ : CA) : TS :=
    (tSeq (tAsg (tIf (tTest (tOp (rNeD K) (tVar 0) (tLst tNil))) (tSl (rSlL K) (tVar 0) tNoPart (tPart (tC (.int 63)))) (tLst (tCons (tC (.int 5)) tNil))) (gName 1))
    (tSeq (tAsg (tCB aAbs (tCons (tCB (rSum K) (tCons (tVar 1) tNil)) tNil)) (gName 2))
    (tSeq (tFor (iList K (tLst (tCons (tC (.int 0)) (tCons (tC (.int 1)) tNil)))) (gName 3) (tSeq (tAsg (tCall (sp__law_row K C_) [] E0 (tCons (tVar 0) (tCons (tVar 3) (tCons (tC (.int 10)) (tCons (tC (.bl false)) tNil))))) (gName 4))
    (tSeq (tAsg (tCall (sp__law_every K C_) [] E0 (tCons (tVar 4) tNil)) (gName 5))
    (tSeq (tIfS (tOr (tTest (tOp rNe (tCall (sp_how_many K C_) [] E0 (tCons (tVar 4) tNil)) (tCB (aLenL K) (tCons (tVar 5) tNil)))) (tNot (tB (tCall (sp__law_refused06 K C_) [] E0 (tCons (tVar 4) (tCons (tCB (aLenL K) (tCons (tVar 5) tNil)) tNil)))))) (tRet (tC (.bl false))) tNext)
    (tSeq (tIfS (tTest (tOp (rNeD K) (tLc (iRng1 (tCons (tCB (aLenL K) (tCons (tVar 5) tNil)) tNil)) (gName 11) tYes (tCall (sp_by_number K C_) [] E0 (tCons (tVar 4) (tCons (tVar 11) tNil))) [11]) (tVar 5))) (tRet (tC (.bl false))) tNext)
    (tSeq (tAsg (tCall (sp__law_row K C_) [] E0 (tCons (tVar 0) (tCons (tOp aAdd (tVar 3) (tC (.int 4))) (tCons (tIf (tTest (tOp rEq (tOp aMod (tOp aDiv (tVar 2) (tC (.int 16))) (tC (.int 8))) (tVar 3))) (tC (.int 40)) (tC (.int 20))) (tCons (tC (.bl false)) tNil))))) (gName 4))
    (tSeq (tAsg (tCall (sp__law_count K C_) [] E0 (tCons (tVar 4) tNil)) (gTup K 2 (gCons (gName 7) (gCons (gName 8) gNil))))
    (tSeq (tIfS (tOr (tTest (tOp rNe (tCall (sp_how_many K C_) [] E0 (tCons (tVar 4) tNil)) (tVar 8))) (tB (tCB (aIsi K "bool") (tCons (tCall (sp_how_many K C_) [] E0 (tCons (tVar 4) tNil)) (tCons (tC (.ty "bool")) tNil))))) (tRet (tC (.bl false))) tNext)
    (tIfS (tTest (tOp aGt (tVar 8) (tC (.int 0)))) (tSeq (tIfS (tTest (tOp rNe (tCB (aLenL K) (tCons (tFld K (tCall (sp_turns K C_) [] E0 (tCons (tVar 4) tNil)) "places") tNil)) (tVar 7))) (tRet (tC (.bl false))) tNext)
    (tSeq (tAsg (tSortedSet K (tLst (tCons (tC (.int 0)) (tCons (tOp aSub (tVar 8) (tC (.int 1))) (tCons (tOp aDiv (tVar 8) (tC (.int 2))) (tCons (tOp aMod (tCB aAbs (tCons (tCall (sp__law_number K C_) [] E0 (tCons (tOp (rIxL K) (tVar 1) (tC (.int 0))) (tCons (tC (.int 3)) (tCons (tVar 2) tNil)))) tNil)) (tVar 8)) tNil)))))) (gName 9))
    (tSeq (tAsg (tLc (iList K (tVar 9)) (gName 12) tYes (tCall (sp_by_number K C_) [] E0 (tCons (tVar 4) (tCons (tVar 12) tNil))) [12]) (gName 10))
    (tSeq (tIfS (tTest (tOp (rNeD K) (tSortedSetT K (tVar 10)) (tVar 10))) (tRet (tC (.bl false))) tNext)
    (tIfS (tNot (tB (tCB (aAll K) (tCons (tLc (iList K (tVar 10)) (gName 13) tYes (tAndV (tCall (sp__law_good K C_) [] E0 (tCons (tVar 13) tNil)) (tOp rEq (tCall (sp__law_far K C_) [] E0 (tCons (tVar 4) (tCons (tVar 13) tNil))) (tVar 7))) [13]) tNil)))) (tRet (tC (.bl false))) tNext))))) tNext)))))))))
    (tSeq (tIfS (tTest (tOp rEq (tOp aMod (tVar 2) (tC (.int 16))) (tC (.int 0)))) (tSeq (tAsg (tCall (sp_how_many K C_) [] E0 (tCons (tOp aRepT (tC (.str (T [false]))) (tC (.int 40))) tNil)) (gName 6))
    (tIfS (tOr (tTest (tOp rNe (tVar 6) (tOp (rIxT K) (tCall (sp__law_count K C_) [] E0 (tCons (tOp aRepT (tC (.str (T [false]))) (tC (.int 40))) tNil)) (tC (.int 1))))) (tNot (tB (tCall (sp__law_good K C_) [] E0 (tCons (tCall (sp_by_number K C_) [] E0 (tCons (tOp aRepT (tC (.str (T [false]))) (tC (.int 40))) (tCons (tOp aSub (tVar 6) (tC (.int 1))) tNil))) tNil))))) (tRet (tC (.bl false))) tNext)) tNext)
    (tSeq (tIfS (tOr (tTest (tOp rNe (tCall (sp_how_many K C_) [] E0 (tCons (tC (.str (T [true, true, true, true]))) tNil)) (tC (.int 2)))) (tOr (tTest (tOp rNe (tCall (sp_by_number K C_) [] E0 (tCons (tC (.str (T [true, true, true, true]))) (tCons (tC (.int 0)) tNil))) (tC (.str (T [true, true, false, false]))))) (tOr (tTest (tOp rNe (tCall (sp_how_many K C_) [] E0 (tCons (tC (.str (T [true]))) tNil)) (tC (.int 0)))) (tTest (tOp rNe (tCall (sp_how_many K C_) [] E0 (tCons (tC (.str (T []))) tNil)) (tC (.int 1))))))) (tRet (tC (.bl false))) tNext)
    (tRet (tAndV (tOp rEq (tCall (sp_by_number K C_) [] E0 (tCons (tC (.str (T [true, true, true, true]))) (tCons (tC (.int 1)) tNil))) (tC (.str (T [true, false, true, false])))) (tAndV (tOp rEq (tCall (sp_how_many K C_) [] E0 (tCons (tC (.str (T [false, false]))) tNil)) (tC (.int 1))) (tOp rEq (tCall (sp_by_number K C_) [] E0 (tCons (tC (.str (T [false, true]))) (tCons (tC (.int 0)) tNil))) (tC (.str (T [true, false]))))))))))))
end BM
namespace BM
open PySem L2 Evl
theorem hm_len (r : List Bool) : (en r 0 (mn r : Nat)).length = hm r := en_len _ _ _
theorem un_mem {r : List Bool} {k : Int} (h0 : 0 ≤ k) (h1 : k < hm r) : (en r 0 (mn r : Nat))[k.toNat]? = some (un r 0 (mn r : Nat) k) := by
  have := en_un r 0 (mn r : Nat) k.toNat (by unfold hm at h1; omega)
  rw [Int.toNat_of_nonneg h0] at this
  exact this
theorem un_facts {r : List Bool} {k : Int} (h0 : 0 ≤ k) (h1 : k < hm r) : (un r 0 (mn r : Nat) k).length = r.length ∧ isR (un r 0 (mn r : Nat) k) = true ∧ far (un r 0 (mn r : Nat) k) r = mn r := by
  have h := mem_en.mp (List.mem_of_getElem? (un_mem h0 h1))
  rw [okd_isR] at h
  exact ⟨h.1, h.2.1, by have := h.2.2; omega⟩
theorem un_all (r : List Bool) : (List.range (hm r)).map (fun (k : Nat) => un r 0 (mn r : Nat) (k : Int)) = en r 0 (mn r : Nat) := by
  apply List.ext_getElem?
  intro k
  rw [List.getElem?_map]
  by_cases h : k < hm r
  · rw [List.getElem?_range h, en_un r 0 (mn r : Nat) k h]
    rfl
  · rw [List.getElem?_eq_none (by rw [List.length_range]; omega), List.getElem?_eq_none (by rw [hm_len]; omega)]
    rfl
theorem un_lex {r : List Bool} {j k : Int} (h0 : 0 ≤ j) (hjk : j < k) (h1 : k < hm r) : lex (un r 0 (mn r : Nat) j) (un r 0 (mn r : Nat) k) = true := by
  have hp := List.pairwise_iff_getElem.mp (en_sorted r 0 (mn r : Nat))
  have a := un_mem h0 (Int.lt_trans hjk h1)
  have b := un_mem (Int.le_of_lt (Int.lt_of_le_of_lt h0 hjk)) h1
  obtain ⟨ha, ea⟩ := List.getElem?_eq_some_iff.mp a
  obtain ⟨hb, eb⟩ := List.getElem?_eq_some_iff.mp b
  have := hp j.toNat k.toNat ha hb (by omega)
  rw [ea, eb] at this
  exact this
def uns (r : List Bool) (ks : List Int) : List (List Bool) := ks.map fun k => un r 0 (mn r : Nat) k
theorem uns_lex {r : List Bool} : ∀ {ks : List Int}, ks.Pairwise (· < ·) → (∀ k ∈ ks, 0 ≤ k ∧ k < hm r) → (uns r ks).Pairwise fun a b => lex a b = true
  | [], _, _ => .nil
  | k :: ks, hp, hb => by
    obtain ⟨h1, h2⟩ := List.pairwise_cons.mp hp
    refine List.pairwise_cons.mpr ⟨fun x hx => ?_, uns_lex h2 fun j hj => hb j (List.mem_cons_of_mem _ hj)⟩
    obtain ⟨j, hj, rfl⟩ := List.mem_map.mp hx
    exact un_lex (hb k List.mem_cons_self).1 (h1 j hj) (hb j (List.mem_cons_of_mem _ hj)).2
theorem lex_nodup {l : List (List Bool)} (h : l.Pairwise fun a b => lex a b = true) : l.Nodup := h.imp fun {x y} h e => by
  rw [e, lex_irr] at h
  cases h
theorem uns_same {r : List Bool} {ks : List Int} {us : List (List Bool)} (hp : ks.Pairwise (· < ·)) (hb : ∀ k ∈ ks, 0 ≤ k ∧ k < hm r) (p : us.Perm (uns r ks)) (hs : PyProof.Rows.sortedS (us.map T) = true) : us = uns r ks := by
  have h1 := uns_lex hp hb
  refine lex_unique p (sorted_lex (n := r.length) hs (p.nodup_iff.mpr (lex_nodup h1)) fun y hy => ?_) h1
  obtain ⟨k, hk, rfl⟩ := List.mem_map.mp (p.mem_iff.mp hy)
  exact (un_facts (hb k hk).1 (hb k hk).2).1
theorem hm_pos {r x : List Bool} (hl : x.length = r.length) (hR : isR x = true) : 0 < hm r := by
  have : 0 < wy r 0 (far x r : Nat) := by
    rw [← en_len]
    exact List.length_pos_of_mem (mem_en.mpr ⟨hl, by rw [okd_isR]; exact hR, rfl⟩)
  exact (mn_spec this).some
theorem hm_40 : 0 < hm (List.replicate 40 false) := hm_pos (x := List.replicate 20 true ++ List.replicate 20 false) (by decide) (by decide +kernel)
theorem hm_even {r : List Bool} (h : 0 < hm r) : r.length % 2 = 0 := by
  rcases Nat.mod_two_eq_zero_or_one r.length with e | e
  · exact e
  · unfold hm at h
    rw [wy_odd e] at h
    omega
end BM
namespace BM
open PySem L2 Evl
local macro_rules | `(tactic| walk_at "mem") => `(tactic| first | exact List.mem_cons_self | (refine List.mem_cons_of_mem _ ?_; walk_at "mem"))
local macro_rules | `(tactic| walk_at "swap") => `(tactic| first | exact Swap.here | (apply Swap.there; walk_at "swap"))
local macro_rules | `(tactic| walk_at "subl") => `(tactic| first | exact List.Sublist.refl _ | exact List.nil_sublist _ | (refine List.Sublist.cons_cons _ ?_; walk_at "subl") | (refine List.Sublist.cons _ ?_; walk_at "subl"))
local macro_rules | `(tactic| walk_at "sub") => `(tactic| first | exact Sub.refl _ | (refine ⟨?_, ?_⟩ <;> walk_at "subl"))
local macro_rules | `(tactic| walk_at "isl") => `(tactic| first | exact isL_own (by walk_at "mem") | exact isL_old (by assumption) | assumption)
local macro_rules | `(tactic| walk_at "ist") => `(tactic| first | exact isT_own (by walk_at "mem") | exact isT_old (by assumption) | assumption)
local macro_rules | `(tactic| walk_at "len") => `(tactic| first | omega | decide | (simp only [List.length_map, List.length_take, List.length_drop, List.length_append, List.length_cons, List.length_nil, List.length_reverse, dps_len, flp_len]; omega) | (simp [dps_len, flp_len]; omega) | simp)
local macro_rules | `(tactic| walk_at "b0") => `(tactic| first
  | with_reducible refine' ws_set ?_
  | with_reducible refine' ws_par ?_
  | with_reducible refine' ws_asg ?_
  | with_reducible refine' ws_drop ?_
  | with_reducible refine' ws_ret ?_
  | with_reducible refine' ws_if ?_
  | with_reducible refine' ws_next ?_
  | with_reducible refine' ws_brk ?_
  | with_reducible refine' ws_cont ?_
  | ((with_reducible refine' we_var ?hv ?_); case hv => rfl)
  | with_reducible refine' we_c ?_
  | with_reducible refine' we_op ?_
  | with_reducible refine' we_un ?_
  | with_reducible refine' we_if ?_
  | with_reducible refine' we_and ?_
  | with_reducible refine' we_or ?_
  | with_reducible refine' we_not ?_
  | with_reducible refine' wa_nil ?_
  | with_reducible refine' wa_cons ?_
  | (with_reducible refine' we_lst ?_)
  | (with_reducible refine' we_tup ?_)
  | with_reducible refine' we_cb ?_
  | with_reducible refine' we_call0 ?_
  | with_reducible refine' we_sl ?_
  | with_reducible refine' wo_none ?_
  | (with_reducible refine' wo_some ?_)
  | with_reducible refine' wt_test ?_
  | with_reducible refine' wt_B ?_
  | with_reducible refine' wt_and ?_
  | with_reducible refine' wt_or ?_
  | with_reducible refine' wt_not ?_
  | with_reducible refine' wt_yes ?_
  | with_reducible refine' we_chain ?_
  | with_reducible refine' we_chain3 ?_
  | with_reducible refine' we_revT ?_
  | with_reducible refine' we_revL ?_
  | with_reducible refine' we_bm ?_
  | with_reducible refine' we_bm0 ?_
  | with_reducible refine' ws_for ?_
  | with_reducible refine' we_lc ?_
  | with_reducible refine' wi_list ?_
  | with_reducible refine' wi_tup ?_
  | with_reducible refine' wi_T ?_
  | with_reducible refine' wi_rng1 ?_
  | with_reducible refine' wi_rng2 ?_
  | with_reducible refine' wi_rng3 ?_
  | with_reducible refine' wi_enum ?_
  | with_reducible refine' wi_enumT ?_
  | with_reducible refine' wi_zip ?_
  | with_reducible refine' wg_name ?_
  | with_reducible refine' wg_sub ?_
  | with_reducible refine' wgs_nil ?_
  | with_reducible refine' wgs_cons ?_
  | ((with_reducible refine' wg_tup ?ht ?hn ?_); (case ht => walk_at "ist"); (case hn => rfl))
  | with_reducible refine' w2_add ?_
  | with_reducible refine' w2_sub ?_
  | with_reducible refine' w2_lt ?_
  | with_reducible refine' w2_le ?_
  | with_reducible refine' w2_gt ?_
  | with_reducible refine' w2_ge ?_
  | with_reducible refine' w2_eqI ?_
  | with_reducible refine' w2_neI ?_
  | with_reducible refine' w2_eqT ?_
  | with_reducible refine' w2_neT ?_
  | with_reducible refine' w2_eqB ?_
  | with_reducible refine' w2_neB ?_
  | with_reducible refine' w2_isN ?_
  | with_reducible refine' w2_notN ?_
  | with_reducible refine' w2_isB ?_
  | with_reducible refine' w2_inT ?_
  | with_reducible refine' w1_neg ?_
  | with_reducible refine' wl_abs ?_
  | with_reducible refine' wl_max2 ?_
  | with_reducible refine' wl_min2 ?_
  | with_reducible refine' wl_intB ?_
  | ((with_reducible refine' w2_div ?h ?_); case h => first | omega | (constructor <;> omega))
  | ((with_reducible refine' w2_mod ?h ?_); case h => omega)
  | ((with_reducible refine' w2_catT ?h ?_); case h => walk_at "len")
  | ((with_reducible refine' wsl_T ?h ?_); case h => walk_at "len")
  | ((with_reducible refine' wl_lenT ?h ?_); case h => walk_at "len")
  | ((with_reducible refine' wl_len ?h ?_); case h => walk_at "isl")
  | ((with_reducible refine' wl_len ?h ?_); case h => walk_at "isl")
  | ((with_reducible refine' wm_append ?sw ?hl ?_); (case sw => walk_at "swap"); (case hl => walk_at "len")))
local macro_rules | `(tactic| walk_at "b1") => `(tactic| first | with_reducible refine' ws_seq ?_ | walk_at "b0")
local macro_rules | `(tactic| walk_at "bx") => `(tactic| first
  | refine ⟨_, rfl, ?_⟩
  | refine ⟨_, _, rfl, ?_⟩
  | refine ⟨ty_L (by walk_at "isl"), ?_⟩
  | refine ⟨ty_S, ?_⟩
  | refine spl_t (by rfl) ?_
  | refine spl_f (by rfl) ?_
  | exact rfl)
local macro_rules | `(tactic| walk_at "bm") => `(tactic| repeat (first | walk_at "b1" | walk_at "bx"))
local macro_rules | `(tactic| walk_at "bn") => `(tactic| repeat (first | walk_at "b0" | walk_at "bx"))
local macro_rules | `(tactic| walk_at "b0") => `(tactic| with_reducible refine' c_deepens ?_)
local macro_rules | `(tactic| walk_at "b0") => `(tactic| ((with_reducible refine' c_depths_of ?hl ?_); (case hl => walk_at "len")))
local macro_rules | `(tactic| walk_at "b0") => `(tactic| with_reducible refine' c_is_wholeI ?_)
local macro_rules | `(tactic| walk_at "b0") => `(tactic| with_reducible refine' c_flipped ?_)
local macro_rules | `(tactic| walk_at "b0") => `(tactic| ((with_reducible refine' c_is_right_row ?hl ?_); (case hl => walk_at "len")))
local macro_rules | `(tactic| walk_at "b0") => `(tactic| ((with_reducible refine' c_asked_row ?hl ?_); (case hl => walk_at "len")))
local macro_rules | `(tactic| walk_at "b0") => `(tactic| ((with_reducible refine' c_depths ?hl ?_); (case hl => walk_at "len")))
local macro_rules | `(tactic| walk_at "b0") => `(tactic| ((with_reducible refine' c_is_right ?hl ?_); (case hl => walk_at "len")))
local macro_rules | `(tactic| walk_at "b0") => `(tactic| ((with_reducible refine' c__law_depths ?hl ?_); (case hl => walk_at "len")))
local macro_rules | `(tactic| walk_at "b0") => `(tactic| ((with_reducible refine' c__law_good ?hl ?_); (case hl => walk_at "len")))
local macro_rules | `(tactic| walk_at "b0") => `(tactic| ((with_reducible refine' wl_listOf ?hx ?_); (case hx => walk_at "isl")))
local macro_rules | `(tactic| walk_at "b0") => `(tactic| with_reducible refine' w2_notB ?_)
local macro_rules | `(tactic| walk_at "own") => `(tactic| exact own_l (by walk_at "mem"))
local macro_rules | `(tactic| walk_at "b0") => `(tactic| with_reducible refine' we_fld ?_)
local macro_rules | `(tactic| walk_at "b0") => `(tactic| refine ⟨_, _, _, _, _, rfl, own_l (by walk_at "mem"), Grw.cl (by assumption), Grw.nr (by assumption), by rfl, ?_⟩)
local macro_rules | `(tactic| walk_at "b0") => `(tactic| refine ⟨_, _, _, _, _, rfl, fun H' o => o.ex _ _ (by assumption), Grw.cl (by assumption), Grw.nr (by assumption), by rfl, ?_⟩)
local macro_rules | `(tactic| walk_at "b0") => `(tactic| with_reducible refine' we_meth ?_)
local macro_rules | `(tactic| walk_at "b0") => `(tactic| refine ⟨_, _, _, rfl, own_l (by walk_at "mem"), by rfl, ?_⟩)
local macro_rules | `(tactic| walk_at "b0") => `(tactic| refine ⟨_, _, _, rfl, fun H' o => o.ex _ _ (by assumption), by rfl, ?_⟩)
local macro_rules | `(tactic| walk_at "gown") => `(tactic| first | exact own_l (by walk_at "mem") | exact fun H' o => o.ex _ _ (by assumption))
local macro_rules | `(tactic| walk_at "b0") => `(tactic| with_reducible refine' wm_countT ?_)
local macro_rules | `(tactic| walk_at "b0") => `(tactic| with_reducible refine' we_methU ?_)
local macro_rules | `(tactic| walk_at "mem") => `(tactic| assumption)
theorem hm_small {r : List Bool} (h : r.length ≤ 10) : hm r ≤ 60 := by
  rw [← hm_len, (en_lw r (mn r : Nat)).length_eq]
  refine Nat.le_trans ?_ (lw_small r.length h).2
  rw [← List.filter_filter]
  rw [← List.countP_eq_length_filter, ← List.countP_eq_length_filter]
  rw [List.countP_filter]
  exact List.countP_mono_left fun x _ hx => (Bool.and_eq_true _ _ ▸ hx).1
theorem ln_law06 {K : PySem.W.Frag} {C : CA} {vs : List V} {H : Hp} {Q : VK} {E : XK} (h : sp_law06 K C vs H Q E) : vs.length = 1 := by
  obtain ⟨_, ⟨a, ns, _, rfl, _⟩, _⟩ := h
  rfl
theorem pu_law06 {K : PySem.W.Frag} {C : CA} {vs : List V} {H : Hp} {Q : VK} {E : XK} (h : sp_law06 K C vs H Q E) : rd_law06 K C { nx := fun _ H' => Q .non H', rt := Q } (start N_law06 vs) H := by
  obtain ⟨_, ⟨a, ns, hX, rfl, hs, hns, rfl⟩, k⟩ := h
  have hX3 := hX.e3
  refine body_V ?_ k
  unfold rd_law06
  refine ws_cut (fun σ s => ∃ (c : Addr) (z : Int) (cs : List Int), σ = [some (.ref a), some (.ref c), none, none, none, none, none, none, none, none, none, none, none, none] ∧ s = ⟨[(c, .lst ((z :: cs).map V.int))], []⟩) ?_ ?_
  · walk_at "bm"
    refine ⟨by simp, fun q0 hq0 => ?_⟩
    refine w2_neLI (ns := ns) (ms := []) (isL_old hs) (by walk_at "isl") ?_
    walk_at "bm"
    cases ns with
    | nil =>
      refine spl_f (by decide) ?_
      walk_at "bm"
      refine ⟨by simp, fun c hc => ?_⟩
      exact ⟨_, by show Sub _ ⟨(c, .lst ([5].map V.int)) :: _, _⟩; walk_at "sub", c, 5, [], rfl, rfl⟩
    | cons z zs =>
      refine spl_t (by simp) ?_
      walk_at "bm"
      refine wsl_L (isL_old hs) fun p hp => ?_
      rw [cut_hi (by omega), ← List.map_take]
      exact ⟨_, by walk_at "sub", p, z, zs.take 62, rfl, rfl⟩
  rintro σ s ⟨c, z, cs, rfl, rfl⟩
  refine ws_cut (fun σ s => ∃ (W : Int), σ = [some (.ref a), some (.ref c), some (.int W), none, none, none, none, none, none, none, none, none, none, none] ∧ s = ⟨[(c, .lst ((z :: cs).map V.int))], []⟩) ?_ ?_
  · walk_at "bm"
    refine wl_sum (by walk_at "isl") ?_
    walk_at "bm"
    exact ⟨_, Sub.refl _, _, rfl, rfl⟩
  rintro σ s ⟨W, rfl, rfl⟩
  refine ws_cut (fun σ s => ∃ x3 x4 x5 x7 x8 x9 x10 x11 x12 x13, σ = [some (.ref a), some (.ref c), some (.int W), x3, x4, x5, none, x7, x8, x9, x10, x11, x12, x13] ∧ s = ⟨[(c, .lst ((z :: cs).map V.int))], []⟩) ?_ ?_
  · walk_at "bm"
    refine ⟨by decide, fun q0 hq0 => ?_⟩
    refine ⟨_, rfl, ⟨_, by walk_at "isl"⟩, ?_⟩
    refine lp_list (xs := [0, 1].map V.int) (n := 2) (fun i σ s => ∃ x3 x4 x5 x7 x8 x9 x10 x11 x12 x13, σ = [some (.ref a), some (.ref c), some (.int W), x3, x4, x5, none, x7, x8, x9, x10, x11, x12, x13] ∧ s = ⟨[(q0, .lst ([0, 1].map V.int)), (c, .lst ((z :: cs).map V.int))], []⟩) rfl ⟨none, none, none, none, none, none, none, none, none, none, rfl, rfl⟩ (fun i σ s hi ⟨x3, x4, x5, x7, x8, x9, x10, x11, x12, x13, _, e⟩ => by rw [e]; walk_at "isl") ?_ (fun σ s ⟨x3, x4, x5, x7, x8, x9, x10, x11, x12, x13, e1, e2⟩ => ⟨⟨[(c, .lst ((z :: cs).map V.int))], []⟩, by rw [e2]; walk_at "sub", x3, x4, x5, x7, x8, x9, x10, x11, x12, x13, e1, rfl⟩)
    rintro i y σ s hi hy ⟨x3, x4, x5, x7, x8, x9, x10, x11, x12, x13, rfl, rfl⟩
    obtain ⟨by0, hby, rfl⟩ := getI hy
    have hb3 : 0 ≤ by0 ∧ by0 ≤ 1 := by
      have : by0 ∈ ([0, 1] : List Int) := List.mem_of_getElem? hby
      simp at this
      omega
    refine wg_name ?_
    refine ws_seq ?_
    walk_at "bn"
    refine c__law_row (isL_old hs) hns (by omega) fun r hr _ => ?_
    refine ws_cut (fun σ s => ∃ e, σ = [some (.ref a), some (.ref c), some (.int W), some (.int by0), some (.str (T r)), some (.ref e), none, x7, x8, x9, x10, x11, x12, x13] ∧ s = ⟨[(e, .lst (rwsV (en r 0 (mn r : Nat)))), (q0, .lst ([0, 1].map V.int)), (c, .lst ((z :: cs).map V.int))], []⟩) ?_ ?_
    · walk_at "bm"
      refine wc_L (fun H o => ⟨r, rfl, by omega, rfl⟩) fun e he => ?_
      exact ⟨_, Sub.refl _, e, rfl, rfl⟩
    rintro σ s ⟨e, rfl, rfl⟩
    have hsm := hm_small (r := r) (by omega)
    have hel : (rwsV (en r 0 (mn r : Nat))).length = hm r := by rw [List.length_map, hm_len]
    refine ws_seq ?_
    walk_at "bn"
    refine c_how_many hX3 (by omega) ?_
    walk_at "bn"
    rw [hel]
    refine spl_f (by simp) ?_
    walk_at "bn"
    rw [hel]
    refine c__law_refused06 hX (by omega) (by omega) ?_
    walk_at "bn"
    refine ws_seq ?_
    walk_at "bn"
    rw [hel]
    refine ⟨by omega, ?_⟩
    rw [Int.toNat_natCast]
    refine cp_rng (fun i => rwsV ((List.range i).map fun (k : Nat) => un r 0 (mn r : Nat) (k : Int))) (by omega) rfl (fun i hi => by rw [List.length_map, List.length_map, List.length_range]; omega) ?_ ?_
    · intro D i hi
      rw [show ((0 : Int) + (i : Int)) = (i : Int) by omega]
      walk_at "bm"
      refine ⟨rfl, ?_⟩
      walk_at "bm"
      refine c_by_number hX3 (by omega) (by omega) (by omega) ?_
      refine ⟨Sub.refl _, ?_⟩
      rw [List.range_succ, List.map_append, rwsV_app]
      rfl
    intro D hD
    rw [un_all]
    walk_at "bn"
    refine w2_neLR (ns := en r 0 (mn r : Nat)) (ms := en r 0 (mn r : Nat)) (by walk_at "isl") (by walk_at "isl") ?_
    walk_at "bn"
    refine spl_f (by simp) ?_
    walk_at "bn"
    clear hsm hel
    refine ws_cut (fun σ s => ∃ (r2 : List Bool) (x11 : Option V), σ = [some (.ref a), some (.ref c), some (.int W), some (.int by0), some (.str (T r2)), some (.ref e), none, x7, x8, x9, x10, x11, x12, x13] ∧ s = ⟨[(q0, .lst ([0, 1].map V.int)), (c, .lst ((z :: cs).map V.int))], []⟩ ∧ r2.length ≤ 40) ?_ ?_
    · walk_at "bm"
      have fin : ∀ (m2 : Int), 0 ≤ m2 ∧ m2 ≤ 40 → ∀ r2 : List Bool, (r2.length : Int) ≤ m2 → r2.length ≤ 40 := fun m2 h r2 h2 => by omega
      refine ⟨fun _ => ?_, fun _ => ?_⟩
      · walk_at "bm"
        refine c__law_row (isL_old hs) hns (by omega) fun r2 hr2 _ => ?_
        exact ⟨_, by walk_at "sub", r2, x11, rfl, rfl, fin _ (by omega) r2 hr2⟩
      · walk_at "bm"
        refine c__law_row (isL_old hs) hns (by omega) fun r2 hr2 _ => ?_
        exact ⟨_, by walk_at "sub", r2, x11, rfl, rfl, fin _ (by omega) r2 hr2⟩
    clear hr
    rintro σ s ⟨r2, y11, rfl, rfl, hr⟩
    refine ws_cut (fun σ s => σ = [some (.ref a), some (.ref c), some (.int W), some (.int by0), some (.str (T r2)), some (.ref e), none, some (.int (if 0 < hm r2 then (mn r2 : Int) else 0)), some (.int (hm r2 : Nat)), x9, x10, y11, x12, x13] ∧ s = ⟨[(q0, .lst ([0, 1].map V.int)), (c, .lst ((z :: cs).map V.int))], []⟩) ?_ ?_
    · walk_at "bm"
      refine c__law_count hr fun p => ?_
      walk_at "bm"
      exact ⟨_, by walk_at "sub", rfl, rfl⟩
    rintro σ s ⟨rfl, rfl⟩
    refine ws_seq ?_
    walk_at "bn"
    refine c_how_many hX3 (by omega) ?_
    walk_at "bn"
    refine spl_f (by simp) ?_
    walk_at "bn"
    refine c_how_many hX3 (by omega) ?_
    walk_at "bn"
    refine wl_isi (tv := .type "int") (b := false) (fun H' o => .base (.int _)) (kit_ty (by decide +kernel)) ?_
    walk_at "bm"
    refine ⟨fun h => ?_, fun h => ?_⟩
    · have hpos : 0 < hm r2 := by have := of_decide_eq_true h; omega
      rw [if_pos hpos]
      refine ws_seq ?_
      walk_at "bn"
      refine c_turns_ev hX3 hr (hm_even hpos) fun x d b ct ps g1 g2 g3 g4 g5 g6 => ?_
      have eps : ps.length = mn r2 := mn_is (fewest_of g1 g2 g3 g4 g5 (tn_few g2 g6))
      clear g1 g2 g3 g4 g5 g6
      have enat : (natsV ps).length = mn r2 := by unfold natsV; rw [List.length_map, List.length_map, eps]
      walk_at "bn"
      refine ⟨_, _, _, _, _, rfl, own_l (by walk_at "mem"), hX3.t.c.cl, hX3.t.np, rfl, ?_⟩
      walk_at "bn"
      rw [enat]
      refine spl_f (by simp) ?_
      walk_at "bn"
      clear eps enat
      refine ws_cut (fun σ s => ∃ (n : Addr) (ks : List Int), σ = [some (.ref a), some (.ref c), some (.int W), some (.int by0), some (.str (T r2)), some (.ref e), none, some (.int (mn r2 : Nat)), some (.int (hm r2 : Nat)), some (.ref n), x10, y11, x12, x13] ∧ s = ⟨[(n, .lst (ks.map V.int)), (q0, .lst ([0, 1].map V.int)), (c, .lst ((z :: cs).map V.int))], []⟩ ∧ ks.Pairwise (· < ·) ∧ (∀ k ∈ ks, 0 ≤ k ∧ k < hm r2) ∧ ks.length ≤ 4) ?_ ?_
      · walk_at "bm"
        refine we_sortedSet ?_
        walk_at "bm"
        refine w2_ixL (v := .int z) (by walk_at "isl") (atI_of (by decide) rfl) ?_
        walk_at "bm"
        refine c__law_number (by omega) fun nm => ?_
        walk_at "bm"
        refine ⟨by simp, fun p hp => ?_⟩
        obtain ⟨z4, hz4⟩ : ∃ z4, z4 = (if nm < 0 then -nm else nm) % ((hm r2 : Nat) : Int) := ⟨_, rfl⟩
        rw [← hz4]
        have hz5 : 0 ≤ z4 ∧ z4 < (hm r2 : Nat) := by
          rw [hz4]
          exact ⟨Int.emod_nonneg _ (by omega), Int.emod_lt_of_pos _ (by omega)⟩
        refine ⟨p, [0, (hm r2 : Nat) - 1, ((hm r2 : Nat) : Int) / 2, z4], rfl, by walk_at "isl", by simp, fun out p2 hp2 h1 h2 h3 => ?_⟩
        refine ⟨_, by walk_at "sub", p2, out, rfl, rfl, h1, fun k hk => ?_, h3⟩
        have := (h2 k).mp hk
        simp only [List.mem_cons, List.not_mem_nil, or_false] at this
        omega
      rintro σ s ⟨n, ks, rfl, rfl, hkp, hkb, hkl⟩
      have hul : (uns r2 ks).length = ks.length := List.length_map _
      refine ws_cut (fun σ s => ∃ (f : Addr), σ = [some (.ref a), some (.ref c), some (.int W), some (.int by0), some (.str (T r2)), some (.ref e), none, some (.int (mn r2 : Nat)), some (.int (hm r2 : Nat)), some (.ref n), some (.ref f), y11, x12, x13] ∧ s = ⟨[(f, .lst (rwsV (uns r2 ks))), (q0, .lst ([0, 1].map V.int)), (c, .lst ((z :: cs).map V.int))], []⟩) ?_ ?_
      · walk_at "bm"
        refine ⟨⟨_, by walk_at "isl"⟩, ?_⟩
        refine cp_list (xs := ks.map V.int) (fun i => rwsV (uns r2 (ks.take i))) (by walk_at "isl") (by rw [List.length_map]; omega) rfl (fun i hi => by unfold uns; rw [List.length_map, List.length_map, List.length_take]; omega) ?_ ?_
        · intro D i y hi hy
          obtain ⟨k, hk, rfl⟩ := getI hy
          have hkk := hkb k (List.mem_of_getElem? hk)
          walk_at "bm"
          refine ⟨rfl, ?_⟩
          walk_at "bm"
          refine c_by_number hX3 hr hkk.1 hkk.2 ?_
          refine ⟨Sub.refl _, ?_⟩
          show rwsV (uns r2 (ks.take (i + 1))) = _
          unfold uns
          rw [take_snoc hk, List.map_append, rwsV_app]
          rfl
        intro D hD
        rw [List.length_map, List.take_length]
        exact ⟨_, by walk_at "sub", D, rfl, rfl⟩
      rintro σ s ⟨f, rfl, rfl⟩
      refine ws_seq ?_
      walk_at "bn"
      refine we_sortedSetT ?_
      walk_at "bn"
      refine ⟨f, uns r2 ks, rfl, by walk_at "isl", lex_nodup (uns_lex hkp hkb), by omega, fun us p hp hus hpn => ?_⟩
      rw [uns_same hkp hkb hp hus]
      walk_at "bn"
      refine w2_neLR (ns := uns r2 ks) (ms := uns r2 ks) (by walk_at "isl") (by walk_at "isl") ?_
      walk_at "bn"
      refine spl_f (by simp) ?_
      walk_at "bm"
      refine ⟨⟨_, by walk_at "isl"⟩, ?_⟩
      refine cp_list (xs := rwsV (uns r2 ks)) (fun i => (List.replicate i true).map V.bl) (by walk_at "isl") (by rw [List.length_map]; omega) rfl (fun i hi => by rw [List.length_map, List.length_replicate]; exact Nat.le_refl _) ?_ ?_
      · intro D i y hi hy
        obtain ⟨u, hu, rfl⟩ := getR hy
        obtain ⟨k, hk, rfl⟩ := List.mem_map.mp (List.mem_of_getElem? hu)
        obtain ⟨f1, f2, f3⟩ := un_facts (hkb k hk).1 (hkb k hk).2
        obtain ⟨u, hu⟩ : ∃ u, u = un r2 0 (mn r2 : Nat) k := ⟨_, rfl⟩
        rw [← hu] at f1 f2 f3 ⊢
        walk_at "bm"
        refine ⟨rfl, ?_⟩
        walk_at "bm"
        rw [f2]
        walk_at "bm"
        refine c__law_far (by omega) f1 ?_
        walk_at "bm"
        rw [f3]
        refine ⟨Sub.refl _, ?_⟩
        rw [List.replicate_succ', List.map_append]
        simp
      intro D hD
      walk_at "bm"
      refine wl_all (by walk_at "isl") ?_
      walk_at "bm"
      refine spl_f (by simp) ?_
      walk_at "bm"
      exact ⟨_, by walk_at "sub", _, _, _, _, _, _, _, _, _, _, rfl, rfl⟩
    · walk_at "bm"
      exact ⟨_, Sub.refl _, _, _, _, _, _, _, _, _, _, _, rfl, rfl⟩
  rintro σ s ⟨x3, x4, x5, x7, x8, x9, x10, x11, x12, x13, rfl, rfl⟩
  refine ws_cut (fun σ s => ∃ x6, σ = [some (.ref a), some (.ref c), some (.int W), x3, x4, x5, x6, x7, x8, x9, x10, x11, x12, x13] ∧ s = ⟨[], []⟩) ?_ ?_
  · walk_at "bm"
    refine ⟨fun _ => ?_, fun _ => ?_⟩
    · refine ws_seq ?_
      walk_at "bn"
      refine w2_repT (by decide) ?_
      rw [show ((40 : Int).toNat) = 40 from rfl]
      obtain ⟨rr, hrr⟩ : ∃ rr, rr = List.replicate 40 false := ⟨_, rfl⟩
      have hpos : 0 < hm rr := by rw [hrr]; exact hm_40
      have hrl : rr.length ≤ 40 := by rw [hrr, List.length_replicate]; exact Nat.le_refl _
      have ht : (List.replicate ((40 : Int).toNat) false) = rr := by rw [hrr]; rfl
      rw [← hrr]
      walk_at "bn"
      refine c_how_many hX3 hrl ?_
      walk_at "bm"
      refine w2_repT (by decide) ?_
      rw [ht]
      walk_at "bm"
      refine c__law_count hrl fun p => ?_
      walk_at "bm"
      refine w2_ixU (v := .int (hm rr : Nat)) (isT_own (by walk_at "mem")) (atI_of (by decide) rfl) ?_
      walk_at "bm"
      refine spl_f (by simp) ?_
      walk_at "bm"
      refine w2_repT (by decide) ?_
      rw [ht]
      walk_at "bm"
      refine c_by_number hX3 hrl (by omega) (by omega) ?_
      have f2 := (un_facts (r := rr) (k := (hm rr : Nat) - 1) (by omega) (by omega))
      obtain ⟨u, hu⟩ : ∃ u, u = un rr 0 (mn rr : Nat) ((hm rr : Nat) - 1) := ⟨_, rfl⟩
      rw [← hu] at f2 ⊢
      walk_at "bm"
      rw [f2.2.1]
      refine ⟨fun z => (nomatch z), fun _ => ?_⟩
      walk_at "bm"
      exact ⟨_, by walk_at "sub", _, rfl, rfl⟩
    · walk_at "bm"
      exact ⟨_, by walk_at "sub", _, rfl, rfl⟩
  rintro σ s ⟨x6, rfl, rfl⟩
  refine ws_seq ?_
  walk_at "bn"
  have e4 : hm [true, true, true, true] = 2 := by decide +kernel
  have e1 : hm [true] = 0 := by decide +kernel
  have e0 : hm [] = 1 := by decide +kernel
  have e2 : hm [false, false] = 1 := by decide +kernel
  have e3 : hm [false, true] = 1 := by decide +kernel
  refine c_how_many (r := [true, true, true, true]) hX3 (by decide) ?_
  rw [e4]
  walk_at "bn"
  refine c_by_number (r := [true, true, true, true]) hX3 (by decide) (by decide) (by rw [e4]; decide) ?_
  rw [show un [true, true, true, true] 0 (mn [true, true, true, true] : Nat) 0 = [true, true, false, false] from by decide +kernel]
  walk_at "bn"
  refine c_how_many (r := [true]) hX3 (by decide) ?_
  rw [e1]
  walk_at "bn"
  refine c_how_many (r := []) hX3 (by decide) ?_
  rw [e0]
  walk_at "bn"
  refine c_by_number (r := [true, true, true, true]) hX3 (by decide) (by decide) (by rw [e4]; decide) ?_
  rw [show un [true, true, true, true] 0 (mn [true, true, true, true] : Nat) 1 = [true, false, true, false] from by decide +kernel]
  walk_at "bm"
  refine c_how_many (r := [false, false]) hX3 (by decide) ?_
  rw [e2]
  walk_at "bm"
  refine c_by_number (r := [false, true]) hX3 (by decide) (by decide) (by rw [e3]; decide) ?_
  rw [show un [false, true] 0 (mn [false, true] : Nat) 0 = [true, false] from by decide +kernel]
  walk_at "bm"
end BM
namespace BM
open PySem L2 Evl PyProof.Rows
def top (i : Nat) : Stmt := PySem.Challenge.pw_bracketmend_k06_whole_counted.main.body.getD i (.Pass ⟨0, 0, 0, 0⟩)
abbrev s_is_whole : Stmt := top 6
theorem sc_is_whole : FnScope N_is_whole ["thing"] (defScope s_is_whole) := ⟨rfl, rfl, rfl, by decide +kernel, rfl, by decide +kernel, by decide +kernel⟩
abbrev s_asked_row : Stmt := top 7
theorem sc_asked_row : FnScope N_asked_row ["row"] (defScope s_asked_row) := ⟨rfl, rfl, rfl, by decide +kernel, rfl, by decide +kernel, by decide +kernel⟩
abbrev s_deepens : Stmt := top 8
theorem sc_deepens : FnScope N_deepens ["bracket"] (defScope s_deepens) := ⟨rfl, rfl, rfl, by decide +kernel, rfl, by decide +kernel, by decide +kernel⟩
abbrev s_depths_of : Stmt := top 9
theorem sc_depths_of : FnScope N_depths_of ["row"] (defScope s_depths_of) := ⟨rfl, rfl, rfl, by decide +kernel, rfl, by decide +kernel, by decide +kernel⟩
abbrev s_t_init : Stmt := inClass (top 16) 0
theorem sc_t_init : FnScope N_t_init ["self", "places", "cut"] (defScope s_t_init) := ⟨rfl, rfl, rfl, by decide +kernel, rfl, by decide +kernel, by decide +kernel⟩
abbrev s_turns : Stmt := top 18
theorem sc_turns : FnScope N_turns ["row"] (defScope s_turns) := ⟨rfl, rfl, rfl, by decide +kernel, rfl, by decide +kernel, by decide +kernel⟩
abbrev s_counts_of : Stmt := top 19
theorem sc_counts_of : FnScope N_counts_of ["row", "many"] (defScope s_counts_of) := ⟨rfl, rfl, rfl, by decide +kernel, rfl, by decide +kernel, by decide +kernel⟩
abbrev s_fewest_of : Stmt := top 20
theorem sc_fewest_of : FnScope N_fewest_of ["row"] (defScope s_fewest_of) := ⟨rfl, rfl, rfl, by decide +kernel, rfl, by decide +kernel, by decide +kernel⟩
abbrev s_how_many : Stmt := top 21
theorem sc_how_many : FnScope N_how_many ["row"] (defScope s_how_many) := ⟨rfl, rfl, rfl, by decide +kernel, rfl, by decide +kernel, by decide +kernel⟩
abbrev s_by_number : Stmt := top 22
theorem sc_by_number : FnScope N_by_number ["row", "number"] (defScope s_by_number) := ⟨rfl, rfl, rfl, by decide +kernel, rfl, by decide +kernel, by decide +kernel⟩
abbrev s__law_number : Stmt := top 24
theorem sc__law_number : FnScope N__law_number ["_law_cell", "_law_at", "_law_whole"] (defScope s__law_number) := ⟨rfl, rfl, rfl, by decide +kernel, rfl, by decide +kernel, by decide +kernel⟩
abbrev s__law_row : Stmt := top 25
theorem sc__law_row : FnScope N__law_row ["_law_script", "_law_by", "_law_most", "_law_even"] (defScope s__law_row) := ⟨rfl, rfl, rfl, by decide +kernel, rfl, by decide +kernel, by decide +kernel⟩
abbrev s__law_good : Stmt := top 27
theorem sc__law_good : FnScope N__law_good ["_law_row_here"] (defScope s__law_good) := ⟨rfl, rfl, rfl, by decide +kernel, rfl, by decide +kernel, by decide +kernel⟩
abbrev s__law_far : Stmt := top 35
theorem sc__law_far : FnScope N__law_far ["_law_one", "_law_other"] (defScope s__law_far) := ⟨rfl, rfl, rfl, by decide +kernel, rfl, by decide +kernel, by decide +kernel⟩
abbrev s__law_every : Stmt := top 36
theorem sc__law_every : FnScope N__law_every ["_law_row_here"] (defScope s__law_every) := ⟨rfl, rfl, rfl, by decide +kernel, rfl, by decide +kernel, by decide +kernel⟩
abbrev s__law_longer : Stmt := top 37
theorem sc__law_longer : FnScope N__law_longer ["_law_rows"] (defScope s__law_longer) := ⟨rfl, rfl, rfl, by decide +kernel, rfl, by decide +kernel, by decide +kernel⟩
abbrev s__law_count : Stmt := top 38
theorem sc__law_count : FnScope N__law_count ["_law_row_here"] (defScope s__law_count) := ⟨rfl, rfl, rfl, by decide +kernel, rfl, by decide +kernel, by decide +kernel⟩
abbrev s__law_refused06 : Stmt := top 39
theorem sc__law_refused06 : FnScope N__law_refused06 ["_law_row_here", "_law_number_here"] (defScope s__law_refused06) := ⟨rfl, rfl, rfl, by decide +kernel, rfl, by decide +kernel, by decide +kernel⟩
abbrev s_law06 : Stmt := top 40
theorem sc_law06 : FnScope N_law06 ["_law_script"] (defScope s_law06) := ⟨rfl, rfl, rfl, by decide +kernel, rfl, by decide +kernel, by decide +kernel⟩
structure Ads extends CA where
  f_is_whole : Addr
  d_is_whole : FuncData
  f_asked_row : Addr
  d_asked_row : FuncData
  f_deepens : Addr
  d_deepens : FuncData
  f_depths_of : Addr
  d_depths_of : FuncData
  f_t_init : Addr
  d_t_init : FuncData
  f_turns : Addr
  d_turns : FuncData
  f_counts_of : Addr
  d_counts_of : FuncData
  f_fewest_of : Addr
  d_fewest_of : FuncData
  f_how_many : Addr
  d_how_many : FuncData
  f_by_number : Addr
  d_by_number : FuncData
  f__law_number : Addr
  d__law_number : FuncData
  f__law_row : Addr
  d__law_row : FuncData
  f__law_good : Addr
  d__law_good : FuncData
  f__law_far : Addr
  d__law_far : FuncData
  f__law_every : Addr
  d__law_every : FuncData
  f__law_longer : Addr
  d__law_longer : FuncData
  f__law_count : Addr
  d__law_count : FuncData
  f__law_refused06 : Addr
  d__law_refused06 : FuncData
  f_law06 : Addr
  d_law06 : FuncData
structure Txt (K : PySem.W.Frag) (mg : Str → Option Value) (A : Ads) : Prop where
  F_is_whole : Fun K "is_whole" "is_whole" s_is_whole A.f_is_whole A.d_is_whole
  g_is_whole : mg "is_whole" = some (.ref A.f_is_whole)
  b_is_whole : Binds K A.d_is_whole ["thing"] []
  F_asked_row : Fun K "asked_row" "asked_row" s_asked_row A.f_asked_row A.d_asked_row
  g_asked_row : mg "asked_row" = some (.ref A.f_asked_row)
  b_asked_row : Binds K A.d_asked_row ["row"] []
  F_deepens : Fun K "deepens" "deepens" s_deepens A.f_deepens A.d_deepens
  g_deepens : mg "deepens" = some (.ref A.f_deepens)
  b_deepens : Binds K A.d_deepens ["bracket"] []
  F_depths_of : Fun K "depths_of" "depths_of" s_depths_of A.f_depths_of A.d_depths_of
  g_depths_of : mg "depths_of" = some (.ref A.f_depths_of)
  b_depths_of : Binds K A.d_depths_of ["row"] []
  F_t_init : Fun K "__init__" "Turned.__init__" s_t_init A.f_t_init A.d_t_init
  m_t_init : Meth K A.c_Turned "__init__" A.f_t_init
  b_t_init : Binds K A.d_t_init ["self", "places", "cut"] []
  F_turns : Fun K "turns" "turns" s_turns A.f_turns A.d_turns
  g_turns : mg "turns" = some (.ref A.f_turns)
  b_turns : Binds K A.d_turns ["row"] []
  F_counts_of : Fun K "counts_of" "counts_of" s_counts_of A.f_counts_of A.d_counts_of
  g_counts_of : mg "counts_of" = some (.ref A.f_counts_of)
  b_counts_of : Binds K A.d_counts_of ["row", "many"] []
  F_fewest_of : Fun K "fewest_of" "fewest_of" s_fewest_of A.f_fewest_of A.d_fewest_of
  g_fewest_of : mg "fewest_of" = some (.ref A.f_fewest_of)
  b_fewest_of : Binds K A.d_fewest_of ["row"] []
  F_how_many : Fun K "how_many" "how_many" s_how_many A.f_how_many A.d_how_many
  g_how_many : mg "how_many" = some (.ref A.f_how_many)
  b_how_many : Binds K A.d_how_many ["row"] []
  F_by_number : Fun K "by_number" "by_number" s_by_number A.f_by_number A.d_by_number
  g_by_number : mg "by_number" = some (.ref A.f_by_number)
  b_by_number : Binds K A.d_by_number ["row", "number"] []
  F__law_number : Fun K "_law_number" "_law_number" s__law_number A.f__law_number A.d__law_number
  g__law_number : mg "_law_number" = some (.ref A.f__law_number)
  b__law_number : Binds K A.d__law_number ["_law_cell", "_law_at", "_law_whole"] []
  F__law_row : Fun K "_law_row" "_law_row" s__law_row A.f__law_row A.d__law_row
  g__law_row : mg "_law_row" = some (.ref A.f__law_row)
  b__law_row : Binds K A.d__law_row ["_law_script", "_law_by", "_law_most", "_law_even"] []
  F__law_good : Fun K "_law_good" "_law_good" s__law_good A.f__law_good A.d__law_good
  g__law_good : mg "_law_good" = some (.ref A.f__law_good)
  b__law_good : Binds K A.d__law_good ["_law_row_here"] []
  F__law_far : Fun K "_law_far" "_law_far" s__law_far A.f__law_far A.d__law_far
  g__law_far : mg "_law_far" = some (.ref A.f__law_far)
  b__law_far : Binds K A.d__law_far ["_law_one", "_law_other"] []
  F__law_every : Fun K "_law_every" "_law_every" s__law_every A.f__law_every A.d__law_every
  g__law_every : mg "_law_every" = some (.ref A.f__law_every)
  b__law_every : Binds K A.d__law_every ["_law_row_here"] []
  F__law_longer : Fun K "_law_longer" "_law_longer" s__law_longer A.f__law_longer A.d__law_longer
  g__law_longer : mg "_law_longer" = some (.ref A.f__law_longer)
  b__law_longer : Binds K A.d__law_longer ["_law_rows"] []
  F__law_count : Fun K "_law_count" "_law_count" s__law_count A.f__law_count A.d__law_count
  g__law_count : mg "_law_count" = some (.ref A.f__law_count)
  b__law_count : Binds K A.d__law_count ["_law_row_here"] []
  F__law_refused06 : Fun K "_law_refused" "_law_refused" s__law_refused06 A.f__law_refused06 A.d__law_refused06
  g__law_refused06 : mg "_law_refused" = some (.ref A.f__law_refused06)
  b__law_refused06 : Binds K A.d__law_refused06 ["_law_row_here", "_law_number_here"] []
  F_law06 : Fun K "law" "law" s_law06 A.f_law06 A.d_law06
  g_law06 : mg "law" = some (.ref A.f_law06)
  b_law06 : Binds K A.d_law06 ["_law_script"] []
  k_Turned : Cls K A.c_Turned
  mk_Turned : Mk K A.c_Turned A.f_t_init
  mk_Odd : Mk0 K A.c_Odd
  n_abs : mg "abs" = none
  n_all : mg "all" = none
  n_bool : mg "bool" = none
  n_enumerate : mg "enumerate" = none
  n_int : mg "int" = none
  n_isinstance : mg "isinstance" = none
  n_len : mg "len" = none
  n_list : mg "list" = none
  n_min : mg "min" = none
  n_range : mg "range" = none
  n_set : mg "set" = none
  n_sorted : mg "sorted" = none
  n_str : mg "str" = none
  n_sum : mg "sum" = none
  g_BadNumber : mg "BadNumber" = some (.ref A.c_BadNumber)
  g_BracketError : mg "BracketError" = some (.ref A.c_BracketError)
  g_LONGEST : ∃ t, mg "LONGEST" = some (.int 40 t)
  g_Odd : mg "Odd" = some (.ref A.c_Odd)
  g_Turned : mg "Turned" = some (.ref A.c_Turned)
  x_BadNumber : PySem.W.excIn K A.c_BadNumber [.type "ValueError", .type "Exception", .type "BaseException", .type "object"] "ValueError.__new__" = true
  kp_BadNumber : PySem.W.keepIn K (.ref A.c_BadNumber) = true
  bE_BadNumber : PySem.W.subIn K (.ref A.c_BadNumber) (.type "BaseException") = some true
  tE_BadNumber : PySem.W.typeIn K (.ref A.c_BadNumber) = some (.type "type")
theorem ok_is_whole {P : Program} {w : World} {K : PySem.W.Frag} {mg : Str → Option Value} {base : Heap} {A : Ads} (X_ : Txt K mg A) : FnOk P w K mg base CX0 1 A.f_is_whole A.d_is_whole ["thing"] (sp_is_whole K A.toCA) := by
  have nd_ := sc_is_whole.nd
  refine X_.F_is_whole.ok sc_is_whole (fun vs H Q E h => ln_is_whole h) (fun cdv A_ outer s H vs Q E hr h => ⟨rd_is_whole K A.toCA, ?_, pu_is_whole h⟩)
  exact (pss_one (ps_ret (pe_and (pe_callB (c_isi "int") (by rfl) X_.n_isinstance (by decide +kernel) (pa_cons (pv 0) (pa_cons (pe_bltn rfl X_.n_int (by decide +kernel) rfl) pa_nil))) (pe_one (pe_not (pe_callB (c_isi "bool") (by rfl) X_.n_isinstance (by decide +kernel) (pa_cons (pv 0) (pa_cons (pe_bltn rfl X_.n_bool (by decide +kernel) rfl) pa_nil))))))))
theorem ok_asked_row {P : Program} {w : World} {K : PySem.W.Frag} {mg : Str → Option Value} {base : Heap} {A : Ads} (X_ : Txt K mg A) : FnOk P w K mg base CX0 1 A.f_asked_row A.d_asked_row ["row"] (sp_asked_row K A.toCA) := by
  have nd_ := sc_asked_row.nd
  refine X_.F_asked_row.ok sc_asked_row (fun vs H Q E h => ln_asked_row h) (fun cdv A_ outer s H vs Q E hr h => ⟨rd_asked_row K A.toCA, ?_, pu_asked_row h⟩)
  exact (pss_one (ps_if (PW.pt (pw_or (pt_not (pt_val (pe_callB (c_isi "str") (by rfl) X_.n_isinstance (by decide +kernel) (pa_cons (pv 0) (pa_cons (pe_bltn rfl X_.n_str (by decide +kernel) rfl) pa_nil))))) (pw_or (pt_cmpR o_gt (pe_callB c_lenT (by rfl) X_.n_len (by decide +kernel) (pa_cons (pv 0) pa_nil)) (pe_glob rfl X_.g_LONGEST.choose_spec ⟨_, rfl⟩) (nomark _)) (pw_or1 (pt_not (pt_val (pe_callB (c_all rfl) (by rfl) X_.n_all (by decide +kernel) (pa_cons (pe_lc (own := [("one", 1)]) (g := (gName 1)) (tt := tYes) rfl nd_ (pi_str (pv 0)) (blkOk_by (own := [("one", 1)]) (N := N_asked_row) (sc := defScope s_asked_row) (by decide +kernel)) (fun _ _ _ _ _ => (pg_name (i := 1) nd_ rfl (Or.inl rfl))) (fun _ _ _ _ _ => pts_nil) (fun _ _ _ _ _ => (pe_cmpR o_inT (pv 1) (pe_strT [true, false]) rfl))) pa_nil)))))))) (pss_one ps_never) pss_nil))
theorem ok_deepens {P : Program} {w : World} {K : PySem.W.Frag} {mg : Str → Option Value} {base : Heap} {A : Ads} (X_ : Txt K mg A) : FnOk P w K mg base CX0 1 A.f_deepens A.d_deepens ["bracket"] (sp_deepens K A.toCA) := by
  have nd_ := sc_deepens.nd
  refine X_.F_deepens.ok sc_deepens (fun vs H Q E h => ln_deepens h) (fun cdv A_ outer s H vs Q E hr h => ⟨rd_deepens K A.toCA, ?_, pu_deepens h⟩)
  exact (pss_one (ps_ret (pe_ifExp (pt_cmpR op_eq (pv 0) (pe_strT [true]) (nomark _)) pe_int (pe_un o_neg pe_int))))
theorem ok_depths_of {P : Program} {w : World} {K : PySem.W.Frag} {mg : Str → Option Value} {base : Heap} {A : Ads} (X_ : Txt K mg A) : FnOk P w K mg base CX0 2 A.f_depths_of A.d_depths_of ["row"] (sp_depths_of K A.toCA) := by
  have nd_ := sc_depths_of.nd
  refine X_.F_depths_of.ok sc_depths_of (fun vs H Q E h => ln_depths_of h) (fun cdv A_ outer s H vs Q E hr h => ⟨rd_depths_of K A.toCA, ?_, pu_depths_of h⟩)
  exact (pss_cons (ps_set (i := 1) nd_ rfl (Or.inl rfl) (pe_lst (pa_cons pe_int pa_nil)))
    (pss_cons (ps_for PassesOwn.never rfl (pi_str (pv 0)) (pg_name (i := 2) nd_ rfl (Or.inl rfl)) (pss_one (ps_expr (pe_bm PySem.F.plainAttrs_list PySem.F.slot_list_append PySem.F.type_list_append mt_append (pv 1) (pa_cons (pe_op o_add (pe_ix ix_list (pv 1) (pe_un o_neg pe_int) (fun _ _ => rfl)) (pe_call (ok_deepens X_) (hr.mono (by decide)) rfl X_.g_deepens X_.F_deepens.kp X_.b_deepens .nil pass0 (pa_cons (pv 2) pa_nil))) pa_nil)))))
    (pss_one (ps_ret (pv 1)))))
theorem ok_t_init {P : Program} {w : World} {K : PySem.W.Frag} {mg : Str → Option Value} {base : Heap} {A : Ads} (X_ : Txt K mg A) : FnOk P w K mg base CX0 1 A.f_t_init A.d_t_init ["self", "places", "cut"] (sp_t_init K A.toCA) := by
  have nd_ := sc_t_init.nd
  refine X_.F_t_init.ok sc_t_init (fun vs H Q E h => ln_t_init h) (fun cdv A_ outer s H vs Q E hr h => ⟨rd_t_init K A.toCA, ?_, pu_t_init h⟩)
  exact (pss_cons (ps_fld (pv 0) (pe_callTy c_listOf (by rfl) X_.n_list (by decide +kernel) (pa_cons (pv 1) pa_nil)) rfl)
    (pss_one (ps_fld (pv 0) (pv 2) rfl)))
theorem ok_turns {P : Program} {w : World} {K : PySem.W.Frag} {mg : Str → Option Value} {base : Heap} {A : Ads} (X_ : Txt K mg A) : FnOk P w K mg base CX0 4 A.f_turns A.d_turns ["row"] (sp_turns K A.toCA) := by
  have nd_ := sc_turns.nd
  refine X_.F_turns.ok sc_turns (fun vs H Q E h => ln_turns h) (fun cdv A_ outer s H vs Q E hr h => ⟨rd_turns K A.toCA, ?_, pu_turns h⟩)
  exact (pss_cons (ps_expr (pe_call (ok_asked_row X_) (hr.mono (by decide)) rfl X_.g_asked_row X_.F_asked_row.kp X_.b_asked_row .nil pass0 (pa_cons (pv 0) pa_nil)))
    (pss_cons (ps_if (pt_cmpR op_eq (pe_op o_mod (pe_callB c_lenT (by rfl) X_.n_len (by decide +kernel) (pa_cons (pv 0) pa_nil)) pe_int) pe_int (nomark _)) (pss_one (ps_ret (pe_mk0 X_.mk_Odd rfl X_.g_Odd))) pss_nil)
    (pss_cons (ps_set (i := 1) nd_ rfl (Or.inr rfl) (pe_call (ok_depths_of X_) (hr.mono (by decide)) rfl X_.g_depths_of X_.F_depths_of.kp X_.b_depths_of .nil pass0 (pa_cons (pv 0) pa_nil)))
    (pss_cons (ps_par (i := 5) (j := 6) rfl nd_ rfl rfl (by decide) rfl rfl (pa_cons (pe_un o_neg (pe_callB (cr_min rfl) (by rfl) X_.n_min (by decide +kernel) (pa_cons (pv 1) pa_nil))) (pa_cons (pe_bm PySem.F.plainAttrs_list PySem.F.slot_list_index PySem.F.type_list_index m_index (pv 1) (pa_cons (pe_callB (cr_min rfl) (by rfl) X_.n_min (by decide +kernel) (pa_cons (pv 1) pa_nil)) pa_nil)) pa_nil)) (by rfl))
    (pss_cons (ps_set (i := 2) nd_ rfl (Or.inl rfl) (pe_op o_add (pe_ix ix_list (pv 1) (pe_un o_neg pe_int) (fun _ _ => rfl)) (pv 5)))
    (pss_cons (ps_setLc (i := 3) (own := [("at", 9)]) (g := (gName 9)) (tt := (tAnd (tTest (tOp rEq (tOp aIxT (tVar 0) (tVar 9)) (tC (.str (T [false]))))) (tTest (tOp rEq (tOp (rIxL K) (tVar 1) (tOp aAdd (tVar 9) (tC (.int 1)))) (tCB (rMin K) (tCons (tSl (rSlL K) (tVar 1) tNoPart (tPart (tOp aAdd (tVar 9) (tC (.int 2))))) tNil)))))) rfl nd_ rfl rfl (sw_true rfl rfl rfl (by decide +kernel)) (pi_range1 rfl X_.n_range (pa_cons (pv 6) pa_nil)) (blkOk_by (own := [("at", 9)]) (N := N_turns) (sc := defScope s_turns) (by decide +kernel)) (fun _ _ _ _ _ => (pg_name (i := 9) nd_ rfl (Or.inl rfl))) (fun _ _ _ _ _ => (pts_one (PW.pt (pw_and (pt_cmpR op_eq (pe_ix x_T (pv 0) (pv 9) (fun _ _ => rfl)) (pe_strT [false]) (nomark _)) (pw_and1 (pt_cmpR op_eq (pe_ix ix_list (pv 1) (pe_op o_add (pv 9) pe_int) (fun _ _ => rfl)) (pe_callB (cr_min rfl) (by rfl) X_.n_min (by decide +kernel) (pa_cons (pe_slice sl_list (pv 1) po_none (po_some (pe_op o_add (pv 9) pe_int))) pa_nil)) (nomark _))))))) (fun _ _ _ _ _ => (pv 9)))
    (pss_cons (ps_setLc (i := 4) (own := [("at", 9)]) (g := (gName 9)) (tt := (tAnd (tTest (tOp rEq (tOp aIxT (tVar 0) (tVar 9)) (tC (.str (T [true]))))) (tTest (tOp rEq (tOp (rIxL K) (tVar 1) (tVar 9)) (tCB (rMin K) (tCons (tSl (rSlL K) (tVar 1) (tPart (tVar 9)) tNoPart) tNil)))))) rfl nd_ rfl rfl (sw_true rfl rfl rfl (by decide +kernel)) (pi_range2 rfl X_.n_range (pa_cons (pv 6) (pa_cons (pe_callB c_lenT (by rfl) X_.n_len (by decide +kernel) (pa_cons (pv 0) pa_nil)) pa_nil))) (blkOk_by (own := [("at", 9)]) (N := N_turns) (sc := defScope s_turns) (by decide +kernel)) (fun _ _ _ _ _ => (pg_name (i := 9) nd_ rfl (Or.inl rfl))) (fun _ _ _ _ _ => (pts_one (PW.pt (pw_and (pt_cmpR op_eq (pe_ix x_T (pv 0) (pv 9) (fun _ _ => rfl)) (pe_strT [true]) (nomark _)) (pw_and1 (pt_cmpR op_eq (pe_ix ix_list (pv 1) (pv 9) (fun _ _ => rfl)) (pe_callB (cr_min rfl) (by rfl) X_.n_min (by decide +kernel) (pa_cons (pe_slice sl_list (pv 1) (po_some (pv 9)) po_none) pa_nil)) (nomark _))))))) (fun _ _ _ _ _ => (pv 9)))
    (pss_cons (ps_par (i := 7) (j := 8) rfl nd_ rfl rfl (by decide) rfl rfl (pa_cons (pe_op o_div (pe_op o_add (pv 5) pe_int) pe_int) (pa_cons (pe_op o_div (pe_op o_add (pv 2) pe_int) pe_int) pa_nil)) (by rfl))
    (pss_one (ps_ret (pe_make X_.mk_Turned (ok_t_init X_) (hr.mono (by decide)) rfl X_.g_Turned X_.b_t_init .nil pass0 (pa_cons (pe_op op_cat (pe_slice sl_list (pv 3) po_none (po_some (pv 7))) (pe_slice sl_list (pv 4) (po_some (pe_op o_sub (pe_callB c_len (by rfl) X_.n_len (by decide +kernel) (pa_cons (pv 4) pa_nil)) (pv 8))) po_none)) (pa_cons (pv 6) pa_nil)))))))))))))
theorem ok_counts_of {P : Program} {w : World} {K : PySem.W.Frag} {mg : Str → Option Value} {base : Heap} {A : Ads} (X_ : Txt K mg A) : FnOk P w K mg base CX0 2 A.f_counts_of A.d_counts_of ["row", "many"] (sp_counts_of K A.toCA) := by
  have nd_ := sc_counts_of.nd
  refine X_.F_counts_of.ok sc_counts_of (fun vs H Q E h => ln_counts_of h) (fun cdv A_ outer s H vs Q E hr h => ⟨rd_counts_of K A.toCA, ?_, pu_counts_of h⟩)
  exact (pss_cons (ps_set (i := 2) nd_ rfl (Or.inl rfl) (pe_dispT (hu_of hr) (pps_cons (pe_tup (pa_cons (pe_callB c_lenT (by rfl) X_.n_len (by decide +kernel) (pa_cons (pv 0) pa_nil)) (pa_cons pe_int (pa_cons pe_int pa_nil)))) pe_int pps_nil)))
    (pss_cons (ps_for PassesOwn.never rfl (pi_range3 rfl X_.n_range (pa_cons (pe_op o_sub (pe_callB c_lenT (by rfl) X_.n_len (by decide +kernel) (pa_cons (pv 0) pa_nil)) pe_int) (pa_cons (pe_un o_neg pe_int) (pa_cons (pe_un o_neg pe_int) pa_nil)))) (pg_name (i := 3) nd_ rfl (Or.inl rfl)) (pss_one (ps_for PassesOwn.never rfl (pi_range1 rfl X_.n_range (pa_cons (pe_op o_add (pe_callB c_lenT (by rfl) X_.n_len (by decide +kernel) (pa_cons (pv 0) pa_nil)) pe_int) pa_nil)) (pg_name (i := 4) nd_ rfl (Or.inl rfl)) (pss_one (ps_for PassesOwn.never rfl (pi_range1 rfl X_.n_range (pa_cons (pe_op o_add (pv 1) pe_int) pa_nil)) (pg_name (i := 5) nd_ rfl (Or.inl rfl)) (pss_cons (ps_set (i := 6) nd_ rfl (Or.inl rfl) pe_int)
    (pss_cons (ps_for PassesOwn.never rfl (pi_str (pe_strT [true, false])) (pg_name (i := 7) nd_ rfl (Or.inl rfl)) (pss_cons (ps_set (i := 8) nd_ rfl (Or.inl rfl) (pe_callTy c_intB (by rfl) X_.n_int (by decide +kernel) (pa_cons (pe_cmpR op_ne (pv 7) (pe_ix x_T (pv 0) (pv 3) (fun _ _ => rfl)) (nomark _)) pa_nil)))
    (pss_one (ps_set (i := 6) nd_ rfl (Or.inl rfl) (pe_op o_add (pv 6) (pe_dget2 (hu_of hr) (pv 2) (pe_tup (pa_cons (pe_op o_add (pv 3) pe_int) (pa_cons (pe_op o_add (pv 4) (pe_call (ok_deepens X_) (hr.mono (by decide)) rfl X_.g_deepens X_.F_deepens.kp X_.b_deepens .nil pass0 (pa_cons (pv 7) pa_nil))) (pa_cons (pe_op o_sub (pv 5) (pv 8)) pa_nil)))) pe_int ⟨rfl, rfl, rfl, rfl⟩))))))
    (pss_one (ps_if (pt_cmpR o_gt (pv 6) pe_int (nomark _)) (pss_one (ps_dput (hu_of hr) (pv 2) (pe_tup (pa_cons (pv 3) (pa_cons (pv 4) (pa_cons (pv 5) pa_nil)))) (pv 6) rfl)) pss_nil)))))))))
    (pss_one (ps_ret (pv 2)))))
theorem ok_fewest_of {P : Program} {w : World} {K : PySem.W.Frag} {mg : Str → Option Value} {base : Heap} {A : Ads} (X_ : Txt K mg A) : FnOk P w K mg base CX0 5 A.f_fewest_of A.d_fewest_of ["row"] (sp_fewest_of K A.toCA) := by
  have nd_ := sc_fewest_of.nd
  refine X_.F_fewest_of.ok sc_fewest_of (fun vs H Q E h => ln_fewest_of h) (fun cdv A_ outer s H vs Q E hr h => ⟨rd_fewest_of K A.toCA, ?_, pu_fewest_of h⟩)
  exact (pss_one (ps_ret (pe_callB c_len (by rfl) X_.n_len (by decide +kernel) (pa_cons (pe_fld (pe_call (ok_turns X_) (hr.mono (by decide)) rfl X_.g_turns X_.F_turns.kp X_.b_turns .nil pass0 (pa_cons (pv 0) pa_nil)) rfl) pa_nil))))
theorem ok_how_many {P : Program} {w : World} {K : PySem.W.Frag} {mg : Str → Option Value} {base : Heap} {A : Ads} (X_ : Txt K mg A) : FnOk P w K mg base CX0 6 A.f_how_many A.d_how_many ["row"] (sp_how_many K A.toCA) := by
  have nd_ := sc_how_many.nd
  refine X_.F_how_many.ok sc_how_many (fun vs H Q E h => ln_how_many h) (fun cdv A_ outer s H vs Q E hr h => ⟨rd_how_many K A.toCA, ?_, pu_how_many h⟩)
  exact (pss_cons (ps_expr (pe_call (ok_asked_row X_) (hr.mono (by decide)) rfl X_.g_asked_row X_.F_asked_row.kp X_.b_asked_row .nil pass0 (pa_cons (pv 0) pa_nil)))
    (pss_cons (ps_if (pt_cmpR op_eq (pe_op o_mod (pe_callB c_lenT (by rfl) X_.n_len (by decide +kernel) (pa_cons (pv 0) pa_nil)) pe_int) pe_int (nomark _)) (pss_one (ps_ret pe_int)) pss_nil)
    (pss_cons (ps_set (i := 1) nd_ rfl (Or.inl rfl) (pe_call (ok_fewest_of X_) (hr.mono (by decide)) rfl X_.g_fewest_of X_.F_fewest_of.kp X_.b_fewest_of .nil pass0 (pa_cons (pv 0) pa_nil)))
    (pss_one (ps_ret (pe_dget2 (hu_of hr) (pe_call (ok_counts_of X_) (hr.mono (by decide)) rfl X_.g_counts_of X_.F_counts_of.kp X_.b_counts_of .nil pass0 (pa_cons (pv 0) (pa_cons (pv 1) pa_nil))) (pe_tup (pa_cons pe_int (pa_cons pe_int (pa_cons (pv 1) pa_nil)))) pe_int ⟨rfl, rfl, rfl, rfl⟩))))))
theorem ok_by_number {P : Program} {w : World} {K : PySem.W.Frag} {mg : Str → Option Value} {base : Heap} {A : Ads} (X_ : Txt K mg A) : FnOk P w K mg base (L2.CX P w) 9 A.f_by_number A.d_by_number ["row", "number"] (sp_by_number K A.toCA) := by
  have nd_ := sc_by_number.nd
  refine X_.F_by_number.okX sc_by_number (fun vs H Q E h => ln_by_number h) (fun cdv A_ outer s H vs Q E hr h => ⟨rd_by_number K A.toCA E, ?_, pu_by_number h⟩)
  exact (pss_cons (ps_expr (pe_call (ok_asked_row X_) (hr.mono (by decide)) rfl X_.g_asked_row X_.F_asked_row.kp X_.b_asked_row .nil pass0 (pa_cons (pv 0) pa_nil)))
    (pss_cons (ps_if (PW.pt (pw_or (pt_not (pt_val (pe_call (ok_is_whole X_) (hr.mono (by decide)) rfl X_.g_is_whole X_.F_is_whole.kp X_.b_is_whole .nil pass0 (pa_cons (pv 1) pa_nil)))) (pw_or1 (pt_not (pt_chain o_le o_lt pe_int (pv 1) (pe_call (ok_how_many X_) (hr.mono (by decide)) rfl X_.g_how_many X_.F_how_many.kp X_.b_how_many .nil pass0 (pa_cons (pv 0) pa_nil))))))) (pss_one (ps_raise rfl (takes_of rfl rfl rfl rfl) (pmk_own PySem.F.excBase_ValueError X_.x_BadNumber X_.g_BadNumber X_.kp_BadNumber (raises_own X_.bE_BadNumber X_.tE_BadNumber) (by exact rfl)))) pss_nil)
    (pss_cons (ps_par3 (i := 3) (j := 4) (l := 5) rfl nd_ rfl rfl rfl (by decide) (by decide) (by decide) rfl rfl rfl (pa_cons (pe_call (ok_fewest_of X_) (hr.mono (by decide)) rfl X_.g_fewest_of X_.F_fewest_of.kp X_.b_fewest_of .nil pass0 (pa_cons (pv 0) pa_nil)) (pa_cons pe_int (pa_cons (pe_strT []) pa_nil))) (by rfl))
    (pss_cons (ps_set (i := 2) nd_ rfl (Or.inl rfl) (pe_call (ok_counts_of X_) (hr.mono (by decide)) rfl X_.g_counts_of X_.F_counts_of.kp X_.b_counts_of .nil pass0 (pa_cons (pv 0) (pa_cons (pv 3) pa_nil))))
    (pss_cons (ps_for (passes_of rfl) rfl (pi_enumT rfl X_.n_enumerate (pa_cons (pv 0) pa_nil)) (pg_tup rfl (pgs_cons (pg_name (i := 6) nd_ rfl (Or.inl rfl)) (pgs_cons (pg_name (i := 7) nd_ rfl (Or.inl rfl)) pgs_nil))) (pss_cons (ps_set (i := 8) nd_ rfl (Or.inl rfl) (pe_dget2 (hu_of hr) (pv 2) (pe_tup (pa_cons (pe_op o_add (pv 6) pe_int) (pa_cons (pe_op o_add (pv 4) pe_int) (pa_cons (pe_op o_sub (pv 3) (pe_callTy c_intB (by rfl) X_.n_int (by decide +kernel) (pa_cons (pe_cmpR op_ne (pv 7) (pe_strT [true]) (nomark _)) pa_nil))) pa_nil)))) pe_int ⟨rfl, rfl, rfl, rfl⟩))
    (pss_cons (ps_set (i := 9) nd_ rfl (Or.inl rfl) (pe_ifExp (pt_cmpR o_lt (pv 1) (pv 8) (nomark _)) (pe_strT [true]) (pe_strT [false])))
    (pss_cons (ps_set (i := 1) nd_ rfl (Or.inl rfl) (pe_ifExp (pt_cmpR op_eq (pv 9) (pe_strT [true]) (nomark _)) (pv 1) (pe_op o_sub (pv 1) (pv 8))))
    (pss_cons (ps_set (i := 5) nd_ rfl (Or.inl rfl) (pe_op o_catT (pv 5) (pv 9)))
    (pss_cons (ps_set (i := 4) nd_ rfl (Or.inl rfl) (pe_op o_add (pv 4) (pe_call (ok_deepens X_) (hr.mono (by decide)) rfl X_.g_deepens X_.F_deepens.kp X_.b_deepens .nil pass0 (pa_cons (pv 9) pa_nil))))
    (pss_one (ps_set (i := 3) nd_ rfl (Or.inl rfl) (pe_op o_sub (pv 3) (pe_callTy c_intB (by rfl) X_.n_int (by decide +kernel) (pa_cons (pe_cmpR op_ne (pv 9) (pv 7) (nomark _)) pa_nil)))))))))))
    (pss_one (ps_ret (pv 5))))))))
theorem ok__law_number {P : Program} {w : World} {K : PySem.W.Frag} {mg : Str → Option Value} {base : Heap} {A : Ads} (X_ : Txt K mg A) : FnOk P w K mg base CX0 1 A.f__law_number A.d__law_number ["_law_cell", "_law_at", "_law_whole"] (sp__law_number K A.toCA) := by
  have nd_ := sc__law_number.nd
  refine X_.F__law_number.ok sc__law_number (fun vs H Q E h => ln__law_number h) (fun cdv A_ outer s H vs Q E hr h => ⟨rd__law_number K A.toCA, ?_, pu__law_number h⟩)
  exact (pss_cons (ps_if (pt_cmpR o_ge (pv 0) (pe_op o_pow pe_int pe_int) (nomark _)) (pss_one (ps_ret (pe_op o_div (pv 0) (pe_op o_add pe_int (pe_op o_mod (pv 1) pe_int))))) pss_nil)
    (pss_cons (ps_set (i := 3) nd_ rfl (Or.inl rfl) (pe_op o_mod (pv 0) (pe_op o_pow pe_int pe_int)))
    (pss_cons (ps_set (i := 4) nd_ rfl (Or.inl rfl) (pe_op o_mod (pe_op o_add (pe_op o_mul (pe_op o_add (pv 3) (pe_op o_mul pe_int (pv 1))) pe_int) (pv 2)) pe_int))
    (pss_cons (ps_set (i := 5) nd_ rfl (Or.inl rfl) (pe_op o_mul (pv 4) (pe_op o_add (pe_op o_add (pv 3) (pe_op o_mul pe_int (pv 1))) pe_int)))
    (pss_one (ps_ret (pe_op o_div (pe_op o_mul (pe_op o_mul (pv 5) (pe_op o_add (pe_op o_add (pv 4) (pv 3)) pe_int)) (pe_op o_add (pe_op o_mul (pv 4) (pv 4)) pe_int)) (pe_op o_add pe_int (pv 1)))))))))
theorem ok__law_row {P : Program} {w : World} {K : PySem.W.Frag} {mg : Str → Option Value} {base : Heap} {A : Ads} (X_ : Txt K mg A) : FnOk P w K mg base CX0 2 A.f__law_row A.d__law_row ["_law_script", "_law_by", "_law_most", "_law_even"] (sp__law_row K A.toCA) := by
  have nd_ := sc__law_row.nd
  refine X_.F__law_row.ok sc__law_row (fun vs H Q E h => ln__law_row h) (fun cdv A_ outer s H vs Q E hr h => ⟨rd__law_row K A.toCA, ?_, pu__law_row h⟩)
  exact (pss_cons (ps_set (i := 4) nd_ rfl (Or.inl rfl) (pe_ifExp (pt_cmpR (op_neD hr.units) (pv 0) (pe_lst pa_nil) (nomark _)) (pe_slice sl_list (pv 0) po_none (po_some pe_int)) (pe_lst (pa_cons pe_int pa_nil))))
    (pss_cons (ps_par (i := 9) (j := 7) rfl nd_ rfl rfl (by decide) rfl rfl (pa_cons (pe_op o_add (pe_callB c_abs (by rfl) X_.n_abs (by decide +kernel) (pa_cons (pe_callB (cr_sum rfl) (by rfl) X_.n_sum (by decide +kernel) (pa_cons (pv 4) pa_nil)) pa_nil)) (pe_op o_mul pe_int (pv 1))) (pa_cons (pe_lst pa_nil) pa_nil)) (by rfl))
    (pss_cons (ps_set (i := 5) nd_ rfl (Or.inl rfl) (pe_op o_add pe_int (pe_op o_mod (pe_op o_div (pv 9) pe_int) pe_int)))
    (pss_cons (ps_for PassesOwn.never rfl (pi_range1 rfl X_.n_range (pa_cons (pe_op o_mod (pe_op o_div (pv 9) pe_int) (pe_op o_add (pv 2) pe_int)) pa_nil)) (pg_name (i := 6) nd_ rfl (Or.inl rfl)) (pss_cons (ps_set (i := 10) nd_ rfl (Or.inl rfl) (pe_op o_div (pv 6) (pv 5)))
    (pss_cons (ps_set (i := 11) nd_ rfl (Or.inl rfl) (pe_op o_add (pe_ix ix_list (pv 4) (pe_op o_mod (pe_op o_add (pv 10) (pv 1)) (pe_callB c_len (by rfl) X_.n_len (by decide +kernel) (pa_cons (pv 4) pa_nil))) (fun _ _ => rfl)) (pe_op o_div (pv 10) (pe_callB c_len (by rfl) X_.n_len (by decide +kernel) (pa_cons (pv 4) pa_nil)))))
    (pss_cons (ps_set (i := 12) nd_ rfl (Or.inl rfl) (pe_op o_div (pe_callB c_abs (by rfl) X_.n_abs (by decide +kernel) (pa_cons (pe_call (ok__law_number X_) (hr.mono (by decide)) rfl X_.g__law_number X_.F__law_number.kp X_.b__law_number .nil pass0 (pa_cons (pv 11) (pa_cons (pe_op o_add (pv 10) (pv 1)) (pa_cons (pv 9) pa_nil)))) pa_nil)) pe_int))
    (pss_cons (ps_set (i := 13) nd_ rfl (Or.inl rfl) (pe_callTy c_intB (by rfl) X_.n_int (by decide +kernel) (pa_cons (pe_or (pe_cmpR o_gt (pe_op o_mod (pv 12) pe_int) pe_int (nomark _)) (pe_one (pe_cmpR op_eq (pe_op o_mod (pv 6) pe_int) pe_int (nomark _)))) pa_nil)))
    (pss_cons (ps_set (i := 14) nd_ rfl (Or.inl rfl) (pe_tup (pa_cons (pe_op o_mod (pv 12) pe_int) (pa_cons (pe_op o_mod (pv 6) pe_int) (pa_cons (pe_op o_sub pe_int (pe_op o_mod (pv 6) pe_int)) (pa_cons (pv 13) (pa_cons (pe_callTy c_intB (by rfl) X_.n_int (by decide +kernel) (pa_cons (pe_cmpR op_eq (pe_op o_mod (pv 10) pe_int) pe_int (nomark _)) pa_nil)) pa_nil)))))))
    (pss_one (ps_expr (pe_bm PySem.F.plainAttrs_list PySem.F.slot_list_append PySem.F.type_list_append mt_append (pv 7) (pa_cons (pe_ix x_T (pe_strT [true, false]) (pe_ix ix_tup (pv 14) (pe_op o_mod (pv 9) pe_int) (fun _ _ => rfl)) (fun _ _ => rfl)) pa_nil))))))))))
    (pss_cons (ps_set (i := 7) nd_ rfl (Or.inl rfl) (pe_ifExp (pt_val (pv 3)) (pe_slice sl_list (pv 7) po_none (po_some (pe_op o_mul (pe_op o_div (pe_callB c_len (by rfl) X_.n_len (by decide +kernel) (pa_cons (pv 7) pa_nil)) pe_int) pe_int))) (pv 7)))
    (pss_cons (ps_set (i := 8) nd_ rfl (Or.inl rfl) (pe_op o_sub (pe_bm PySem.F.plainAttrs_list PySem.F.slot_list_count PySem.F.type_list_count m_count (pv 7) (pa_cons (pe_strT [true]) pa_nil)) (pe_bm PySem.F.plainAttrs_list PySem.F.slot_list_count PySem.F.type_list_count m_count (pv 7) (pa_cons (pe_strT [false]) pa_nil))))
    (pss_cons (ps_for PassesOwn.never rfl (pi_range1 rfl X_.n_range (pa_cons (pe_callB c_len (by rfl) X_.n_len (by decide +kernel) (pa_cons (pv 7) pa_nil)) pa_nil)) (pg_name (i := 6) nd_ rfl (Or.inl rfl)) (pss_cons (ps_set (i := 10) nd_ rfl (Or.inl rfl) (pe_op o_mod (pe_op o_add (pv 6) (pv 9)) (pe_callB c_len (by rfl) X_.n_len (by decide +kernel) (pa_cons (pv 7) pa_nil))))
    (pss_one (ps_if (PW.pt (pw_and (pt_val (pv 3)) (pw_and (pt_cmpR op_ne (pv 8) pe_int (nomark _)) (pw_and1 (pt_cmpR op_eq (pe_ix ix_list (pv 7) (pv 10) (fun _ _ => rfl)) (pe_ix x_T (pe_strT [true, false]) (pe_callTy c_intB (by rfl) X_.n_int (by decide +kernel) (pa_cons (pe_cmpR o_lt (pv 8) pe_int (nomark _)) pa_nil)) (fun _ _ => rfl)) (nomark _)))))) (pss_cons (ps_asg (pe_ix x_T (pe_strT [true, false]) (pe_callTy c_intB (by rfl) X_.n_int (by decide +kernel) (pa_cons (pe_cmpR o_gt (pv 8) pe_int (nomark _)) pa_nil)) (fun _ _ => rfl)) (pg_sub (pv 7) (pv 10) set_list))
    (pss_one (ps_set (i := 8) nd_ rfl (Or.inl rfl) (pe_ifExp (pt_cmpR o_gt (pv 8) pe_int (nomark _)) (pe_op o_sub (pv 8) pe_int) (pe_op o_add (pv 8) pe_int))))) pss_nil))))
    (pss_one (ps_ret (pe_bm PySem.F.plainAttrs_str PySem.F.slot_str_join PySem.F.type_str_join m_join (pe_strT []) (pa_cons (pv 7) pa_nil)))))))))))
theorem ok__law_good {P : Program} {w : World} {K : PySem.W.Frag} {mg : Str → Option Value} {base : Heap} {A : Ads} (X_ : Txt K mg A) : FnOk P w K mg base CX0 1 A.f__law_good A.d__law_good ["_law_row_here"] (sp__law_good K A.toCA) := by
  have nd_ := sc__law_good.nd
  refine X_.F__law_good.ok sc__law_good (fun vs H Q E h => ln__law_good h) (fun cdv A_ outer s H vs Q E hr h => ⟨rd__law_good K A.toCA, ?_, pu__law_good h⟩)
  exact (pss_cons (ps_set (i := 1) nd_ rfl (Or.inl rfl) pe_int)
    (pss_cons (ps_for PassesOwn.never rfl (pi_str (pv 0)) (pg_name (i := 2) nd_ rfl (Or.inl rfl)) (pss_cons (ps_set (i := 1) nd_ rfl (Or.inl rfl) (pe_ifExp (pt_cmpR op_eq (pv 2) (pe_strT [true]) (nomark _)) (pe_op o_add (pv 1) pe_int) (pe_op o_sub (pv 1) pe_int)))
    (pss_one (ps_if (pt_cmpR o_lt (pv 1) pe_int (nomark _)) (pss_one (ps_ret pe_bl)) pss_nil))))
    (pss_one (ps_ret (pe_cmpR op_eq (pv 1) pe_int (nomark _))))))
theorem ok__law_far {P : Program} {w : World} {K : PySem.W.Frag} {mg : Str → Option Value} {base : Heap} {A : Ads} (X_ : Txt K mg A) : FnOk P w K mg base CX0 1 A.f__law_far A.d__law_far ["_law_one", "_law_other"] (sp__law_far K A.toCA) := by
  have nd_ := sc__law_far.nd
  refine X_.F__law_far.ok sc__law_far (fun vs H Q E h => ln__law_far h) (fun cdv A_ outer s H vs Q E hr h => ⟨rd__law_far K A.toCA, ?_, pu__law_far h⟩)
  exact (pss_one (ps_ret (pe_callB c_len (by rfl) X_.n_len (by decide +kernel) (pa_cons (pe_lc (own := [("_law_at", 2)]) (g := (gName 2)) (tt := (tTest (tOp rNe (tOp aIxT (tVar 0) (tVar 2)) (tOp aIxT (tVar 1) (tVar 2))))) rfl nd_ (pi_range1 rfl X_.n_range (pa_cons (pe_callB c_lenT (by rfl) X_.n_len (by decide +kernel) (pa_cons (pv 0) pa_nil)) pa_nil)) (blkOk_by (own := [("_law_at", 2)]) (N := N__law_far) (sc := defScope s__law_far) (by decide +kernel)) (fun _ _ _ _ _ => (pg_name (i := 2) nd_ rfl (Or.inl rfl))) (fun _ _ _ _ _ => (pts_one (pt_cmpR op_ne (pe_ix x_T (pv 0) (pv 2) (fun _ _ => rfl)) (pe_ix x_T (pv 1) (pv 2) (fun _ _ => rfl)) (nomark _)))) (fun _ _ _ _ _ => (pv 2))) pa_nil))))
theorem ok__law_longer {P : Program} {w : World} {K : PySem.W.Frag} {mg : Str → Option Value} {base : Heap} {A : Ads} (X_ : Txt K mg A) : FnOk P w K mg base CX0 1 A.f__law_longer A.d__law_longer ["_law_rows"] (sp__law_longer K A.toCA) := by
  have nd_ := sc__law_longer.nd
  refine X_.F__law_longer.ok sc__law_longer (fun vs H Q E h => ln__law_longer h) (fun cdv A_ outer s H vs Q E hr h => ⟨rd__law_longer K A.toCA, ?_, pu__law_longer h⟩)
  exact (pss_cons (ps_set (i := 1) nd_ rfl (Or.inl rfl) (pe_lst pa_nil))
    (pss_cons (ps_for PassesOwn.never rfl (pi_list (pv 0)) (pg_name (i := 2) nd_ rfl (Or.inr rfl)) (pss_cons (ps_set (i := 3) nd_ rfl (Or.inr rfl) (pe_op o_sub (pe_bm PySem.F.plainAttrs_str PySem.F.slot_str_count PySem.F.type_str_count m_countT (pv 2) (pa_cons (pe_strT [true]) pa_nil)) (pe_bm PySem.F.plainAttrs_str PySem.F.slot_str_count PySem.F.type_str_count m_countT (pv 2) (pa_cons (pe_strT [false]) pa_nil))))
    (pss_one (ps_expr (pe_bm PySem.F.plainAttrs_list PySem.F.slot_list_extend PySem.F.type_list_extend mt_extend (pv 1) (pa_cons (pe_lc (own := [("_law_more", 4)]) (g := (gName 4)) (tt := (tOr (tTest (tOp aGt (tVar 3) (tC (.int 0)))) (tTest (tOp rEq (tVar 4) (tC (.str (T [true]))))))) rfl nd_ (pi_str (pe_strT [true, false])) (blkOk_by (own := [("_law_more", 4)]) (N := N__law_longer) (sc := defScope s__law_longer) (by decide +kernel)) (fun _ _ _ _ _ => (pg_name (i := 4) nd_ rfl (Or.inl rfl))) (fun _ _ _ _ _ => (pts_one (PW.pt (pw_or (pt_cmpR o_gt (pv 3) pe_int (nomark _)) (pw_or1 (pt_cmpR op_eq (pv 4) (pe_strT [true]) (nomark _))))))) (fun _ _ _ _ _ => (pe_op o_catT (pv 2) (pv 4)))) pa_nil))))))
    (pss_one (ps_ret (pv 1)))))
theorem ok__law_every {P : Program} {w : World} {K : PySem.W.Frag} {mg : Str → Option Value} {base : Heap} {A : Ads} (X_ : Txt K mg A) : FnOk P w K mg base CX0 2 A.f__law_every A.d__law_every ["_law_row_here"] (sp__law_every K A.toCA) := by
  have nd_ := sc__law_every.nd
  refine X_.F__law_every.ok sc__law_every (fun vs H Q E h => ln__law_every h) (fun cdv A_ outer s H vs Q E hr h => ⟨rd__law_every K A.toCA, ?_, pu__law_every h⟩)
  exact (pss_cons (ps_par (i := 3) (j := 4) rfl nd_ rfl rfl (by decide) rfl rfl (pa_cons (pe_lst pa_nil) (pa_cons (pe_lst (pa_cons (pe_strT []) pa_nil)) pa_nil)) (by rfl))
    (pss_cons (ps_for PassesOwn.never rfl (pi_str (pv 0)) (pg_name (i := 1) nd_ rfl (Or.inl rfl)) (pss_one (ps_set (i := 4) nd_ rfl (Or.inl rfl) (pe_call (ok__law_longer X_) (hr.mono (by decide)) rfl X_.g__law_longer X_.F__law_longer.kp X_.b__law_longer .nil pass0 (pa_cons (pv 4) pa_nil)))))
    (pss_cons (ps_setLc (i := 2) (own := [("_law_one", 6)]) (g := (gName 6)) (tt := (tB (tCall (sp__law_good K A.toCA) [] E0 (tCons (tVar 6) tNil)))) rfl nd_ rfl rfl (sw_true rfl rfl rfl (by decide +kernel)) (pi_list (pv 4)) (blkOk_by (own := [("_law_one", 6)]) (N := N__law_every) (sc := defScope s__law_every) (by decide +kernel)) (fun _ _ _ _ _ => (pg_name (i := 6) nd_ rfl (Or.inl rfl))) (fun _ _ _ _ _ => (pts_one (pt_val (pe_call (ok__law_good X_) (hr.mono (by decide)) rfl X_.g__law_good X_.F__law_good.kp X_.b__law_good .nil pass0 (pa_cons (pv 6) pa_nil))))) (fun _ _ _ _ _ => (pv 6)))
    (pss_cons (ps_if (pt_cmpR (op_neD hr.units) (pv 2) (pe_lst pa_nil) (nomark _)) (pss_cons (ps_set (i := 5) nd_ rfl (Or.inr rfl) (pe_callB (cr_min rfl) (by rfl) X_.n_min (by decide +kernel) (pa_cons (pe_lc (own := [("_law_one", 6)]) (g := (gName 6)) (tt := tYes) rfl nd_ (pi_list (pv 2)) (blkOk_by (own := [("_law_one", 6)]) (N := N__law_every) (sc := defScope s__law_every) (by decide +kernel)) (fun _ _ _ _ _ => (pg_name (i := 6) nd_ rfl (Or.inl rfl))) (fun _ _ _ _ _ => pts_nil) (fun _ _ _ _ _ => (pe_call (ok__law_far X_) (hr.mono (by decide)) rfl X_.g__law_far X_.F__law_far.kp X_.b__law_far .nil pass0 (pa_cons (pv 0) (pa_cons (pv 6) pa_nil))))) pa_nil)))
    (pss_one (ps_set (i := 3) nd_ rfl (Or.inl rfl) (pe_callB c_sortedT (by rfl) X_.n_sorted (by decide +kernel) (pa_cons (pe_lc (own := [("_law_one", 6)]) (g := (gName 6)) (tt := (tTest (tOp rEq (tCall (sp__law_far K A.toCA) [] E0 (tCons (tVar 0) (tCons (tVar 6) tNil))) (tVar 5)))) rfl nd_ (pi_list (pv 2)) (blkOk_by (own := [("_law_one", 6)]) (N := N__law_every) (sc := defScope s__law_every) (by decide +kernel)) (fun _ _ _ _ _ => (pg_name (i := 6) nd_ rfl (Or.inl rfl))) (fun _ _ _ _ _ => (pts_one (pt_cmpR op_eq (pe_call (ok__law_far X_) (hr.mono (by decide)) rfl X_.g__law_far X_.F__law_far.kp X_.b__law_far .nil pass0 (pa_cons (pv 0) (pa_cons (pv 6) pa_nil))) (pv 5) (nomark _)))) (fun _ _ _ _ _ => (pv 6))) pa_nil))))) pss_nil)
    (pss_one (ps_ret (pv 3)))))))
theorem ok__law_count {P : Program} {w : World} {K : PySem.W.Frag} {mg : Str → Option Value} {base : Heap} {A : Ads} (X_ : Txt K mg A) : FnOk P w K mg base CX0 1 A.f__law_count A.d__law_count ["_law_row_here"] (sp__law_count K A.toCA) := by
  have nd_ := sc__law_count.nd
  refine X_.F__law_count.ok sc__law_count (fun vs H Q E h => ln__law_count h) (fun cdv A_ outer s H vs Q E hr h => ⟨rd__law_count K A.toCA, ?_, pu__law_count h⟩)
  exact (pss_cons (ps_set (i := 1) nd_ rfl (Or.inr rfl) (pe_dispT (hu_of hr) (pps_cons (pe_tup (pa_cons pe_int (pa_cons pe_int pa_nil))) pe_int pps_nil)))
    (pss_cons (ps_for PassesOwn.never rfl (pi_str (pv 0)) (pg_name (i := 2) nd_ rfl (Or.inl rfl)) (pss_cons (ps_set (i := 4) nd_ rfl (Or.inl rfl) pe_dnewT)
    (pss_cons (ps_lock (ps_for PassesOwn.never rfl (pi_keys (pv 1)) (pg_tup rfl (pgs_cons (pg_name (i := 5) nd_ rfl (Or.inl rfl)) (pgs_cons (pg_name (i := 6) nd_ rfl (Or.inl rfl)) pgs_nil))) (pss_one (ps_for PassesOwn.never rfl (pi_str (pe_strT [true, false])) (pg_name (i := 7) nd_ rfl (Or.inl rfl)) (pss_cons (ps_set (i := 8) nd_ rfl (Or.inl rfl) (pe_op o_add (pv 5) (pe_ifExp (pt_cmpR op_eq (pv 7) (pe_strT [true]) (nomark _)) pe_int (pe_un o_neg pe_int))))
    (pss_one (ps_if (pt_cmpR o_ge (pv 8) pe_int (nomark _)) (pss_cons (ps_set (i := 9) nd_ rfl (Or.inl rfl) (pe_tup (pa_cons (pv 8) (pa_cons (pe_op o_add (pv 6) (pe_callTy c_intB (by rfl) X_.n_int (by decide +kernel) (pa_cons (pe_cmpR op_ne (pv 7) (pv 2) (nomark _)) pa_nil))) pa_nil))))
    (pss_one (ps_dput (hu_of hr) (pv 4) (pv 9) (pe_op o_add (pe_dget2 (hu_of hr) (pv 4) (pv 9) pe_int ⟨rfl, rfl, rfl, rfl⟩) (pe_dget (hu_of hr) (pv 1) (pe_tup (pa_cons (pv 5) (pa_cons (pv 6) pa_nil))) (fun _ _ => rfl))) rfl))) pss_nil)))))))
    (pss_one (ps_set (i := 1) nd_ rfl (Or.inr rfl) (pv 4))))))
    (pss_cons (ps_lock (ps_set (i := 3) nd_ rfl (Or.inl rfl) (pe_callB cr_sortedPO (by rfl) X_.n_sorted (by decide +kernel) (pa_cons (pe_lc (own := [("_law_depth", 5), ("_law_many", 6)]) (g := (gTup K 2 (gCons (gName 5) (gCons (gName 6) gNil)))) (tt := (tTest (tOp rEq (tVar 5) (tC (.int 0))))) rfl nd_ (pi_keys (pv 1)) (blkOk_by (own := [("_law_depth", 5), ("_law_many", 6)]) (N := N__law_count) (sc := defScope s__law_count) (by decide +kernel)) (fun _ _ _ _ _ => (pg_tup rfl (pgs_cons (pg_name (i := 5) nd_ rfl (Or.inl rfl)) (pgs_cons (pg_name (i := 6) nd_ rfl (Or.inl rfl)) pgs_nil)))) (fun _ _ _ _ _ => (pts_one (pt_cmpR op_eq (pv 5) pe_int (nomark _)))) (fun _ _ _ _ _ => (pe_tup (pa_cons (pv 6) (pa_cons (pe_dget (hu_of hr) (pv 1) (pe_tup (pa_cons (pv 5) (pa_cons (pv 6) pa_nil))) (fun _ _ => rfl)) pa_nil))))) pa_nil))))
    (pss_one (ps_ret (pe_ifExp (pt_cmpR (op_neD hr.units) (pv 3) (pe_lst pa_nil) (nomark _)) (pe_ix ix_list (pv 3) pe_int (fun _ _ => rfl)) (pe_tup (pa_cons pe_int (pa_cons pe_int pa_nil)))))))))
theorem ok__law_refused06 {P : Program} {w : World} {K : PySem.W.Frag} {mg : Str → Option Value} {base : Heap} {A : Ads} (X_ : Txt K mg A) : FnOk P w K mg base CX0 10 A.f__law_refused06 A.d__law_refused06 ["_law_row_here", "_law_number_here"] (sp__law_refused06 K A.toCA) := by
  have nd_ := sc__law_refused06.nd
  refine X_.F__law_refused06.ok sc__law_refused06 (fun vs H Q E h => ln__law_refused06 h) (fun cdv A_ outer s H vs Q E hr h => ⟨rd__law_refused06 K A.toCA, ?_, pu__law_refused06 h⟩)
  exact (pss_cons (ps_try_as (i := 2) (tb := fun W => (tDrop (tCallS (sp_by_number K A.toCA) (L2.WE W) (tCons (tVar 0) (tCons (tVar 1) tNil))))) (ts := fun a cls d => tExc K cls d fun D0 => (tRet (tCB (rIsE K D0 a) (tCons (tVar 2) (tCons (tC (.ref A.toCA.c_BadNumber)) tNil))))) (Wout := fun _ _ _ _ => False) rfl rfl nd_ rfl rfl ⟨rfl, by decide, Or.inl X_.g_BracketError⟩ takes0 (fun W pn xe tk _ => (pss_one (ps_expr (by exact (pe_callS (ok_by_number X_) (hr.mono (by decide)) rfl X_.g_by_number X_.F_by_number.kp X_.b_by_number (fun σ => passAt tk σ) (by exact (pa_cons (pv 0) (pa_cons (pv 1) pa_nil)))))))) (fun a oe cls d pn hz hf => pss_exc fun D0 e1 e2 hC => by subst e1; subst e2; exact (pss_one (ps_ret (pe_callB (call_isE hC hz hf) (by rfl) X_.n_isinstance (by decide +kernel) (pa_cons (pv 2) (pa_cons (pe_glob rfl X_.g_BadNumber rfl) pa_nil)))))))
    (pss_one (ps_ret pe_bl)))
theorem ok_law06 {P : Program} {w : World} {K : PySem.W.Frag} {mg : Str → Option Value} {base : Heap} {A : Ads} (X_ : Txt K mg A) : FnOk P w K mg base CX0 11 A.f_law06 A.d_law06 ["_law_script"] (sp_law06 K A.toCA) := by
  have nd_ := sc_law06.nd
  refine X_.F_law06.ok sc_law06 (fun vs H Q E h => ln_law06 h) (fun cdv A_ outer s H vs Q E hr h => ⟨rd_law06 K A.toCA, ?_, pu_law06 h⟩)
  exact (pss_cons (ps_set (i := 1) nd_ rfl (Or.inl rfl) (pe_ifExp (pt_cmpR (op_neD hr.units) (pv 0) (pe_lst pa_nil) (nomark _)) (pe_slice sl_list (pv 0) po_none (po_some pe_int)) (pe_lst (pa_cons pe_int pa_nil))))
    (pss_cons (ps_set (i := 2) nd_ rfl (Or.inl rfl) (pe_callB c_abs (by rfl) X_.n_abs (by decide +kernel) (pa_cons (pe_callB (cr_sum rfl) (by rfl) X_.n_sum (by decide +kernel) (pa_cons (pv 1) pa_nil)) pa_nil)))
    (pss_cons (ps_for PassesOwn.never rfl (pi_list (pe_lst (pa_cons pe_int (pa_cons pe_int pa_nil)))) (pg_name (i := 3) nd_ rfl (Or.inl rfl)) (pss_cons (ps_set (i := 4) nd_ rfl (Or.inr rfl) (pe_call (ok__law_row X_) (hr.mono (by decide)) rfl X_.g__law_row X_.F__law_row.kp X_.b__law_row .nil pass0 (pa_cons (pv 0) (pa_cons (pv 3) (pa_cons pe_int (pa_cons pe_bl pa_nil))))))
    (pss_cons (ps_set (i := 5) nd_ rfl (Or.inl rfl) (pe_call (ok__law_every X_) (hr.mono (by decide)) rfl X_.g__law_every X_.F__law_every.kp X_.b__law_every .nil pass0 (pa_cons (pv 4) pa_nil)))
    (pss_cons (ps_if (PW.pt (pw_or (pt_cmpR op_ne (pe_call (ok_how_many X_) (hr.mono (by decide)) rfl X_.g_how_many X_.F_how_many.kp X_.b_how_many .nil pass0 (pa_cons (pv 4) pa_nil)) (pe_callB c_len (by rfl) X_.n_len (by decide +kernel) (pa_cons (pv 5) pa_nil)) (nomark _)) (pw_or1 (pt_not (pt_val (pe_call (ok__law_refused06 X_) (hr.mono (by decide)) rfl X_.g__law_refused06 X_.F__law_refused06.kp X_.b__law_refused06 .nil pass0 (pa_cons (pv 4) (pa_cons (pe_callB c_len (by rfl) X_.n_len (by decide +kernel) (pa_cons (pv 5) pa_nil)) pa_nil)))))))) (pss_one (ps_ret pe_bl)) pss_nil)
    (pss_cons (ps_if (pt_cmpR (op_neD hr.units) (pe_lc (own := [("_law_at", 11)]) (g := (gName 11)) (tt := tYes) rfl nd_ (pi_range1 rfl X_.n_range (pa_cons (pe_callB c_len (by rfl) X_.n_len (by decide +kernel) (pa_cons (pv 5) pa_nil)) pa_nil)) (blkOk_by (own := [("_law_at", 11)]) (N := N_law06) (sc := defScope s_law06) (by decide +kernel)) (fun _ _ _ _ _ => (pg_name (i := 11) nd_ rfl (Or.inl rfl))) (fun _ _ _ _ _ => pts_nil) (fun _ _ _ _ _ => (pe_call (ok_by_number X_) (hr.mono (by decide)) rfl X_.g_by_number X_.F_by_number.kp X_.b_by_number .nil passL (pa_cons (pv 4) (pa_cons (pv 11) pa_nil))))) (pv 5) (nomark _)) (pss_one (ps_ret pe_bl)) pss_nil)
    (pss_cons (ps_set (i := 4) nd_ rfl (Or.inr rfl) (pe_call (ok__law_row X_) (hr.mono (by decide)) rfl X_.g__law_row X_.F__law_row.kp X_.b__law_row .nil pass0 (pa_cons (pv 0) (pa_cons (pe_op o_add (pv 3) pe_int) (pa_cons (pe_ifExp (pt_cmpR op_eq (pe_op o_mod (pe_op o_div (pv 2) pe_int) pe_int) (pv 3) (nomark _)) pe_int pe_int) (pa_cons pe_bl pa_nil))))))
    (pss_cons (ps_asg (pe_call (ok__law_count X_) (hr.mono (by decide)) rfl X_.g__law_count X_.F__law_count.kp X_.b__law_count .nil pass0 (pa_cons (pv 4) pa_nil)) (pg_tup rfl (pgs_cons (pg_name (i := 7) nd_ rfl (Or.inr rfl)) (pgs_cons (pg_name (i := 8) nd_ rfl (Or.inl rfl)) pgs_nil))))
    (pss_cons (ps_if (PW.pt (pw_or (pt_cmpR op_ne (pe_call (ok_how_many X_) (hr.mono (by decide)) rfl X_.g_how_many X_.F_how_many.kp X_.b_how_many .nil pass0 (pa_cons (pv 4) pa_nil)) (pv 8) (nomark _)) (pw_or1 (pt_val (pe_callB (c_isi "bool") (by rfl) X_.n_isinstance (by decide +kernel) (pa_cons (pe_call (ok_how_many X_) (hr.mono (by decide)) rfl X_.g_how_many X_.F_how_many.kp X_.b_how_many .nil pass0 (pa_cons (pv 4) pa_nil)) (pa_cons (pe_bltn rfl X_.n_bool (by decide +kernel) rfl) pa_nil))))))) (pss_one (ps_ret pe_bl)) pss_nil)
    (pss_one (ps_if (pt_cmpR o_gt (pv 8) pe_int (nomark _)) (pss_cons (ps_if (pt_cmpR op_ne (pe_callB c_len (by rfl) X_.n_len (by decide +kernel) (pa_cons (pe_fld (pe_call (ok_turns X_) (hr.mono (by decide)) rfl X_.g_turns X_.F_turns.kp X_.b_turns .nil pass0 (pa_cons (pv 4) pa_nil)) rfl) pa_nil)) (pv 7) (nomark _)) (pss_one (ps_ret pe_bl)) pss_nil)
    (pss_cons (ps_set (i := 9) nd_ rfl (Or.inl rfl) (pe_sortedSet rfl rfl X_.n_sorted rfl X_.n_set (pe_lst (pa_cons pe_int (pa_cons (pe_op o_sub (pv 8) pe_int) (pa_cons (pe_op o_div (pv 8) pe_int) (pa_cons (pe_op o_mod (pe_callB c_abs (by rfl) X_.n_abs (by decide +kernel) (pa_cons (pe_call (ok__law_number X_) (hr.mono (by decide)) rfl X_.g__law_number X_.F__law_number.kp X_.b__law_number .nil pass0 (pa_cons (pe_ix ix_list (pv 1) pe_int (fun _ _ => rfl)) (pa_cons pe_int (pa_cons (pv 2) pa_nil)))) pa_nil)) (pv 8)) pa_nil)))))))
    (pss_cons (ps_setLc (i := 10) (own := [("_law_number_here", 12)]) (g := (gName 12)) (tt := tYes) rfl nd_ rfl rfl (sw_true rfl rfl rfl (by decide +kernel)) (pi_list (pv 9)) (blkOk_by (own := [("_law_number_here", 12)]) (N := N_law06) (sc := defScope s_law06) (by decide +kernel)) (fun _ _ _ _ _ => (pg_name (i := 12) nd_ rfl (Or.inl rfl))) (fun _ _ _ _ _ => pts_nil) (fun _ _ _ _ _ => (pe_call (ok_by_number X_) (hr.mono (by decide)) rfl X_.g_by_number X_.F_by_number.kp X_.b_by_number .nil passL (pa_cons (pv 4) (pa_cons (pv 12) pa_nil)))))
    (pss_cons (ps_if (pt_cmpR (op_neD hr.units) (pe_sortedSetT rfl rfl X_.n_sorted rfl X_.n_set (pv 10)) (pv 10) (nomark _)) (pss_one (ps_ret pe_bl)) pss_nil)
    (pss_one (ps_if (pt_not (pt_val (pe_callB (c_all rfl) (by rfl) X_.n_all (by decide +kernel) (pa_cons (pe_lc (own := [("_law_one", 13)]) (g := (gName 13)) (tt := tYes) rfl nd_ (pi_list (pv 10)) (blkOk_by (own := [("_law_one", 13)]) (N := N_law06) (sc := defScope s_law06) (by decide +kernel)) (fun _ _ _ _ _ => (pg_name (i := 13) nd_ rfl (Or.inl rfl))) (fun _ _ _ _ _ => pts_nil) (fun _ _ _ _ _ => (pe_and (pe_call (ok__law_good X_) (hr.mono (by decide)) rfl X_.g__law_good X_.F__law_good.kp X_.b__law_good .nil pass0 (pa_cons (pv 13) pa_nil)) (pe_one (pe_cmpR op_eq (pe_call (ok__law_far X_) (hr.mono (by decide)) rfl X_.g__law_far X_.F__law_far.kp X_.b__law_far .nil pass0 (pa_cons (pv 4) (pa_cons (pv 13) pa_nil))) (pv 7) (nomark _)))))) pa_nil)))) (pss_one (ps_ret pe_bl)) pss_nil)))))) pss_nil))))))))))
    (pss_cons (ps_if (pt_cmpR op_eq (pe_op o_mod (pv 2) pe_int) pe_int (nomark _)) (pss_cons (ps_set (i := 6) nd_ rfl (Or.inl rfl) (pe_call (ok_how_many X_) (hr.mono (by decide)) rfl X_.g_how_many X_.F_how_many.kp X_.b_how_many .nil pass0 (pa_cons (pe_op o_repT (pe_strT [false]) pe_int) pa_nil)))
    (pss_one (ps_if (PW.pt (pw_or (pt_cmpR op_ne (pv 6) (pe_ix ix_tup (pe_call (ok__law_count X_) (hr.mono (by decide)) rfl X_.g__law_count X_.F__law_count.kp X_.b__law_count .nil pass0 (pa_cons (pe_op o_repT (pe_strT [false]) pe_int) pa_nil)) pe_int (fun _ _ => rfl)) (nomark _)) (pw_or1 (pt_not (pt_val (pe_call (ok__law_good X_) (hr.mono (by decide)) rfl X_.g__law_good X_.F__law_good.kp X_.b__law_good .nil pass0 (pa_cons (pe_call (ok_by_number X_) (hr.mono (by decide)) rfl X_.g_by_number X_.F_by_number.kp X_.b_by_number .nil passL (pa_cons (pe_op o_repT (pe_strT [false]) pe_int) (pa_cons (pe_op o_sub (pv 6) pe_int) pa_nil))) pa_nil))))))) (pss_one (ps_ret pe_bl)) pss_nil))) pss_nil)
    (pss_cons (ps_if (PW.pt (pw_or (pt_cmpR op_ne (pe_call (ok_how_many X_) (hr.mono (by decide)) rfl X_.g_how_many X_.F_how_many.kp X_.b_how_many .nil pass0 (pa_cons (pe_strT [true, true, true, true]) pa_nil)) pe_int (nomark _)) (pw_or (pt_cmpR op_ne (pe_call (ok_by_number X_) (hr.mono (by decide)) rfl X_.g_by_number X_.F_by_number.kp X_.b_by_number .nil passL (pa_cons (pe_strT [true, true, true, true]) (pa_cons pe_int pa_nil))) (pe_strT [true, true, false, false]) (nomark _)) (pw_or (pt_cmpR op_ne (pe_call (ok_how_many X_) (hr.mono (by decide)) rfl X_.g_how_many X_.F_how_many.kp X_.b_how_many .nil pass0 (pa_cons (pe_strT [true]) pa_nil)) pe_int (nomark _)) (pw_or1 (pt_cmpR op_ne (pe_call (ok_how_many X_) (hr.mono (by decide)) rfl X_.g_how_many X_.F_how_many.kp X_.b_how_many .nil pass0 (pa_cons (pe_strT []) pa_nil)) pe_int (nomark _))))))) (pss_one (ps_ret pe_bl)) pss_nil)
    (pss_one (ps_ret (pe_and (pe_cmpR op_eq (pe_call (ok_by_number X_) (hr.mono (by decide)) rfl X_.g_by_number X_.F_by_number.kp X_.b_by_number .nil passL (pa_cons (pe_strT [true, true, true, true]) (pa_cons pe_int pa_nil))) (pe_strT [true, false, true, false]) (nomark _)) (pe_and (pe_cmpR op_eq (pe_call (ok_how_many X_) (hr.mono (by decide)) rfl X_.g_how_many X_.F_how_many.kp X_.b_how_many .nil pass0 (pa_cons (pe_strT [false, false]) pa_nil)) pe_int (nomark _)) (pe_one (pe_cmpR op_eq (pe_call (ok_by_number X_) (hr.mono (by decide)) rfl X_.g_by_number X_.F_by_number.kp X_.b_by_number .nil passL (pa_cons (pe_strT [false, true]) (pa_cons pe_int pa_nil))) (pe_strT [true, false]) (nomark _))))))))))))
end BM
namespace BM
open PySem L2 Evl
/-- one def, as the top has written it -/
theorem fun_ex {K : PySem.W.Frag} {h : Heap} {mg : Str → Option Value} {x : Str} {st : Stmt} {ps : List Str} {G : Prop} (X : K.In h) (N : h.Ns mainGlobals mg) {f : Addr} {od an : Option Addr} {sl : Array (Option Value)} {oc kV dc pm cd ct : Value}
    (a : PySem.W.nsIn K mainGlobals x = some (some (.ref f))) (l : K.lookup f = some ⟨oc, od, .func (PySem.W.fnOf x x (defArgs st) (defBody st) (defScope st) .none kV dc pm an cd ct), sl⟩) (c : PySem.W.codeIn K cd x = true) (k : PySem.W.keepIn K (.ref f) = true)
    (hb : ∀ (kV doc pm : Value) (an : Option Addr) (cdv ct : Value) (us : List Value), us.length = ps.length → bindArgs (PySem.W.fnOf x x (defArgs st) (defBody st) (defScope st) .none kV doc pm an cdv ct) ⟨us, []⟩ = pure (ps.zip us))
    (go : ∀ fd : FuncData, Fun K x x st f fd → mg x = some (.ref f) → Binds K fd ps [] → G) : G :=
  go _ (fun_mk l c k) (PySem.W.mg_of X N a) ((fun_mk l c k).binds hb)
/-- one method, as the top has written it -/
theorem meth_ex {K : PySem.W.Frag} {h : Heap} {mg : Str → Option Value} {C : Addr} {x qual : Str} {st : Stmt} {ps : List Str} {G : Prop} {cn : Str} (X : K.In h) (gc : mg cn = some (.ref C)) {f : Addr} {od an : Option Addr} {sl : Array (Option Value)} {oc kV dc pm cd ct : Value}
    (a : PySem.W.findIn K (.ref C) x = some (some (.ref f))) (i : PySem.W.isFn K (.ref f) = true) (l : K.lookup f = some ⟨oc, od, .func (PySem.W.fnOf x qual (defArgs st) (defBody st) (defScope st) .none kV dc pm an cd ct), sl⟩) (c : PySem.W.codeIn K cd qual = true) (k : PySem.W.keepIn K (.ref f) = true)
    (hb : ∀ (kV doc pm : Value) (an : Option Addr) (cdv ct : Value) (us : List Value), us.length = ps.length → bindArgs (PySem.W.fnOf x qual (defArgs st) (defBody st) (defScope st) .none kV doc pm an cdv ct) ⟨us, []⟩ = pure (ps.zip us))
    (go : ∀ fd : FuncData, Fun K x qual st f fd → Meth K C x f → Binds K fd ps [] → G) : G :=
  go _ (fun_mk l c k) ⟨a, i, k⟩ ((fun_mk l c k).binds hb)
theorem cls_ex {K : PySem.W.Frag} {h : Heap} {mg : Str → Option Value} {x : Str} {G : Prop} (X : K.In h) (N : h.Ns mainGlobals mg) {c : Addr} (a : PySem.W.nsIn K mainGlobals x = some (some (.ref c))) (go : mg x = some (.ref c) → G) : G := go (PySem.W.mg_of X N a)
theorem cst_ex {K : PySem.W.Frag} {h : Heap} {mg : Str → Option Value} {x : Str} {G : Prop} (n : Int) (X : K.In h) (N : h.Ns mainGlobals mg) {v : Value} (a : PySem.W.nsIn K mainGlobals x = some (some v)) (e : ∃ t, v = .int n t) (go : (∃ t, mg x = some (.int n t)) → G) : G := by
  obtain ⟨t, rfl⟩ := e
  exact go ⟨t, PySem.W.mg_of X N a⟩
/-- the law's promise, as the row wants it -/
def spGoal (K : PySem.W.Frag) : Sp := fun vs H Q _ => ∃ (a : Addr) (ns : List Int), vs = [.ref a] ∧ SqL K H a (ns.map V.int) ∧ ns.length ≤ 63 ∧ ∀ H', Q (.bl true) H'
theorem exm_of {K : PySem.W.Frag} {D c : Addr} {b : Bool} (hb : PySem.W.subIn K (.ref c) (.type "BaseException") = some true) (hc : ClsK K c) (h : PySem.W.subIn K (.ref D) (.ref c) = some b) : PySem.W.exmOne K (.ref D) (.ref c) = some b := by
  unfold PySem.W.exmOne
  rw [hb]
  exact kitCls_of hc h
theorem bnd1 {K : PySem.W.Frag} {x qual y : Str} {st : Stmt} {f : Addr} {fd : FuncData} (F : Fun K x qual st f fd) (hb : ∀ (kV doc pm : Value) (an : Option Addr) (cdv ct : Value) (u : Value), bindArgs (PySem.W.fnOf x qual (defArgs st) (defBody st) (defScope st) .none kV doc pm an cdv ct) ⟨[u], []⟩ = pure [(y, u)]) (s : Shared) (u : Value) : BindsTo s fd ⟨[u], []⟩ [(y, u)] := by
  obtain ⟨oc, od, kV, doc, pm, an, cdv, ct, osl, rfl, lk, hcd⟩ := F.ex
  exact .of_eq (hb kV doc pm an cdv ct u)
end BM
namespace BM
open PySem L2 Evl PyProof.Rows
abbrev adr {mg : Str → Option Value} {x : Str} {a : Addr} (_ : mg x = some (.ref a)) : Addr := a
theorem fin06 {l : PySem.W.OpenLaw} {w : World} {K : PySem.W.Frag} {mg : Str → Option Value} {fa : Addr} {A : Ads} (hfa : mg "law" = some (.ref fa)) (X : Txt K mg A) (hE : Ex06 K A.toCA) :
    ∃ fd : FuncData, (∀ (s : Shared) (u : Value), BindsTo s fd ⟨[u], []⟩ [("_law_script", u)]) ∧ ∀ base : Heap, K.In base → base.Ns mainGlobals mg → FnOk l.prog w K mg base CX0 11 fa fd ["_law_script"] (spGoal K) := by
  have e := hfa.symm.trans X.g_law06
  cases e
  exact ⟨A.d_law06, fun s u => bnd1 X.F_law06 (fun _ _ _ _ _ _ _ => rfl) s u, fun base _ _ => (ok_law06 X).imp fun vs H Q E ⟨a, ns, e, hs, hl, q⟩ => ⟨.bl true, ⟨a, ns, hE, e, hs, hl, rfl⟩, fun H' _ => q H'⟩⟩
end BM
open PySem PySem.W PyProof.Rows
set_option maxRecDepth 100000 in
set_option maxHeartbeats 0 in
theorem PySem.Challenge.cw_bracketmend_k06_whole_counted_holds : PySem.Challenge.rw_bracketmend_k06_whole_counted.Holds := by
  w_on; o_law; k_head; (case hw => w_witness2)
  k_fill
  refine L2.walk_of (l := PySem.Challenge.rw_bracketmend_k06_whole_counted) (n := 63) (k := 11) (x := "_law_script") (CX := fun _ => L2.CX0) (sp := fun w => BM.spGoal _) rfl (by decide) rfl ⟨rfl, by decide, by decide⟩ (fun w h Y => PySem.W.kIn_of Y) ?F (fun _ _ a ns hl _ hS => ⟨a, ns, rfl, hS, hl, fun _ => rfl⟩) fun _ _ _ _ _ z => z
  case F =>
    intro w mg fa h KX G hmg
    refine' BM.cls_ex (x := "BracketError") KX G ?a_BracketError ?go_BracketError
    (case a_BracketError => k_is)
    case' go_BracketError => intro g_BracketError
    refine' BM.cls_ex (x := "BadNumber") KX G ?a_BadNumber ?go_BadNumber
    (case a_BadNumber => k_is)
    case' go_BadNumber => intro g_BadNumber
    refine' BM.cls_ex (x := "Answer") KX G ?a_Answer ?go_Answer
    (case a_Answer => k_is)
    case' go_Answer => intro g_Answer
    refine' BM.cls_ex (x := "Odd") KX G ?a_Odd ?go_Odd
    (case a_Odd => k_is)
    case' go_Odd => intro g_Odd
    refine' BM.cls_ex (x := "Turned") KX G ?a_Turned ?go_Turned
    (case a_Turned => k_is)
    case' go_Turned => intro g_Turned
    refine' BM.fun_ex (x := "is_whole") (st := BM.s_is_whole) (ps := ["thing"]) KX G ?a0 ?l0 ?c0 ?k0 (fun _ _ _ _ _ _ us hl => match us, hl with | [_], _ => rfl) ?go0
    (case a0 => k_is); (case l0 => k_is); (case c0 => k_is); (case k0 => k_is)
    case' go0 => intro d_is_whole F_is_whole g_is_whole b_is_whole
    refine' BM.fun_ex (x := "asked_row") (st := BM.s_asked_row) (ps := ["row"]) KX G ?a1 ?l1 ?c1 ?k1 (fun _ _ _ _ _ _ us hl => match us, hl with | [_], _ => rfl) ?go1
    (case a1 => k_is); (case l1 => k_is); (case c1 => k_is); (case k1 => k_is)
    case' go1 => intro d_asked_row F_asked_row g_asked_row b_asked_row
    refine' BM.fun_ex (x := "deepens") (st := BM.s_deepens) (ps := ["bracket"]) KX G ?a2 ?l2 ?c2 ?k2 (fun _ _ _ _ _ _ us hl => match us, hl with | [_], _ => rfl) ?go2
    (case a2 => k_is); (case l2 => k_is); (case c2 => k_is); (case k2 => k_is)
    case' go2 => intro d_deepens F_deepens g_deepens b_deepens
    refine' BM.fun_ex (x := "depths_of") (st := BM.s_depths_of) (ps := ["row"]) KX G ?a3 ?l3 ?c3 ?k3 (fun _ _ _ _ _ _ us hl => match us, hl with | [_], _ => rfl) ?go3
    (case a3 => k_is); (case l3 => k_is); (case c3 => k_is); (case k3 => k_is)
    case' go3 => intro d_depths_of F_depths_of g_depths_of b_depths_of
    refine' BM.meth_ex KX g_Turned (x := "__init__") (qual := "Turned.__init__") (st := BM.s_t_init) (ps := ["self", "places", "cut"]) ?a4 ?i4 ?l4 ?c4 ?k4 (fun _ _ _ _ _ _ us hl => match us, hl with | [_, _, _], _ => rfl) ?go4
    (case a4 => k_is); (case i4 => k_is); (case l4 => k_is); (case c4 => k_is); (case k4 => k_is)
    case' go4 => intro d_t_init F_t_init m_t_init b_t_init
    refine' BM.fun_ex (x := "turns") (st := BM.s_turns) (ps := ["row"]) KX G ?a5 ?l5 ?c5 ?k5 (fun _ _ _ _ _ _ us hl => match us, hl with | [_], _ => rfl) ?go5
    (case a5 => k_is); (case l5 => k_is); (case c5 => k_is); (case k5 => k_is)
    case' go5 => intro d_turns F_turns g_turns b_turns
    refine' BM.fun_ex (x := "counts_of") (st := BM.s_counts_of) (ps := ["row", "many"]) KX G ?a6 ?l6 ?c6 ?k6 (fun _ _ _ _ _ _ us hl => match us, hl with | [_, _], _ => rfl) ?go6
    (case a6 => k_is); (case l6 => k_is); (case c6 => k_is); (case k6 => k_is)
    case' go6 => intro d_counts_of F_counts_of g_counts_of b_counts_of
    refine' BM.fun_ex (x := "fewest_of") (st := BM.s_fewest_of) (ps := ["row"]) KX G ?a7 ?l7 ?c7 ?k7 (fun _ _ _ _ _ _ us hl => match us, hl with | [_], _ => rfl) ?go7
    (case a7 => k_is); (case l7 => k_is); (case c7 => k_is); (case k7 => k_is)
    case' go7 => intro d_fewest_of F_fewest_of g_fewest_of b_fewest_of
    refine' BM.fun_ex (x := "how_many") (st := BM.s_how_many) (ps := ["row"]) KX G ?a8 ?l8 ?c8 ?k8 (fun _ _ _ _ _ _ us hl => match us, hl with | [_], _ => rfl) ?go8
    (case a8 => k_is); (case l8 => k_is); (case c8 => k_is); (case k8 => k_is)
    case' go8 => intro d_how_many F_how_many g_how_many b_how_many
    refine' BM.fun_ex (x := "by_number") (st := BM.s_by_number) (ps := ["row", "number"]) KX G ?a9 ?l9 ?c9 ?k9 (fun _ _ _ _ _ _ us hl => match us, hl with | [_, _], _ => rfl) ?go9
    (case a9 => k_is); (case l9 => k_is); (case c9 => k_is); (case k9 => k_is)
    case' go9 => intro d_by_number F_by_number g_by_number b_by_number
    refine' BM.fun_ex (x := "_law_number") (st := BM.s__law_number) (ps := ["_law_cell", "_law_at", "_law_whole"]) KX G ?a10 ?l10 ?c10 ?k10 (fun _ _ _ _ _ _ us hl => match us, hl with | [_, _, _], _ => rfl) ?go10
    (case a10 => k_is); (case l10 => k_is); (case c10 => k_is); (case k10 => k_is)
    case' go10 => intro d__law_number F__law_number g__law_number b__law_number
    refine' BM.fun_ex (x := "_law_row") (st := BM.s__law_row) (ps := ["_law_script", "_law_by", "_law_most", "_law_even"]) KX G ?a11 ?l11 ?c11 ?k11 (fun _ _ _ _ _ _ us hl => match us, hl with | [_, _, _, _], _ => rfl) ?go11
    (case a11 => k_is); (case l11 => k_is); (case c11 => k_is); (case k11 => k_is)
    case' go11 => intro d__law_row F__law_row g__law_row b__law_row
    refine' BM.fun_ex (x := "_law_good") (st := BM.s__law_good) (ps := ["_law_row_here"]) KX G ?a12 ?l12 ?c12 ?k12 (fun _ _ _ _ _ _ us hl => match us, hl with | [_], _ => rfl) ?go12
    (case a12 => k_is); (case l12 => k_is); (case c12 => k_is); (case k12 => k_is)
    case' go12 => intro d__law_good F__law_good g__law_good b__law_good
    refine' BM.fun_ex (x := "_law_far") (st := BM.s__law_far) (ps := ["_law_one", "_law_other"]) KX G ?a13 ?l13 ?c13 ?k13 (fun _ _ _ _ _ _ us hl => match us, hl with | [_, _], _ => rfl) ?go13
    (case a13 => k_is); (case l13 => k_is); (case c13 => k_is); (case k13 => k_is)
    case' go13 => intro d__law_far F__law_far g__law_far b__law_far
    refine' BM.fun_ex (x := "_law_every") (st := BM.s__law_every) (ps := ["_law_row_here"]) KX G ?a14 ?l14 ?c14 ?k14 (fun _ _ _ _ _ _ us hl => match us, hl with | [_], _ => rfl) ?go14
    (case a14 => k_is); (case l14 => k_is); (case c14 => k_is); (case k14 => k_is)
    case' go14 => intro d__law_every F__law_every g__law_every b__law_every
    refine' BM.fun_ex (x := "_law_longer") (st := BM.s__law_longer) (ps := ["_law_rows"]) KX G ?a15 ?l15 ?c15 ?k15 (fun _ _ _ _ _ _ us hl => match us, hl with | [_], _ => rfl) ?go15
    (case a15 => k_is); (case l15 => k_is); (case c15 => k_is); (case k15 => k_is)
    case' go15 => intro d__law_longer F__law_longer g__law_longer b__law_longer
    refine' BM.fun_ex (x := "_law_count") (st := BM.s__law_count) (ps := ["_law_row_here"]) KX G ?a16 ?l16 ?c16 ?k16 (fun _ _ _ _ _ _ us hl => match us, hl with | [_], _ => rfl) ?go16
    (case a16 => k_is); (case l16 => k_is); (case c16 => k_is); (case k16 => k_is)
    case' go16 => intro d__law_count F__law_count g__law_count b__law_count
    refine' BM.fun_ex (x := "_law_refused") (st := BM.s__law_refused06) (ps := ["_law_row_here", "_law_number_here"]) KX G ?a17 ?l17 ?c17 ?k17 (fun _ _ _ _ _ _ us hl => match us, hl with | [_, _], _ => rfl) ?go17
    (case a17 => k_is); (case l17 => k_is); (case c17 => k_is); (case k17 => k_is)
    case' go17 => intro d__law_refused06 F__law_refused06 g__law_refused06 b__law_refused06
    refine' BM.fun_ex (x := "law") (st := BM.s_law06) (ps := ["_law_script"]) KX G ?a18 ?l18 ?c18 ?k18 (fun _ _ _ _ _ _ us hl => match us, hl with | [_], _ => rfl) ?go18
    (case a18 => k_is); (case l18 => k_is); (case c18 => k_is); (case k18 => k_is)
    case' go18 => intro d_law06 F_law06 g_law06 b_law06
    refine' BM.cst_ex (x := "LONGEST") 40 KX G ?a_LONGEST ?e_LONGEST ?go_LONGEST
    (case a_LONGEST => k_is); (case e_LONGEST => exact ⟨_, rfl⟩)
    case' go_LONGEST => intro g_LONGEST

    refine' BM.fin06 (A := ⟨⟨_, 0, 0, 0, _, 0, 0, 0, BM.adr g_Answer, BM.adr g_BracketError, _, BM.adr g_BracketError, _, BM.adr g_BracketError, 0⟩, _, d_is_whole, _, d_asked_row, _, d_deepens, _, d_depths_of, _, d_t_init, _, d_turns, _, d_counts_of, _, d_fewest_of, _, d_how_many, _, d_by_number, _, d__law_number, _, d__law_row, _, d__law_good, _, d__law_far, _, d__law_every, _, d__law_longer, _, d__law_count, _, d__law_refused06, _, d_law06⟩) hmg ?X ?E
    case' X => refine' { F_is_whole := F_is_whole, g_is_whole := g_is_whole, b_is_whole := b_is_whole, F_asked_row := F_asked_row, g_asked_row := g_asked_row, b_asked_row := b_asked_row, F_deepens := F_deepens, g_deepens := g_deepens, b_deepens := b_deepens, F_depths_of := F_depths_of, g_depths_of := g_depths_of, b_depths_of := b_depths_of, F_t_init := F_t_init, m_t_init := m_t_init, b_t_init := b_t_init, F_turns := F_turns, g_turns := g_turns, b_turns := b_turns, F_counts_of := F_counts_of, g_counts_of := g_counts_of, b_counts_of := b_counts_of, F_fewest_of := F_fewest_of, g_fewest_of := g_fewest_of, b_fewest_of := b_fewest_of, F_how_many := F_how_many, g_how_many := g_how_many, b_how_many := b_how_many, F_by_number := F_by_number, g_by_number := g_by_number, b_by_number := b_by_number, F__law_number := F__law_number, g__law_number := g__law_number, b__law_number := b__law_number, F__law_row := F__law_row, g__law_row := g__law_row, b__law_row := b__law_row, F__law_good := F__law_good, g__law_good := g__law_good, b__law_good := b__law_good, F__law_far := F__law_far, g__law_far := g__law_far, b__law_far := b__law_far, F__law_every := F__law_every, g__law_every := g__law_every, b__law_every := b__law_every, F__law_longer := F__law_longer, g__law_longer := g__law_longer, b__law_longer := b__law_longer, F__law_count := F__law_count, g__law_count := g__law_count, b__law_count := b__law_count, F__law_refused06 := F__law_refused06, g__law_refused06 := g__law_refused06, b__law_refused06 := b__law_refused06, F_law06 := F_law06, g_law06 := g_law06, b_law06 := b_law06, k_Turned := ⟨?pg_Turned, ?hd_Turned, ?po_Turned, ?sa_Turned⟩, mk_Turned := ⟨?mi_Turned, m_t_init.at_, m_t_init.fn, ?kc_Turned⟩, mk_Odd := ⟨?zm_Odd, ?zi_Odd, ?zt_Odd, ?zk_Odd⟩, n_abs := PySem.W.mg_none_of KX G ?n_abs, n_all := PySem.W.mg_none_of KX G ?n_all, n_bool := PySem.W.mg_none_of KX G ?n_bool, n_enumerate := PySem.W.mg_none_of KX G ?n_enumerate, n_int := PySem.W.mg_none_of KX G ?n_int, n_isinstance := PySem.W.mg_none_of KX G ?n_isinstance, n_len := PySem.W.mg_none_of KX G ?n_len, n_list := PySem.W.mg_none_of KX G ?n_list, n_min := PySem.W.mg_none_of KX G ?n_min, n_range := PySem.W.mg_none_of KX G ?n_range, n_set := PySem.W.mg_none_of KX G ?n_set, n_sorted := PySem.W.mg_none_of KX G ?n_sorted, n_str := PySem.W.mg_none_of KX G ?n_str, n_sum := PySem.W.mg_none_of KX G ?n_sum, g_BadNumber := g_BadNumber, g_BracketError := g_BracketError, g_LONGEST := g_LONGEST, g_Odd := g_Odd, g_Turned := g_Turned, x_BadNumber := ?x_BadNumber, kp_BadNumber := ?kp_BadNumber, bE_BadNumber := ?bE_BadNumber, tE_BadNumber := ?tE_BadNumber }
    (case n_abs => k_is)
    (case n_all => k_is)
    (case n_bool => k_is)
    (case n_enumerate => k_is)
    (case n_int => k_is)
    (case n_isinstance => k_is)
    (case n_len => k_is)
    (case n_list => k_is)
    (case n_min => k_is)
    (case n_range => k_is)
    (case n_set => k_is)
    (case n_sorted => k_is)
    (case n_str => k_is)
    (case n_sum => k_is)
    (case pg_Turned => (try dsimp only); k_is)
    (case hd_Turned => (try dsimp only); k_is)
    (case po_Turned => (try dsimp only); k_is)
    (case sa_Turned => (try dsimp only); k_is)
    (case mi_Turned => (try dsimp only); k_is)
    (case kc_Turned => (try dsimp only); k_is)
    (case zm_Odd => (try dsimp only); k_is)
    (case zi_Odd => (try dsimp only); k_is)
    (case zt_Odd => (try dsimp only); k_is)
    (case zk_Odd => (try dsimp only); k_is)
    (case x_BadNumber => (try dsimp only); k_exc)
    (case kp_BadNumber => (try dsimp only); k_is)
    (case bE_BadNumber => (try dsimp only); k_is)
    (case tE_BadNumber => (try dsimp only); k_is)
    case' E => refine' ⟨⟨⟨⟨?xboc1, ?xboc2, ?xboc3, ?xboc4⟩, ?xboha, ?xbohn, ?xboht, ?xbohm⟩, ⟨⟨⟨?xbtc1, ?xbtc2, ?xbtc3, ?xbtc4⟩, ?xbtha, ?xbthn, ?xbtht, ?xbthm⟩, ?xbtn0, ?xbtn1⟩, BM.kit_yes ⟨?xbq0_1, ?xbq0_2⟩ ?xbq0_3, BM.kit_yes ⟨?xbq1_1, ?xbq1_2⟩ ?xbq1_3, BM.kit_no ⟨?xbq2_1, ?xbq2_2⟩ ?xbq2_3 ?xbq2_4, BM.kit_no ⟨?xbq3_1, ?xbq3_2⟩ ?xbq3_3 ?xbq3_4, BM.kit_no ⟨?xbq4_1, ?xbq4_2⟩ ?xbq4_3 ?xbq4_4, BM.kit_no ⟨?xbq5_1, ?xbq5_2⟩ ?xbq5_3 ?xbq5_4, BM.kit_no ⟨?xbq6_1, ?xbq6_2⟩ ?xbq6_3 ?xbq6_4, BM.kit_no ⟨?xbq7_1, ?xbq7_2⟩ ?xbq7_3 ?xbq7_4, BM.kit_no ⟨?xbq8_1, ?xbq8_2⟩ ?xbq8_3 ?xbq8_4, BM.kit_no ⟨?xbq9_1, ?xbq9_2⟩ ?xbq9_3 ?xbq9_4⟩, ⟨?bnhg, ?bnhk, ?bnhs, ?bnhd, ?bnha, ?bnhn, ?bnht, ?bnhm⟩, BM.exm_of ?bm1 ⟨?bm2, ?bm3⟩ ?bm4⟩
    (case xboc1 => (try dsimp only [BM.adr]); k_is)
    (case xboc2 => (try dsimp only [BM.adr]); k_is)
    (case xboc3 => (try dsimp only [BM.adr]); k_is)
    (case xboc4 => (try dsimp only [BM.adr]); k_is)
    (case xboha => (try dsimp only [BM.adr]); k_is)
    (case xbohn => (try dsimp only [BM.adr]); k_is)
    (case xboht => (try dsimp only [BM.adr]); k_is)
    (case xbohm => (try dsimp only [BM.adr]); k_is)
    (case xbtc1 => (try dsimp only [BM.adr]); k_is)
    (case xbtc2 => (try dsimp only [BM.adr]); k_is)
    (case xbtc3 => (try dsimp only [BM.adr]); k_is)
    (case xbtc4 => (try dsimp only [BM.adr]); k_is)
    (case xbtha => (try dsimp only [BM.adr]); k_is)
    (case xbthn => (try dsimp only [BM.adr]); k_is)
    (case xbtht => (try dsimp only [BM.adr]); k_is)
    (case xbthm => (try dsimp only [BM.adr]); k_is)
    (case xbtn0 => unfold L2.NoAttr; (try dsimp only [BM.adr]); k_is)
    (case xbtn1 => unfold L2.NoAttr; (try dsimp only [BM.adr]); k_is)
    (case xbq0_1 => (try dsimp only [BM.adr]); k_is)
    (case xbq0_2 => (try dsimp only [BM.adr]); k_is)
    (case xbq0_3 => (try dsimp only [BM.adr]); k_is)
    (case xbq1_1 => (try dsimp only [BM.adr]); k_is)
    (case xbq1_2 => (try dsimp only [BM.adr]); k_is)
    (case xbq1_3 => (try dsimp only [BM.adr]); k_is)
    (case xbq2_1 => (try dsimp only [BM.adr]); k_is)
    (case xbq2_2 => (try dsimp only [BM.adr]); k_is)
    (case xbq2_3 => (try dsimp only [BM.adr]); k_is)
    (case xbq2_4 => (try dsimp only [BM.adr]); k_is)
    (case xbq3_1 => (try dsimp only [BM.adr]); k_is)
    (case xbq3_2 => (try dsimp only [BM.adr]); k_is)
    (case xbq3_3 => (try dsimp only [BM.adr]); k_is)
    (case xbq3_4 => (try dsimp only [BM.adr]); k_is)
    (case xbq4_1 => (try dsimp only [BM.adr]); k_is)
    (case xbq4_2 => (try dsimp only [BM.adr]); k_is)
    (case xbq4_3 => (try dsimp only [BM.adr]); k_is)
    (case xbq4_4 => (try dsimp only [BM.adr]); k_is)
    (case xbq5_1 => (try dsimp only [BM.adr]); k_is)
    (case xbq5_2 => (try dsimp only [BM.adr]); k_is)
    (case xbq5_3 => (try dsimp only [BM.adr]); k_is)
    (case xbq5_4 => (try dsimp only [BM.adr]); k_is)
    (case xbq6_1 => (try dsimp only [BM.adr]); k_is)
    (case xbq6_2 => (try dsimp only [BM.adr]); k_is)
    (case xbq6_3 => (try dsimp only [BM.adr]); k_is)
    (case xbq6_4 => (try dsimp only [BM.adr]); k_is)
    (case xbq7_1 => (try dsimp only [BM.adr]); k_is)
    (case xbq7_2 => (try dsimp only [BM.adr]); k_is)
    (case xbq7_3 => (try dsimp only [BM.adr]); k_is)
    (case xbq7_4 => (try dsimp only [BM.adr]); k_is)
    (case xbq8_1 => (try dsimp only [BM.adr]); k_is)
    (case xbq8_2 => (try dsimp only [BM.adr]); k_is)
    (case xbq8_3 => (try dsimp only [BM.adr]); k_is)
    (case xbq8_4 => (try dsimp only [BM.adr]); k_is)
    (case xbq9_1 => (try dsimp only [BM.adr]); k_is)
    (case xbq9_2 => (try dsimp only [BM.adr]); k_is)
    (case xbq9_3 => (try dsimp only [BM.adr]); k_is)
    (case xbq9_4 => (try dsimp only [BM.adr]); k_is)
    (case bnhg => (try dsimp only [BM.adr]); k_is)
    (case bnhk => (try dsimp only [BM.adr]); k_is)
    (case bnhs => (try dsimp only [BM.adr]); k_is)
    (case bnhd => (try dsimp only [BM.adr]); k_is)
    (case bnha => (try dsimp only [BM.adr]); k_is)
    (case bnhn => (try dsimp only [BM.adr]); k_is)
    (case bnht => (try dsimp only [BM.adr]); k_is)
    (case bnhm => (try dsimp only [BM.adr]); k_is)
    (case bm1 => (try dsimp only [BM.adr]); k_is)
    (case bm2 => (try dsimp only [BM.adr]); k_is)
    (case bm3 => (try dsimp only [BM.adr]); k_is)
    (case bm4 => (try dsimp only [BM.adr]); k_is)
