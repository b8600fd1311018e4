import PyProof.Rows.All
import Wide.All
import OpenK.AllK
import Wide.FinOn
import HandS.ForMost
import HandS.Exc
import HandS.ExcOwn
import HandS.ExcInit
import HandS.TryOnly
import HandS.IsInst
import HandS.Property
import HandS.MakeKwOnly
import HandS.Defaults
import HandS.Codes
import HandS.Flow
import HandS.Style
import HandS.Wide
import HandS.WideBits
import HandS.SetKeys
import HandS.SetBool
import HandS.OwnEq
import HandS.Evl
import HandS.Conv
import HandS.FStr
import HandS.StrMore
import HandS.SortInts
import HandS.HeadEnd
import HandS.Head2
import HandS.HeadHook2
import HandS.ExcIs
import HandS.Lambda
import HandS.EndTab
import HandS.FStrTup
import PySem.Challenge.RW_endlist_k50_clashes_by_definition
import HandS.HeadHook4
set_option Elab.async false
set_option linter.all false
set_option maxRecDepth 100000
set_option maxHeartbeats 4000000
/-! ### EL0: walks over any source, loops and comprehensions over a frozen base -/
namespace EL
open PySem PySem.Spec PyProof.Rows L2 Evl
abbrev HSt := L2.St
abbrev vn (n : Nat) : V := .int (n : Int)
abbrev vns (ns : List Nat) : List V := ns.map vn
/-! what an iterator walks: the items xs, as long as F stands -/
def Wk (J : It) (F : Hp) (xs : List V) : Prop := ∀ H1, Ex F H1 → ∀ i : Nat,
  (∀ x, xs[i]? = some x → J.go i H1 ∧ ∀ y H2, J.yld i H1 y H2 → H2 = H1 ∧ y = x) ∧ (xs.length ≤ i → J.stop i H1)
theorem Wk.mono {J : It} {F F' : Hp} {xs : List V} (h : Wk J F xs) (e : Ex F F') : Wk J F' xs := fun H1 e1 => h H1 (e.trans e1)
theorem wk_list {K : PySem.W.Frag} {F : Hp} {a : Addr} {xs : List V} (h : SqL K F a xs) : Wk (Itl K a) F xs := fun H1 e i =>
  ⟨fun x hx => ⟨⟨xs, x, ex_l e h, hx⟩, fun y H2 q => ⟨q.1, Option.some.inj ((q.2 xs (ex_l e h)).symm.trans hx)⟩⟩, fun hl => ⟨xs, ex_l e h, hl⟩⟩
theorem wk_tup {K : PySem.W.Frag} {F : Hp} {a : Addr} {xs : List V} (h : SqT K F a xs) : Wk (Itt K a) F xs := fun H1 e i =>
  ⟨fun x hx => ⟨⟨xs, x, ex_t e h, hx⟩, fun y H2 q => ⟨q.1, Option.some.inj ((q.2 xs (ex_t e h)).symm.trans hx)⟩⟩, fun hl => ⟨xs, ex_t e h, hl⟩⟩
abbrev sgn (c : Nat) : V := .str ⟨#[c]⟩
theorem wk_str {F : Hp} {x : Str} : Wk (Its x) F (x.cps.toList.map sgn) := fun H1 e i => by
  refine ⟨fun y hy => ?_, fun hl => ?_⟩
  · rw [List.getElem?_map] at hy
    cases q : x.cps.toList[i]? with
    | none => rw [q] at hy; cases hy
    | some c =>
      rw [q] at hy
      have hi : i < x.cps.size := by
        have := (List.getElem?_eq_some_iff.mp q).1
        simpa using this
      refine ⟨hi, fun z H2 w => ⟨w.1, ?_⟩⟩
      obtain ⟨c', hc', rfl⟩ := w.2
      have : x.cps.toList[i]? = x.cps[i]? := by simp
      rw [this, hc'] at q
      have := Option.some.inj q
      subst this
      exact Option.some.inj hy
  · show x.cps.size ≤ i
    simpa using hl
theorem wk_rng {F : Hp} {lo : Int} {n : Nat} : Wk (Itr lo n) F ((List.range n).map fun i => V.int (lo + (i : Nat))) := fun H1 e i => by
  refine ⟨fun y hy => ?_, fun hl => ?_⟩
  · rw [List.getElem?_map] at hy
    cases q : (List.range n)[i]? with
    | none => rw [q] at hy; cases hy
    | some c =>
      rw [q] at hy
      obtain ⟨hi, hc⟩ := List.getElem?_eq_some_iff.mp q
      rw [List.length_range] at hi
      rw [List.getElem_range] at hc
      subst hc
      refine ⟨hi, fun z H2 w => ⟨w.1, ?_⟩⟩
      exact w.2.trans (Option.some.inj hy)
  · show n ≤ i
    simpa using hl
/-- the source wi gives an iterator over xs; nothing is made on the way that anyone asks -/
def EvI (wi : TI) (σ : HSt) (F : Hp) (xs : List V) : Prop := ∀ H1, Ex F H1 → ∀ R : It → Hp → Prop, (∀ J H2, Ex H1 H2 → Wk J F xs → R J H2) → wi σ H1 R
/-- .. over a list that is made on the way, at p -/
def EvIN (wi : TI) (σ : HSt) (F : Hp) (xs : List V) : Prop := ∀ H1, Ex F H1 → ∀ R : It → Hp → Prop, (∀ J p H2, H1 p = none → Ex H1 H2 → H2 p = some (.lst xs) → Wk J (upd F p (.lst xs)) xs → R J H2) → wi σ H1 R
section
variable {K : PySem.W.Frag} {σ : HSt} {F H H' : Hp} {ta tb te tl : TE} {t u : TT} {x y z v : V} {xs ys : List V} {a : Addr}
theorem ei_list (h : Ev tl σ F (.ref a)) (hs : SqL K F a xs) : EvI (iList K tl) σ F xs := fun H1 e R q => h H1 e _ fun H2 e2 => ⟨a, rfl, ⟨xs, ex_l (e.trans e2) hs⟩, q _ H2 e2 (wk_list hs)⟩
theorem ei_tup (h : Ev tl σ F (.ref a)) (hs : SqT K F a xs) : EvI (iTup K tl) σ F xs := fun H1 e R q => h H1 e _ fun H2 e2 => ⟨a, rfl, ⟨xs, ex_t (e.trans e2) hs⟩, q _ H2 e2 (wk_tup hs)⟩
theorem ei_str {w : Str} (h : Ev tl σ F (.str w)) : EvI (iStr tl) σ F (w.cps.toList.map sgn) := fun H1 e R q => h H1 e _ fun H2 e2 => ⟨w, rfl, q _ H2 e2 wk_str⟩
theorem ei_rng1 {tA : TA} {n : Int} (h : EvA tA σ F [.int n]) (h0 : -(2 ^ 62) ≤ n) (h1 : n < 2 ^ 62) : EvI (iRng1 tA) σ F ((List.range n.toNat).map fun i => V.int (0 + (i : Nat))) :=
  fun H1 e R q => h H1 e _ fun H2 e2 => ⟨n, rfl, h0, h1, q _ H2 e2 wk_rng⟩
theorem ei_rng1n {tA : TA} {n : Nat} (h : EvA tA σ F [.int (n : Int)]) (h1 : n < 2 ^ 62) : EvI (iRng1 tA) σ F (vns (List.range n)) := fun H1 e R q =>
  ei_rng1 h (by omega) (by omega) H1 e R fun J H2 e2 w => q J H2 e2 (by
    have e : ((List.range ((n : Int)).toNat).map fun i => V.int (0 + (i : Nat))) = vns (List.range n) := by
      rw [Int.toNat_natCast]
      exact List.map_congr_left fun i _ => by rw [Int.zero_add]
    rw [← e]
    exact w)
theorem ei_rng2n {tA : TA} {m n : Nat} (h : EvA tA σ F [.int (m : Int), .int (n : Int)]) (h0 : m < 2 ^ 62) (h1 : n < 2 ^ 62) : EvI (iRng2 tA) σ F (vns ((List.range (n - m)).map (m + ·))) := fun H1 e R q =>
  h H1 e _ fun H2 e2 => ⟨(m : Int), (n : Int), rfl, ⟨by omega, by omega, by omega, by omega⟩, q _ H2 e2 (by
    have e : ((List.range (((n : Int) - (m : Int)).toNat)).map fun i => V.int ((m : Int) + (i : Nat))) = vns ((List.range (n - m)).map (m + ·)) := by
      have e2 : ((n : Int) - (m : Int)).toNat = n - m := by omega
      rw [e2]
      unfold vns
      rw [List.map_map]
      exact List.map_congr_left fun i _ => by show _ = V.int (((m + i : Nat)) : Int); rw [Int.natCast_add]
    rw [← e]
    exact wk_rng)⟩
theorem ein_list (h : EvL tl σ F xs) : EvIN (iList K tl) σ F xs := fun H1 e R q => h H1 e _ fun p H2 hp e2 h2 => ⟨p, rfl, ⟨xs, sq_of h2⟩, q _ p H2 hp e2 h2 (wk_list (sq_of upd_same))⟩
/-! loops -/
variable {D : Ends} {tu tw tz : TS} {g : TG}
theorem for_wk {wi : TI} {J : It} {H1 : Hp} (w : Wk J F xs) (Pv : Nat → HSt → Hp → Prop) (h0 : Pv 0 σ H1) (hE : ∀ i σ' H', Pv i σ' H' → Ex F H')
    (hs : ∀ i x σ' H', xs[i]? = some x → Pv i σ' H' → g x σ' H' fun σ2 H2 => tu { D with nx := Pv (i + 1), ct := Pv (i + 1), bk := D.nx } σ2 H2) (hd : ∀ σ' H', Pv xs.length σ' H' → D.nx σ' H') :
    ∃ W : Nat → Nat → HSt → Hp → Prop, (∃ m, W 0 m σ H1) ∧ ∀ i m σ H, W i m σ H →
      (J.stop i H ∧ D.nx σ H) ∨ (J.go i H ∧ ∃ N : HSt → Hp → Prop, (∀ σ' H', N σ' H' → ∃ m', m' < m ∧ W (i + 1) m' σ' H') ∧ ∀ x H', J.yld i H x H' → g x σ H' fun σ2 H2 => tu { D with nx := N, ct := N, bk := D.nx } σ2 H2) := by
  refine ⟨fun i m σ H => m = xs.length - i ∧ i ≤ xs.length ∧ Pv i σ H, ⟨_, rfl, Nat.zero_le _, h0⟩, ?_⟩
  rintro i m σ H ⟨rfl, hi, p⟩
  obtain ⟨w1, w2⟩ := w H (hE _ _ _ p) i
  by_cases hlt : i < xs.length
  · have hx : xs[i]? = some xs[i] := List.getElem?_eq_getElem hlt
    obtain ⟨w3, w4⟩ := w1 _ hx
    refine .inr ⟨w3, Pv (i + 1), fun σ' H' p' => ⟨_, by omega, rfl, hlt, p'⟩, fun y H' q => ?_⟩
    obtain ⟨rfl, rfl⟩ := w4 y H' q
    exact hs i _ σ _ hx p
  · have e : i = xs.length := by omega
    subst e
    exact .inl ⟨w2 (Nat.le_refl _), hd σ H p⟩
/-- a for over a source that stands -/
theorem z_for {wi : TI} (e : Ex F H) (hi : EvI wi σ F xs) (Pv : Nat → HSt → Hp → Prop) (h0 : ∀ H1, Ex H H1 → Pv 0 σ H1) (hE : ∀ i σ' H', Pv i σ' H' → Ex F H')
    (hs : ∀ i x σ' H', xs[i]? = some x → Pv i σ' H' → g x σ' H' fun σ2 H2 => tu { D with nx := Pv (i + 1), ct := Pv (i + 1), bk := D.nx } σ2 H2) (hd : ∀ σ' H', Pv xs.length σ' H' → D.nx σ' H') : tFor wi g tu D σ H :=
  hi H e _ fun J H1 e1 w => for_wk (wi := wi) w Pv (h0 H1 e1) hE hs hd
/-- .. over a list made on the way -/
theorem z_forN {wi : TI} (e : Ex F H) (hi : EvIN wi σ F xs) (Pv : Addr → Nat → HSt → Hp → Prop) (h0 : ∀ p H1, H p = none → Ex H H1 → H1 p = some (.lst xs) → Pv p 0 σ H1) (hE : ∀ p i σ' H', Pv p i σ' H' → Ex (upd F p (.lst xs)) H')
    (hs : ∀ p i x σ' H', xs[i]? = some x → Pv p i σ' H' → g x σ' H' fun σ2 H2 => tu { D with nx := Pv p (i + 1), ct := Pv p (i + 1), bk := D.nx } σ2 H2) (hd : ∀ p σ' H', Pv p xs.length σ' H' → D.nx σ' H') : tFor wi g tu D σ H :=
  hi H e _ fun J p H1 hp e1 h1 w => for_wk (wi := wi) w (Pv p) (h0 p H1 hp e1 h1) (hE p) (hs p) (hd p)
theorem zs_for {wi : TI} (e : Ex F H) (hi : EvI wi σ F xs) (Pv : Nat → HSt → Hp → Prop) (h0 : ∀ H1, Ex H H1 → Pv 0 σ H1) (hE : ∀ i σ' H', Pv i σ' H' → Ex F H')
    (hs : ∀ i x σ' H', xs[i]? = some x → Pv i σ' H' → g x σ' H' fun σ2 H2 => tu { D with nx := Pv (i + 1), ct := Pv (i + 1), bk := tz D } σ2 H2) (hd : ∀ σ' H', Pv xs.length σ' H' → tz D σ' H') : tSeq (tFor wi g tu) tz D σ H :=
  z_for (D := { D with nx := tz D }) e hi Pv h0 hE hs hd
theorem zs_forN {wi : TI} (e : Ex F H) (hi : EvIN wi σ F xs) (Pv : Addr → Nat → HSt → Hp → Prop) (h0 : ∀ p H1, H p = none → Ex H H1 → H1 p = some (.lst xs) → Pv p 0 σ H1) (hE : ∀ p i σ' H', Pv p i σ' H' → Ex (upd F p (.lst xs)) H')
    (hs : ∀ p i x σ' H', xs[i]? = some x → Pv p i σ' H' → g x σ' H' fun σ2 H2 => tu { D with nx := Pv p (i + 1), ct := Pv p (i + 1), bk := tz D } σ2 H2) (hd : ∀ p σ' H', Pv p xs.length σ' H' → tz D σ' H') : tSeq (tFor wi g tu) tz D σ H :=
  z_forN (D := { D with nx := tz D }) e hi Pv h0 hE hs hd
/-! comprehensions -/
theorem lc_wk {J : It} {H1 : Hp} {D : Addr} {vs : List Nat} {Qd : Hp → Prop} (w : Wk J F xs) (Pv : Nat → Hp → Prop) (h0 : Pv 0 (upd H1 D (.lst []))) (hE : ∀ i H', Pv i H' → Ex F H')
    (hs : ∀ i x H', xs[i]? = some x → Pv i H' → g x (wipe σ vs) H' fun σ2 H2 => wipe σ2 vs = wipe σ vs ∧ t σ2 H2 fun b H3 =>
      if b = true then te σ2 H3 fun y H4 => ∃ acc, H4 D = some (.lst acc) ∧ acc.length < sizeLine ∧ Pv (i + 1) (upd H4 D (.lst (acc ++ [y]))) else Pv (i + 1) H3) (hd : ∀ H', Pv xs.length H' → Qd H') :
    ∃ W : Nat → Nat → Hp → Prop, (∃ m, W 0 m (upd H1 D (.lst []))) ∧ ∀ i m H, W i m H →
      (J.stop i H ∧ Qd H) ∨ (J.go i H ∧ ∃ Nx : Hp → Prop, (∀ H', Nx H' → ∃ m', m' < m ∧ W (i + 1) m' H') ∧ ∀ x H', J.yld i H x H' → g x (wipe σ vs) H' fun σ2 H2 => wipe σ2 vs = wipe σ vs ∧ t σ2 H2 fun b H3 =>
        if b = true then te σ2 H3 fun y H4 => ∃ acc, H4 D = some (.lst acc) ∧ acc.length < sizeLine ∧ Nx (upd H4 D (.lst (acc ++ [y]))) else Nx H3) := by
  refine ⟨fun i m H => m = xs.length - i ∧ i ≤ xs.length ∧ Pv i H, ⟨_, rfl, Nat.zero_le _, h0⟩, ?_⟩
  rintro i m H ⟨rfl, hi, p⟩
  obtain ⟨w1, w2⟩ := w H (hE _ _ p) i
  by_cases hlt : i < xs.length
  · have hx : xs[i]? = some xs[i] := List.getElem?_eq_getElem hlt
    obtain ⟨w3, w4⟩ := w1 _ hx
    refine .inr ⟨w3, Pv (i + 1), fun H' p' => ⟨_, by omega, rfl, hlt, p'⟩, fun y H' q => ?_⟩
    obtain ⟨rfl, rfl⟩ := w4 y H' q
    exact hs i _ _ hx p
  · have e : i = xs.length := by omega
    subst e
    exact .inl ⟨w2 (Nat.le_refl _), hd H p⟩
/-- a comprehension whose parts only make things: item by item, xs the values of zs -/
theorem el_comp {α : Type} {wi : TI} {j : Nat} {vs : List Nat} (zs : List α) (inj : α → V) (p : α → Bool) (out : α → V) (hi : EvI wi σ F (zs.map inj)) (hz : zs.length ≤ 100000) (hw : ∀ x, wipe ((wipe σ vs).set j (some x)) vs = wipe σ vs)
    (ht : ∀ z ∈ zs, ∀ F1, Ex F F1 → EvT t ((wipe σ vs).set j (some (inj z))) F1 (p z)) (he : ∀ z ∈ zs, ∀ F1, Ex F F1 → p z = true → Ev te ((wipe σ vs).set j (some (inj z))) F1 (out z)) :
    EvL (tLc wi (gName j) t te vs) σ F ((zs.filter p).map out) := fun H0 e Q q => hi H0 e _ fun J H1 e1 w Dl hD =>
  lc_wk w (fun i H' => Ex H1 H' ∧ H' Dl = some (.lst (((zs.take i).filter p).map out))) ⟨Ex.new hD, upd_same⟩ (fun i H' p => (e.trans e1).trans p.1)
    (fun i x H' hx ⟨p1, p2⟩ => by
      rw [List.getElem?_map] at hx
      cases hz' : zs[i]? with
      | none => rw [hz'] at hx; cases hx
      | some z =>
        rw [hz'] at hx
        have hx' : inj z = x := Option.some.inj hx
        subst hx'
        obtain ⟨hlt, hzi⟩ := List.getElem?_eq_some_iff.mp hz'
        have hmem : z ∈ zs := by rw [← hzi]; exact List.getElem_mem hlt
        have htk : zs.take (i + 1) = zs.take i ++ [z] := by rw [List.take_add_one, hz'] <;> rfl
        have hlen : (((zs.take i).filter p).map out).length < sizeLine := by
          rw [List.length_map]
          have h1 := List.length_filter_le p (zs.take i)
          rw [List.length_take] at h1
          exact sz_lt (by omega)
        refine ⟨hw _, ht z hmem H1 (e.trans e1) H' p1 _ fun H3 e3 => ?_⟩
        cases hp : p z with
        | true =>
          show te _ H3 _
          refine he z hmem H1 (e.trans e1) hp H3 (p1.trans e3) _ fun H4 e4 => ⟨_, e4 _ _ (e3 _ _ p2), hlen, ?_, ?_⟩
          · refine Ex.mut ((p1.trans e3).trans e4) ?_
            exact hD
          · rw [htk, List.filter_append, List.map_append, List.filter_cons, if_pos hp]
            exact upd_same
        | false =>
          show _ ∧ _
          refine ⟨p1.trans e3, ?_⟩
          rw [htk, List.filter_append, List.map_append, List.filter_cons, if_neg (by rw [hp]; decide)]
          show H3 Dl = some (.lst (_ ++ []))
          rw [List.append_nil]
          exact e3 _ _ p2)
    (fun H' ⟨p1, p2⟩ => q Dl H' (fresh_back e1 hD) (e1.trans p1) (by
      rw [List.length_map, List.take_length] at p2
      exact p2))
theorem et_yes : EvT tYes σ F true := fun H1 _ _ q => q H1 (Ex.refl H1)
theorem el_map {α : Type} {wi : TI} {j : Nat} {vs : List Nat} (zs : List α) (inj : α → V) (out : α → V) (hi : EvI wi σ F (zs.map inj)) (hz : zs.length ≤ 100000) (hw : ∀ x, wipe ((wipe σ vs).set j (some x)) vs = wipe σ vs)
    (he : ∀ z ∈ zs, ∀ F1, Ex F F1 → Ev te ((wipe σ vs).set j (some (inj z))) F1 (out z)) : EvL (tLc wi (gName j) tYes te vs) σ F (zs.map out) := by
  have h := el_comp (t := tYes) (te := te) (j := j) (vs := vs) zs inj (fun _ => true) out hi hz hw (fun _ _ _ _ => et_yes) (fun z hm F1 e1 _ => he z hm F1 e1)
  rw [List.filter_eq_self.mpr (fun _ _ => rfl)] at h
  exact h
/-! the statements again, over a base -/
theorem z_asg {i : Nat} (e : Ex F H) (h : Ev te σ F v) (k : ∀ H1, Ex H H1 → D.nx (σ.set i (some v)) H1) : tAsg te (gName i) D σ H := h H e _ fun H1 e1 => k H1 e1
theorem z_asgL {i : Nat} (e : Ex F H) (h : EvL te σ F xs) (k : ∀ p H1, H p = none → Ex H H1 → H1 p = some (.lst xs) → D.nx (σ.set i (some (.ref p))) H1) : tAsg te (gName i) D σ H := h H e _ fun p H1 hp e1 h1 => k p H1 hp e1 h1
theorem z_asgU {i : Nat} (e : Ex F H) (h : EvU te σ F xs) (k : ∀ p H1, H p = none → Ex H H1 → H1 p = some (.tup xs) → D.nx (σ.set i (some (.ref p))) H1) : tAsg te (gName i) D σ H := h H e _ fun p H1 hp e1 h1 => k p H1 hp e1 h1
theorem z_ret (e : Ex F H) (h : Ev te σ F v) (k : ∀ H1, Ex H H1 → D.rt v H1) : tRet te D σ H := h H e _ k
theorem z_retL (e : Ex F H) (h : EvL te σ F xs) (k : ∀ p H1, H p = none → Ex H H1 → H1 p = some (.lst xs) → D.rt (.ref p) H1) : tRet te D σ H := h H e _ k
theorem z_retU (e : Ex F H) (h : EvU te σ F xs) (k : ∀ p H1, H p = none → Ex H H1 → H1 p = some (.tup xs) → D.rt (.ref p) H1) : tRet te D σ H := h H e _ k
theorem z_if {b : Bool} (e : Ex F H) (h : EvT t σ F b) (h1 : b = true → ∀ H1, Ex H H1 → tu D σ H1) (h2 : b = false → ∀ H1, Ex H H1 → tw D σ H1) : tIfS t tu tw D σ H := h H e _ fun H1 e1 => by
  cases b with
  | true => exact h1 rfl H1 e1
  | false => exact h2 rfl H1 e1
theorem zq_asg {i : Nat} (e : Ex F H) (h : Ev te σ F v) (k : ∀ H1, Ex H H1 → tz D (σ.set i (some v)) H1) : tSeq (tAsg te (gName i)) tz D σ H := z_asg (D := { D with nx := tz D }) e h k
theorem zq_asgL {i : Nat} (e : Ex F H) (h : EvL te σ F xs) (k : ∀ p H1, H p = none → Ex H H1 → H1 p = some (.lst xs) → tz D (σ.set i (some (.ref p))) H1) : tSeq (tAsg te (gName i)) tz D σ H := z_asgL (D := { D with nx := tz D }) e h k
theorem zq_asgU {i : Nat} (e : Ex F H) (h : EvU te σ F xs) (k : ∀ p H1, H p = none → Ex H H1 → H1 p = some (.tup xs) → tz D (σ.set i (some (.ref p))) H1) : tSeq (tAsg te (gName i)) tz D σ H := z_asgU (D := { D with nx := tz D }) e h k
theorem zq_if {b : Bool} (e : Ex F H) (h : EvT t σ F b) (h1 : b = true → ∀ H1, Ex H H1 → tu { D with nx := tz D } σ H1) (h2 : b = false → ∀ H1, Ex H H1 → tw { D with nx := tz D } σ H1) : tSeq (tIfS t tu tw) tz D σ H := z_if (D := { D with nx := tz D }) e h h1 h2
/-- an if without else -/
theorem zq_when {b : Bool} (e : Ex F H) (h : EvT t σ F b) (h1 : b = true → ∀ H1, Ex H H1 → tu { D with nx := tz D } σ H1) (h2 : b = false → ∀ H1, Ex H H1 → tz D σ H1) : tSeq (tIfS t tu tNext) tz D σ H := z_if (D := { D with nx := tz D }) e h h1 h2
/-- .. whose test is known to fail (a raise that is never reached) -/
theorem zq_not (e : Ex F H) (h : EvT t σ F false) (k : ∀ H1, Ex H H1 → tz D σ H1) : tSeq (tIfS t tu tNext) tz D σ H := zq_when e h (fun q => nomatch q) (fun _ => k)
theorem z_not (e : Ex F H) (h : EvT t σ F false) (k : ∀ H1, Ex H H1 → D.nx σ H1) : tIfS t tu tNext D σ H := z_if e h (fun q => nomatch q) (fun _ => k)
theorem zq_drop (e : Ex F H) (h : Ev te σ F v) (k : ∀ H1, Ex H H1 → tz D σ H1) : tSeq (tDrop te) tz D σ H := h H e _ fun H1 e1 => k H1 e1
end
end EL
set_option maxHeartbeats 4000000
/-! ### EL1: facts of the module, value rules for numbers that are not negative, the call of a def -/
namespace EL
open PySem PySem.Spec PyProof.Rows L2 Evl
/-! facts of the module -/
def GI (mg : Str → Option Value) (x : Str) (n : Nat) : Prop := ∃ t, mg x = some (.int (n : Int) t)
def GS (mg : Str → Option Value) (x : Str) (z : Str) : Prop := ∃ t, mg x = some (.str z t)
structure GTu (K : PySem.W.Frag) (mg : Str → Option Value) (x : Str) (a : Addr) (vs : List V) : Prop where
  mgx : mg x = some (.ref a)
  tup : ∀ H, SqT K H a vs
structure GKl (K : PySem.W.Frag) (mg : Str → Option Value) (x : Str) (C : Addr) : Prop where
  mgx : mg x = some (.ref C)
/-- a def of the text, of no defaults, under its name -/
structure Dfn (K : PySem.W.Frag) (mg : Str → Option Value) (x : Str) (st : Stmt) : Prop where
  ex : ∃ (f : Addr) (fd : FuncData), FunD K x x (defArgs st) (defBody st) (defScope st) [] [] f fd ∧ mg x = some (.ref f)
/-- a method of the class at C: of no defaults -/
structure Mth (K : PySem.W.Frag) (C : Addr) (m qual : Str) (st : Stmt) : Prop where
  ex : ∃ (f : Addr) (fd : FuncData), FunD K m qual (defArgs st) (defBody st) (defScope st) [] [] f fd ∧ Meth K C m f
section
variable {X : Cx} {x : Str} {pos : Pos}
theorem pe_n (n : Nat) {i : Int} {j} (h : i = (n : Int) := by rfl) : PE X (.Constant (.int i) j pos) (tC (vn n)) := h ▸ pe_int
theorem pe_gi {n : Nat} (h : GI X.mg x n) (hg : Gl X x := by rfl) (hd : (x == ("__debug__" : Str)) = false := by decide) : PE X (.Name x pos) (tC (vn n)) := by
  obtain ⟨t, e⟩ := h
  exact pe_glob hg e ⟨t, rfl⟩ hd
theorem pe_gs {z : Str} (h : GS X.mg x z) (hg : Gl X x := by rfl) (hd : (x == ("__debug__" : Str)) = false := by decide) : PE X (.Name x pos) (tC (.str z)) := by
  obtain ⟨t, e⟩ := h
  exact pe_glob hg e ⟨t, rfl⟩ hd
theorem pe_gt {a : Addr} {vs : List V} (h : GTu X.K X.mg x a vs) (hg : Gl X x := by rfl) (hd : (x == ("__debug__" : Str)) = false := by decide) : PE X (.Name x pos) (tC (.ref a)) := pe_glob hg h.mgx rfl hd
theorem pe_gk {C : Addr} (h : GKl X.K X.mg x C) (hg : Gl X x := by rfl) (hd : (x == ("__debug__" : Str)) = false := by decide) : PE X (.Name x pos) (tC (.ref C)) := pe_glob hg h.mgx rfl hd
end
theorem hu64 {A : Around} {k : Nat} (hr : Room k A) : A.units + 64 < cLine := by have := hr.un; omega
/-! the call of a def -/
section
variable {P : Program} {w : World} {K : PySem.W.Frag} {mg : Str → Option Value} {base : Heap}
theorem cal_of {x : Str} {st : Stmt} {N ps : List Str} {k : Nat} {sp : Sp} (D : Dfn K mg x st) (S : FnScope N ps (defScope st))
    (hb : ∀ (kV doc pm : Value) (an : Option Addr) (cdv ct : Value) (us : List Value), us.length = ps.length → bindArgs (PySem.W.fnOf x x (defArgs st) (defBody st) (defScope st) .none kV doc pm an cdv ct) ⟨us, []⟩ = pure (ps.zip us))
    (len : ∀ vs H Q E, sp vs H Q E → vs.length = ps.length)
    (hbody : ∀ (f : Addr) (cdv : Value) (A : Around) (outer : List Env) (s : Shared) (H : Hp) (vs : List V) (Q : VK) (E : XK), Room k (A.deeper (envOfC x (defScope st) s.heap.objs.size f cdv)) → sp vs H Q E →
      ∃ t, PSs (cxOf C8.CX0 P w K mg base N x (defScope st) f cdv A outer s H E).nox (defBody st) t ∧ t { nx := fun _ H' => Q .non H', rt := Q } (start N vs) H) : C8.Cal P w K mg base (k + 1) x sp [] := by
  obtain ⟨f, fd, F, hm⟩ := D.ex
  refine ⟨f, fd, ps, [], F.ok S len (fun cdv A outer s H vs Q E hr hsp => ?_), hm, F.kp, F.bindsN hb, .nil⟩
  obtain ⟨t, h, q⟩ := hbody f cdv A outer s H vs Q E hr hsp
  exact ⟨t, h.nox, q⟩
theorem met_of {m qual : Str} {C : Addr} {st : Stmt} {N ps : List Str} {k : Nat} {sp : Sp} (c : Cls K C) (D : Mth K C m qual st) (S : FnScope N ps (defScope st))
    (hb : ∀ (kV doc pm : Value) (an : Option Addr) (cdv ct : Value) (us : List Value), us.length = ps.length → bindArgs (PySem.W.fnOf m qual (defArgs st) (defBody st) (defScope st) .none kV doc pm an cdv ct) ⟨us, []⟩ = pure (ps.zip us))
    (len : ∀ vs H Q E, sp vs H Q E → vs.length = ps.length)
    (hbody : ∀ (f : Addr) (cdv : Value) (A : Around) (outer : List Env) (s : Shared) (H : Hp) (vs : List V) (Q : VK) (E : XK), Room k (A.deeper (envOfC qual (defScope st) s.heap.objs.size f cdv)) → sp vs H Q E →
      ∃ t, PSs (cxOf C8.CX0 P w K mg base N qual (defScope st) f cdv A outer s H E).nox (defBody st) t ∧ t { nx := fun _ H' => Q .non H', rt := Q } (start N vs) H) : C8.Met P w K mg base (k + 1) C m sp [] := by
  obtain ⟨f, fd, F, hm⟩ := D.ex
  refine ⟨f, fd, ps, [], c, hm, F.ok S len (fun cdv A outer s H vs Q E hr hsp => ?_), F.bindsN hb, .nil⟩
  obtain ⟨t, h, q⟩ := hbody f cdv A outer s H vs Q E hr hsp
  exact ⟨t, h.nox, q⟩
end
/-! value rules -/
section
variable {K : PySem.W.Frag} {σ : HSt} {F H H' : Hp} {ta tb tc te tl : TE} {t u : TT} {x y z v : V} {xs ys : List V} {a : Addr} {m n : Nat} {r r' : R2}
theorem RV.is {w : V} (h : RV r x y H z) (e : z = w) : RV r x y H w := e ▸ h
theorem rvn_add : RV (rI0 fun i j => .int (i + j)) (vn m) (vn n) F (vn (m + n)) := RV.is rv_I0 (congrArg V.int (Int.natCast_add m n).symm)
theorem rvn_sub (h : n ≤ m) : RV (rI0 fun i j => .int (i - j)) (vn m) (vn n) F (vn (m - n)) := RV.is rv_I0 (congrArg V.int (Int.ofNat_sub h).symm)
theorem rvn_mul (h : m < 2 ^ 64) : RV (rI CMul fun i j => .int (i * j)) (vn m) (vn n) F (vn (m * n)) := RV.is (rv_I (.inl ⟨by omega, by omega⟩)) (congrArg V.int (Int.natCast_mul m n).symm)
theorem rvn_mod (h : 0 < n) : RV (rI (fun _ j => 0 < j) fun i j => .int (i % j)) (vn m) (vn n) F (vn (m % n)) := RV.is (rv_I (by omega)) (congrArg V.int (Int.natCast_emod m n).symm)
theorem rvn_div (h : 0 < n ∧ n < 1073741824) : RV (rI CDiv fun i j => .int (i / j)) (vn m) (vn n) F (vn (m / n)) := RV.is (rv_I ⟨by omega, by omega⟩) (congrArg V.int (Int.natCast_ediv m n).symm)
theorem rvn_shr : RV (rI (fun _ j => 0 ≤ j) fun i j => .int (i / 2 ^ j.toNat)) (vn m) (vn n) F (vn (m >>> n)) := RV.is (rv_I (by omega)) (congrArg V.int (by
  rw [Int.toNat_natCast, Nat.shiftRight_eq_div_pow, Int.natCast_ediv, Int.natCast_pow] <;> rfl))
theorem rvn_and : RV (rI0 fun i j => .int (Builtin.bitAnd i j)) (vn m) (vn n) F (vn (m &&& n)) := RV.is rv_I0 (congrArg V.int (by rw [bitAnd_pp (by omega) (by omega), Int.toNat_natCast, Int.toNat_natCast]))
theorem rvn_xor : RV (rI0 fun i j => .int (Builtin.bitXor i j)) (vn m) (vn n) F (vn (m ^^^ n)) := RV.is rv_I0 (congrArg V.int (by rw [Bits.bitXor_pp (by omega) (by omega), Int.toNat_natCast, Int.toNat_natCast]))
theorem rvn_lt : RV (rI0 fun i j => .bl (decide (i < j))) (vn m) (vn n) F (.bl (decide (m < n))) := RV.is rv_I0 (by simp only [Int.ofNat_lt])
theorem rvn_le : RV (rI0 fun i j => .bl (decide (i ≤ j))) (vn m) (vn n) F (.bl (decide (m ≤ n))) := RV.is rv_I0 (by simp only [Int.ofNat_le])
theorem rvn_gt : RV (rI0 fun i j => .bl (decide (j < i))) (vn m) (vn n) F (.bl (decide (n < m))) := RV.is rv_I0 (by simp only [Int.ofNat_lt])
theorem rvn_ge : RV (rI0 fun i j => .bl (decide (j ≤ i))) (vn m) (vn n) F (.bl (decide (n ≤ m))) := RV.is rv_I0 (by simp only [Int.ofNat_le])
theorem vn_inj : (vn m = vn n) = (m = n) := propext ⟨fun h => by injection h with h; omega, fun h => by rw [h]⟩
theorem rvn_eq : RV rEq (vn m) (vn n) F (.bl (decide (m = n))) := RV.is (rv_eq rfl) (by simp only [vn_inj])
theorem rvn_ne : RV rNe (vn m) (vn n) F (.bl (!decide (m = n))) := RV.is (rv_ne rfl) (by simp only [vn_inj])
theorem rv_isN : RV (fun x y H Q => y = .non ∧ Q (.bl (decide (x = .non))) H) x .non F (.bl (decide (x = .non))) := rv_val fun _ _ _ q => ⟨rfl, q⟩
theorem rv_notN : RV (fun x y H Q => y = .non ∧ Q (.bl (!decide (x = .non))) H) x .non F (.bl (!decide (x = .non))) := rv_val fun _ _ _ q => ⟨rfl, q⟩
theorem ev_chain {b1 b2 : Bool} (ha : Ev ta σ F x) (hb : Ev tb σ F y) (hr : RV r x y F (.bl b1)) (hc : Ev tc σ F z) (hr' : RV r' y z F (.bl b2)) : Ev (tChain r r' ta tb tc) σ F (.bl (b1 && b2)) := fun H1 e Q q =>
  ha H1 e _ fun H2 e2 => hb H2 (e.trans e2) _ fun H3 e3 => hr H3 ((e.trans e2).trans e3) _ fun H4 e4 => ⟨b1, rfl, by
    cases b1 with
    | true => exact hc H4 (((e.trans e2).trans e3).trans e4) _ fun H5 e5 => hr' H5 ((((e.trans e2).trans e3).trans e4).trans e5) _ fun H6 e6 => q H6 ((((e2.trans e3).trans e4).trans e5).trans e6)
    | false => exact q H4 ((e2.trans e3).trans e4)⟩
theorem ev_all {bs : List Bool} (h : EvL ta σ F (bs.map V.bl)) : Ev (tCB (rAll K) (tCons ta tNil)) σ F (.bl (bs.all id)) := fun H1 e Q q =>
  h H1 e _ fun p H2 hp e2 h2 => ⟨p, bs, rfl, sq_of h2, q H2 e2⟩
theorem ev_any {bs : List Bool} (h : EvL ta σ F (bs.map V.bl)) : Ev (tCB (rAny K) (tCons ta tNil)) σ F (.bl (bs.any id)) := fun H1 e Q q =>
  h H1 e _ fun p H2 hp e2 h2 => ⟨p, bs, rfl, sq_of h2, q H2 e2⟩
/-- all of a mapped comprehension -/
theorem ev_allm {α : Type} {zs : List α} {f : α → Bool} (h : EvL ta σ F (zs.map fun z => V.bl (f z))) : Ev (tCB (rAll K) (tCons ta tNil)) σ F (.bl (zs.all f)) := by
  have e : (zs.map fun z => V.bl (f z)) = (zs.map f).map V.bl := by rw [List.map_map] <;> rfl
  rw [e] at h
  have q := ev_all (K := K) h
  rw [List.all_map] at q
  exact q
theorem ev_anym {α : Type} {zs : List α} {f : α → Bool} (h : EvL ta σ F (zs.map fun z => V.bl (f z))) : Ev (tCB (rAny K) (tCons ta tNil)) σ F (.bl (zs.any f)) := by
  have e : (zs.map fun z => V.bl (f z)) = (zs.map f).map V.bl := by rw [List.map_map] <;> rfl
  rw [e] at h
  have q := ev_any (K := K) h
  rw [List.any_map] at q
  exact q
theorem ev_ord {c : Nat} (h : Ev ta σ F (sgn c)) : Ev (tCB (fun xs H Q => ∃ x : Str, xs = [.str x] ∧ x.length = 1 ∧ Q (.int (x.cps.getD 0 0 : Nat)) H) (tCons ta tNil)) σ F (vn c) := fun H1 e Q q => h H1 e _ fun H2 e2 => ⟨_, rfl, rfl, q H2 e2⟩
def b2n : Bool → Nat
  | true => 1
  | false => 0
theorem ev_intb {b : Bool} (h : Ev ta σ F (.bl b)) : Ev (tCB (fun xs H Q => (∃ i, xs = [.int i] ∧ Q (.int i) H) ∨ ∃ k, xs = [.bl k] ∧ Q (.int (if k then 1 else 0)) H) (tCons ta tNil)) σ F (vn (b2n b)) := fun H1 e Q q =>
  h H1 e _ fun H2 e2 => .inr ⟨b, rfl, by cases b <;> exact q H2 e2⟩
theorem ev_lenS {w : Str} (h : Ev ta σ F (.str w)) (hl : w.length ≤ 100000) : Ev (tCB (fun xs H Q => ∃ z : Str, xs = [.str z] ∧ z.length ≤ sizeLine ∧ Q (.int z.length) H) (tCons ta tNil)) σ F (vn w.length) := fun H1 e Q q =>
  h H1 e _ fun H2 e2 => ⟨w, rfl, sz_of hl, q H2 e2⟩
theorem ev_lenT {p : Addr} (ha : Ev ta σ F (.ref p)) (h : SqT K F p xs) : Ev (tCB (rLenS K) (tCons ta tNil)) σ F (.int (xs.length : Int)) := fun H1 e Q q =>
  ha H1 e _ fun H2 e2 => ⟨p, xs, rfl, Or.inr (ex_t (e.trans e2) h), q H2 e2⟩
/-- isinstance(x, c) of one class: b by kitOne -/
theorem ev_isi {tA : TA} {c : V} {ty cv : Value} {b : Bool} (h : EvA tA σ F [x, c]) (hc : ClsV c cv) (ht : ∀ H1, Ex F H1 → TyX K H1 x ty) (hk : PySem.W.kitOne K ty cv = some b) : Ev (tCB (rIsi K) tA) σ F (.bl b) := fun H1 e Q q =>
  h H1 e _ fun H2 e2 => ⟨x, c, ty, cv, b, rfl, hc, ht H2 (e.trans e2), hk, q H2 e2⟩
theorem ty_str {w : Str} : TyX K H (.str w) (.type "str") := .base (.str w)
theorem ty_int {i : Int} : TyX K H (.int i) (.type "int") := .base (.int i)
theorem ty_bl {i : Bool} : TyX K H (.bl i) (.type "bool") := .base (.bl i)
theorem ty_non : TyX K H .non (.type "NoneType") := .base .non
theorem ty_lst (h : SqL K H a xs) : TyX K H (.ref a) (.type "list") := by
  rcases h with (h | ⟨o, h⟩) | ⟨o, its, n, h1, h2, _⟩
  · exact .base (.lst h)
  · exact .base (.frz h)
  · exact .kList h1 h2
theorem ty_tup (h : SqT K H a xs) : TyX K H (.ref a) (.type "tuple") := by
  rcases h with (h | ⟨o, h⟩) | ⟨o, its, n, h1, h2, _⟩
  · exact .base (.tup h)
  · exact .fTuple h
  · exact .kTuple h1 h2
theorem ev_slS {tl th : TO} {w : Str} {lo hi : Option Int} (h : Ev te σ F (.str w)) (h1 : EvO tl σ F lo) (h2 : EvO th σ F hi) (hl : w.length ≤ 100000) : Ev (tSl C8.rSlX te tl th) σ F (.str (Txt.slice w lo hi)) := fun H1 e _ q =>
  h H1 e _ fun H2 e2 => h1 H2 (e.trans e2) _ fun H3 e3 => h2 H3 ((e.trans e2).trans e3) _ fun H4 e4 => ⟨w, rfl, sz_of hl, q H4 ((e2.trans e3).trans e4)⟩
def SpVE (sp : Sp) (vs : List V) (H : Hp) (z : V) : Prop := SpV sp vs H z
/-- two targets at once, both sides written -/
theorem spv_of {sp : Sp} {vs : List V} (h : ∀ H1, Ex F H1 → ∀ Q : VK, RetV z H1 Q → ∀ E, sp vs H1 Q E) : SpV sp vs F z := fun H1 e Q q E => h H1 e Q (fun H2 e2 => q H2 e2) E
theorem spl_of {sp : Sp} {vs : List V} (h : ∀ H1, Ex F H1 → ∀ Q : VK, RetL xs H1 Q → ∀ E, sp vs H1 Q E) : SpL sp vs F xs := fun H1 e Q q E => h H1 e Q (fun p H2 hp e2 h2 => q p H2 hp e2 h2) E
end
end EL
set_option maxHeartbeats 4000000
/-! ### EL2: a set comprehension of texts, len of a set -/
namespace EL
open PySem PySem.Spec PyProof.Rows L2 Evl
section
variable {X : Cx}
/-- one more member -/
def kAdd (S : Key → Bool) (k : Key) : Key → Bool := fun j => S j || decide (j = k)
/-- the reading: D the new set; at each turn the element is a key -/
def tSk (P : Program) (w : World) (wi : TI) (g : TG) (te : TE) (vs : List Nat) : TE := fun σ H Q => wi σ H fun J H1 => ∀ D, H1 D = none →
  ∃ W : Nat → Nat → Hp → Prop, (∃ m, W 0 m (upd H1 D (SetK P w D (fun _ => false) 0))) ∧ ∀ i m H, W i m H →
    (J.stop i H ∧ Q (.ref D) H) ∨ (J.go i H ∧ ∃ Nx : Hp → Prop, (∀ H', Nx H' → ∃ m', m' < m ∧ W (i + 1) m' H') ∧
      ∀ x H', J.yld i H x H' → g x (wipe σ vs) H' fun σ2 H2 => wipe σ2 vs = wipe σ vs ∧ te σ2 H2 fun y H4 =>
        ∃ (k : Key) (S : Key → Bool) (n : Nat), y = kV k ∧ H4 D = some (SetK P w D S n) ∧ n + 1 < scanBound ∧ Nx (upd H4 D (SetK P w D (kAdd S k) (if S k = true then n else n + 1))))
theorem addK {pins : List (Addr × Obj)} {σ : HSt} {H : Hp} {s : Shared} {E : Value → Shared → Prop} {D : Addr} {S : Key → Bool} {n : Nat} {k : Key} {u : Value} {Q : Value → Shared → Prop}
    (I : Inv X pins σ H s) (hD : H D = some (SetK X.prog X.w D S n)) (room : n + 1 < scanBound) (ru : RelV (kV k) u)
    (h : ∀ s', Inv X pins σ (upd H D (SetK X.prog X.w D (kAdd S k) (if S k = true then n else n + 1))) s' → Q .none s') :
    wpAny (model X.prog X.w) X.A (call (.builtin "set.add") [.ref D, u]) Q E s := by
  refine call_set_add (kV_is ru) (key_scan ru) (setK_get I hD) room fun hp sb nw => ?_
  obtain ⟨ob, _, _, _, hob, _⟩ := id nw
  exact h _ (I.write (e := D) (t' := s.toks + 1) (by rw [hD]; trivial) (.inl rfl) (fun b q hb hq => (sb.2 b hb).trans hq) ⟨ob, hob⟩ (setK_new nw))
theorem setK_fresh {P : Program} {w : World} {h : Heap} :
    (h.push { cls := .type "set", dict := none, data := .set #[] 0 (.fresh 0 0 (!w.params.followText "set-order")) }).SetOf (mixKind P w) h.objs.size (fun _ => false) 0 :=
  ⟨_, #[], 0, _, Heap.get?_push_size _ rfl, ⟨rfl, rfl, rfl⟩, rfl, (fun e he => by simp at he), (fun k => by simp), (by decide), (by rfl), rfl⟩
theorem sk_core {pins : List (Addr × Obj)} {s : Shared} {σ : HSt} {H : Hp} {Q : VK} {elt tg iter : Expr} {scope : Scope} {own : List (Str × Nat)} {pos pos' : Pos} {wi : TI} {g : TG} {te : TE}
    (hc : X.calm = true) (hN : X.N.Nodup) (I : Inv X pins σ H s) (hi : PI X tg iter wi) (ok : BlkOk X.N X.env.scope scope own)
    (hg : ∀ (s : Shared) (H : Hp) (C : Addr) (cl : List (Str × Addr)) (fp : List Addr), PG (X.blk s H scope (compEnvC scope cl C X.env) fp) tg g)
    (he : ∀ (s : Shared) (H : Hp) (C : Addr) (cl : List (Str × Addr)) (fp : List Addr), PE (X.blk s H scope (compEnvC scope cl C X.env) fp) elt te) (hs : ∀ x, foldedSetIterable iter X.env x = pure x)
    (h : tSk X.prog X.w wi g te (own.map (·.2)) σ H Q)
    (back : ∀ D C s' m H', Inv X pins σ H' s' → Q (.ref D) H' → s'.heap.Ns C m → FpOk X pins H' C → compPost (model X.prog X.w) X.A X.xe none (EP X pins σ Q) (.ref D) C (.ok .next) s') :
    wpAny (model X.prog X.w) X.A (comprehension (.SetComp elt [⟨tg, iter, [], 0⟩] scope pos) scope X.env pos' (newSet (.type "set")) false (eval iter X.env)) (EP X pins σ Q) X.xe s := by
  have hfr : ∀ y ∈ scope.names, y.2 = .free → ∃ c, X.env.cells.lookup y.1 = some c := fun y hy e => (ok.free y hy e).elim (fun k => I.ok.has _ (.inl k)) fun k => I.ok.has _ (.inr k)
  refine wpAny_comprehension_free rfl hs (closure_ok hfr) ok.kind (fun y hy e => by rw [ok.uniq y hy, e]) (thn (hi.run pins s σ H _ I h) fun xv s1 hx => thn hx fun itv s2 h2 => ?_)
  obtain ⟨it, fp, tn, J, HA, rfl, IA, T, stA, fA, q⟩ := h2
  refine PpSet.newSet_ok (newEnv_comp ?_)
  generalize hD : s2.heap.objs.size = D
  obtain ⟨W, ⟨m0, w0⟩, turn⟩ := q D (IA.hok.fresh (Nat.le_of_eq hD))
  generalize hsB : ({ s2 with heap := s2.heap.push { cls := .type "set", dict := none, data := .set #[] 0 (.fresh 0 0 (!X.w.params.followText "set-order")) } } : Shared) = sB
  generalize hHB : upd HA D (SetK X.prog X.w D (fun _ => false) 0) = HB at w0
  have gB : sB.heap = s2.heap.push { cls := .type "set", dict := none, data := .set #[] 0 (.fresh 0 0 (!X.w.params.followText "set-order")) } := by rw [← hsB]
  have IB : Inv X pins σ HB sB := by
    rw [← hHB, ← hsB]
    refine IA.laid (t' := s2.toks) (fun b o e => Heap.get?_push_of_some _ e) (Nat.le_of_eq hD) ?_
    rw [← hD]
    exact setK_new setK_fresh
  have szB : ∀ b ∈ fp, b < s2.heap.objs.size := fun b hb => by
    obtain ⟨o, e, _⟩ := T.obj _ _ stA b hb
    exact Heap.lt_size e
  have fB : ∀ b ∈ fp, FpOk X pins HB b ∧ b < sB.heap.objs.size := fun b hb => by
    have lt := szB b hb
    refine ⟨⟨?_, (fA b hb).2⟩, by rw [gB, Heap.size_push]; exact Nat.lt_succ_of_lt lt⟩
    rw [← hHB, upd_ne (by rw [← hD]; exact Nat.ne_of_lt lt)]
    exact (fA b hb).1
  have stB : tn 0 sB.heap := T.keep _ _ _ stA fun b _ o e => by rw [gB]; exact Heap.get?_push_of_some _ e
  have IC := block_start IB ok hN fB
  have pg := hg sB HB sB.heap.objs.size (cellsFrom (sB.heap.objs.size + 1) scope.names (cloFrom X.env.cells scope.names [])) fp
  have pe := he sB HB sB.heap.objs.size (cellsFrom (sB.heap.objs.size + 1) scope.names (cloFrom X.env.cells scope.names [])) fp
  generalize hce : compEnvC scope (cellsFrom (sB.heap.objs.size + 1) scope.names (cloFrom X.env.cells scope.names [])) sB.heap.objs.size X.env = ce at IC pg pe
  have cL : ce.locals = sB.heap.objs.size := by subst hce; rfl
  show codeAny _ _ (.compStart (.SetComp elt [⟨tg, iter, [], 0⟩] scope pos) 0 (.ref it) (.ref D) (compEnvC scope (cellsFrom (sB.heap.objs.size + 1) scope.names (cloFrom X.env.cells scope.names [])) sB.heap.objs.size X.env)) (compPost (model X.prog X.w) X.A X.xe none (EP X pins σ Q) (.ref D) sB.heap.objs.size) { sB with heap := pushCells (sB.heap.push { cls := .type "dict", data := .dict #[] }) scope.names }
  rw [hce]
  generalize hsC : ({ sB with heap := pushCells (sB.heap.push { cls := .type "dict", data := .dict #[] }) scope.names } : Shared) = sC at IC ⊢
  have stC : tn 0 sC.heap := T.keep _ _ _ stB fun b _ o e => by rw [← hsC]; exact pushCells_keeps _ _ _ _ (Heap.get?_push_of_some _ e)
  have nB : ∀ b ∈ fp, HB b = none := fun b hb => (fB b hb).1.1
  have stat : ∀ {σ' : HSt} {H' : Hp} {s' : Shared}, Inv (X.blk sB HB scope ce fp) [] σ' H' s' → (∀ b ∈ fp, H' b = none) → ∀ b ∈ fp, FpOk (X.blk sB HB scope ce fp) [] H' b := fun {σ' H' s'} J' hn b hb =>
    ⟨hn b hb, (J'.ok.exf b hb).1, J'.ok.exfs b hb, .inl hb, fun x c e => (J'.ok.exf b hb).2 x c e, fun p hp => absurd (show p ∈ ([] : List (Addr × Obj)) ++ [] from hp) (by simp)⟩
  have loop : codeAny (model X.prog X.w) X.A (.compLoop (.SetComp elt [⟨tg, iter, [], 0⟩] scope pos) 0 (.ref it) (.ref D) ce) (compPost (model X.prog X.w) X.A X.xe none (EP X pins σ Q) (.ref D) sB.heap.objs.size) sC := by
    refine PpSet.compLoopS_any (fun n s' => ∃ i H', Inv (X.blk sB HB scope ce fp) [] (wipe σ (own.map (·.2))) H' s' ∧ tn i s'.heap ∧ (∀ b ∈ fp, H' b = none) ∧ W i n H') ?_ m0 ⟨0, HB, IC, stC, nB, w0⟩
    rintro n s5 ⟨i, H5, I5, st5, n5, w5⟩
    rcases turn i n H5 w5 with ⟨stop, qq⟩ | ⟨go, Nx, hNx, step⟩
    · refine thnF (T.done (X.blk sB HB scope ce fp) rfl rfl rfl hc i [] s5 _ H5 (fun _ _ => False) I5 (stat I5 n5) st5 stop) fun r s6 ⟨hr, I6⟩ => ?_
      subst hr
      have I7 : Inv X pins σ H5 s6 := IB.call' (ch := fp) I6.os I6.base I6.hok I6.bare fun b hb => ⟨(fB b hb).1.2.2.2.1, (fB b hb).1.2.1, (fB b hb).1.2.2.2.2.1, (fB b hb).1.2.2.2.2.2⟩
      have nC : H5 sB.heap.objs.size = none := by
        have z : H5 ce.locals = none := I6.free
        rw [cL] at z
        exact z
      obtain ⟨m, hn, _⟩ := I6.loc
      have hn' : s6.heap.Ns ce.locals m := hn
      rw [cL] at hn'
      exact back D sB.heap.objs.size s6 m H5 I7 qq hn' (IB.fpOk (Nat.le_refl _) nC)
    · refine thnF (T.item (X.blk sB HB scope ce fp) rfl rfl rfl hc i [] s5 _ H5 (fun _ _ => False) I5 (stat I5 n5) st5 go) fun r s6 ⟨u, hr, h6⟩ => ?_
      subst hr
      refine thnF h6 fun _ s7 ⟨x, H7, I7, r7, y7, st7, n7⟩ => ?_
      refine thnF (pg.run _ s7 _ H7 x u _ (I7.pinned (stat I7 n7) (T.obj _ _ st7)) r7 (step x H7 y7)) fun _ s8 ⟨σ8, H8, I8, hw8, q8⟩ => ?_
      have fin : ∀ {s' : Shared} {H' : Hp}, Inv (X.blk sB HB scope ce fp) ([] ++ pinsAt fp s7.heap) σ8 H' s' → Nx H' → ∃ m, m < n ∧ ∃ i H', Inv (X.blk sB HB scope ce fp) [] (wipe σ (own.map (·.2))) H' s' ∧ tn i s'.heap ∧ (∀ b ∈ fp, H' b = none) ∧ W i m H' := fun {s' H'} J' nx => by
        obtain ⟨m', hm, w'⟩ := hNx H' nx
        have pk : ∀ b ∈ fp, ∀ o, s7.heap.get? b = some o → s'.heap.get? b = some o ∧ H' b = none := fun b hb o e =>
          let z := J'.pin (b, o) (List.mem_append_right _ (List.mem_append_right _ (mem_pinsAt hb e)))
          ⟨z.1, z.2.1⟩
        have hl : (wipe σ (own.map (·.2))).length = σ8.length := by rw [← hw8, wipe_length]
        refine ⟨m', hm, i + 1, H', (J'.unpinned (pins := [])).weak hl (fun j v e => ?_), T.keep _ _ _ st7 fun b hb o e => (pk b hb o e).1, fun b hb => ?_, w'⟩
        · rw [← hw8] at e
          exact (wipe_some e).1
        · obtain ⟨o, e, _⟩ := T.obj _ _ st7 b hb
          exact (pk b hb o e).2
      refine wpAny_pure ?_
      show (if true = true then _ else _)
      rw [if_pos rfl]
      refine thnF (pe.run _ s8 σ8 H8 _ I8 q8) fun z s9 ⟨yv, H9, I9, r9, k, S0, n0, ey, hD9, hz9, nx⟩ => ?_
      subst ey
      exact addK (X := X.blk sB HB scope ce fp) I9 hD9 hz9 r9 fun sE IE => fin IE nx
  exact PpSet.codeAny_compStart_set loop (T.self X.A 0 _ _ _ stC loop)
theorem pe_sk {elt tg iter : Expr} {scope : Scope} {own : List (Str × Nat)} {pos : Pos} {wi : TI} {g : TG} {te : TE} (hc : X.calm = true) (hN : X.N.Nodup) (hi : PI X tg iter wi) (ok : BlkOk X.N X.env.scope scope own)
    (hg : ∀ (s : Shared) (H : Hp) (C : Addr) (cl : List (Str × Addr)) (fp : List Addr), PG (X.blk s H scope (compEnvC scope cl C X.env) fp) tg g)
    (he : ∀ (s : Shared) (H : Hp) (C : Addr) (cl : List (Str × Addr)) (fp : List Addr), PE (X.blk s H scope (compEnvC scope cl C X.env) fp) elt te) (hs : ∀ x, foldedSetIterable iter X.env x = pure x := by intro _; rfl) :
    PE X (.SetComp elt [⟨tg, iter, [], 0⟩] scope pos) (tSk X.prog X.w wi g te (own.map (·.2))) := by
  refine ⟨fun pins s σ H Q I h => ?_⟩
  rw [PpSet.eval_SetComp]
  refine sk_core hc hN I hi ok hg he hs h fun D C s' m H' J' q hn f => ⟨m, hn, fun h'' sb => ?_⟩
  obtain ⟨f0, f1, f2, f3, f4, f5⟩ := f
  exact ⟨.ref D, H', J'.turned (t' := s'.toks) (fun b o hb e => (sb.2 b hb).trans e) f0 f1 f3 f4 f5, rfl, q⟩
/-- len of such a set -/
def rLenK (P : Program) (w : World) : List V → Hp → VK → Prop := fun xs H Q => ∃ (a : Addr) (S : Key → Bool) (n : Nat), xs = [.ref a] ∧ H a = some (SetK P w a S n) ∧ n < 2 ^ 62 ∧ Q (vn n) H
theorem call_lenK : CallR X (.builtin "len") (rLenK X.prog X.w) := by
  intro pins s σ H xs us Q I r h
  obtain ⟨a, S, n, rfl, ha, hn, q⟩ := h
  obtain ⟨u, rfl, ru⟩ := vals1 r
  cases ru
  obtain ⟨o, es, ep, t, ho, hex, hd, _, _, _, hf, hsz⟩ := setK_get I ha
  exact call_len_set ho hex hd hf (by omega) ⟨vn n, H, I.tok _, ⟨_, by rw [hsz]⟩, q⟩
end
section
variable {K : PySem.W.Frag} {P : Program} {w : World} {σ : HSt} {F H : Hp} {ta te : TE}
/-- how many different texts -/
def distinct (l : List Str) : Nat := l.eraseDups.length
theorem mem_inr {xs : List Str} {x : Str} {S : Key → Bool} (h : ∀ y : Str, S (.inr y) = decide (y ∈ xs)) (y : Str) : kAdd S (.inr x) (.inr y) = decide (y ∈ xs ++ [x]) := by
  unfold kAdd
  rw [h, Bool.eq_iff_iff]
  simp only [Bool.or_eq_true, decide_eq_true_eq, List.mem_append, List.mem_singleton]
  constructor
  · rintro (h | h)
    · exact .inl h
    · injection h with h; exact .inr h
  · rintro (h | h)
    · exact .inl h
    · exact .inr (by rw [h])
/-- the set of the texts of zs: as many members as there are different ones; told for a list of different texts alone -/
theorem ev_lenSk {α : Type} {wi : TI} {j : Nat} {vs : List Nat} (zs : List α) (inj : α → V) (out : α → Str) (hi : EvI wi σ F (zs.map inj)) (hz : zs.length ≤ 1000) (hw : ∀ x, wipe ((wipe σ vs).set j (some x)) vs = wipe σ vs)
    (he : ∀ z ∈ zs, ∀ F1, Ex F F1 → Ev te ((wipe σ vs).set j (some (inj z))) F1 (.str (out z))) (nd : (zs.map out).Nodup) : Ev (tCB (rLenK P w) (tCons (tSk P w wi (gName j) te vs) tNil)) σ F (vn zs.length) := fun H0 e Q q => by
  refine hi H0 e _ fun J H1 e1 wk Dl hD => ?_
  refine ⟨fun i m H' => m = zs.length - i ∧ i ≤ zs.length ∧ Ex H1 H' ∧ ∃ S, H' Dl = some (SetK P w Dl S i) ∧ ∀ y : Str, S (.inr y) = decide (y ∈ (zs.take i).map out), ⟨_, rfl, Nat.zero_le _, Ex.new hD, _, upd_same, fun y => by simp⟩, ?_⟩
  rintro i m H' ⟨rfl, hil, p1, S, p2, p3⟩
  obtain ⟨w1, w2⟩ := wk H' ((e.trans e1).trans p1) i
  by_cases hlt : i < zs.length
  · have hzi : zs[i]? = some zs[i] := List.getElem?_eq_getElem hlt
    have hx : (zs.map inj)[i]? = some (inj zs[i]) := by rw [List.getElem?_map, hzi] <;> rfl
    obtain ⟨w3, w4⟩ := w1 _ hx
    refine .inr ⟨w3, fun H2 => Ex H1 H2 ∧ ∃ S, H2 Dl = some (SetK P w Dl S (i + 1)) ∧ ∀ y : Str, S (.inr y) = decide (y ∈ (zs.take (i + 1)).map out), fun H2 ⟨a, b⟩ => ⟨_, by omega, rfl, hlt, a, b⟩, fun y H2 hy => ?_⟩
    obtain ⟨rfl, rfl⟩ := w4 y H2 hy
    have hsb : i + 1 < scanBound := Nat.lt_of_lt_of_le (show i + 1 < 2000 by omega) (by decide)
    refine ⟨hw _, he _ (List.getElem_mem hlt) H1 (e.trans e1) H2 p1 _ fun H4 e4 => ⟨.inr (out zs[i]), S, i, rfl, e4 _ _ p2, hsb, Ex.mut (p1.trans e4) hD, kAdd S (.inr (out zs[i])), ?_, fun y => ?_⟩⟩
    · rw [p3, decide_eq_false, if_neg (by decide)]
      · exact upd_same
      · intro hm
        obtain ⟨z, hz1, hz2⟩ := List.mem_map.mp hm
        obtain ⟨n, hn, hn2⟩ := List.getElem_of_mem hz1
        rw [List.length_take] at hn
        rw [List.getElem_take] at hn2
        have a1 : (zs.map out)[n]? = some (out zs[i]) := by rw [List.getElem?_map, List.getElem?_eq_getElem (by omega), hn2, ← hz2] <;> rfl
        have a2 : (zs.map out)[i]? = some (out zs[i]) := by rw [List.getElem?_map, hzi] <;> rfl
        have := nd_ix nd a1 a2
        omega
    · have htk : zs.take (i + 1) = zs.take i ++ [zs[i]] := by rw [List.take_add_one, hzi] <;> rfl
      rw [htk, List.map_append]
      exact mem_inr p3 y
  · have hi' : i = zs.length := by omega
    subst hi'
    refine .inl ⟨w2 (by simp), ⟨Dl, S, zs.length, rfl, p2, ?_, q H' (e1.trans p1)⟩⟩
    have : zs.length < 2000 := by omega
    exact Nat.lt_of_lt_of_le this (by decide)
end
end EL
set_option maxHeartbeats 4000000
/-! ### EL3: fields, unpacking, instances, own classes -/
namespace EL
open PySem PySem.Spec PyProof.Rows L2 Evl
section
variable {K : PySem.W.Frag} {σ : HSt} {F H H' : Hp} {ta tb tc te tv tl : TE} {t u : TT} {x y z v : V} {xs ys : List V} {a p C dx : Addr} {fs : List (Str × V)} {f : Str} {D : Ends} {tz : TS}
theorem ev_isiT {cs : List V} {us : List Value} {ty : Value} {b : Bool} (h1 : Ev ta σ F x) (h2 : EvU tb σ F cs) (hc : Paired ClsV cs us) (ht : ∀ H1, Ex F H1 → TyX K H1 x ty) (hk : PySem.W.kitAny K ty us = some b) : Ev (tCB (rIsiT K) (tCons ta (tCons tb tNil))) σ F (.bl b) := fun H1 e Q q =>
  h1 H1 e _ fun H2 e2 => h2 H2 (e.trans e2) _ fun p H3 hp e3 h3 => ⟨x, p, cs, ty, us, b, rfl, h3, hc, ht H3 ((e.trans e2).trans e3), hk, q H3 (e2.trans e3)⟩
theorem kit_lt (a : String) {r1 r2 r : Bool} (h1 : kitB a "list" = some r1 := by decide +kernel) (h2 : kitB a "tuple" = some r2 := by decide +kernel) (e : (r1 || r2) = r := by rfl) : PySem.W.kitAny K (.type a) [.type "list", .type "tuple"] = some r :=
  kitAny_cons (kit_ty h1) (fun e1 => kitAny_cons (kit_ty h2) (fun e2 => by rw [← e, e1, e2]; exact kitAny_nil) (fun e2 => by rw [← e, e1, e2] <;> rfl)) (fun e1 => by rw [← e, e1] <;> rfl)
theorem kit_list : PySem.W.kitAny K (.type "list") [.type "list", .type "tuple"] = some true := kit_lt "list" (r1 := true) (r2 := false)
theorem kit_tuple : PySem.W.kitAny K (.type "tuple") [.type "list", .type "tuple"] = some true := kit_lt "tuple" (r1 := false) (r2 := true)
theorem cls_lt : Paired ClsV [V.ty "list", V.ty "tuple"] [Value.type "list", Value.type "tuple"] := .cons (.ty _) (.cons (.ty _) .nil)
theorem ev_fld (h : Ev ta σ F (.ref a)) (ho : F a = some (.ins C dx fs)) (hc : Cls K C) (hn : NoAttr K C f) (hl : fs.lookup f = some v) : Ev (tFld K ta f) σ F v := fun H1 e Q q =>
  h H1 e _ fun H2 e2 => ⟨a, C, dx, fs, v, rfl, (e.trans e2) _ _ ho, hc, hn, hl, q H2 e2⟩
/-- a, b, .. = e, e a tuple that stands -/
theorem zq_unpack {n : Nat} {g : TGs} (e : Ex F H) (h : Ev te σ F (.ref a)) (hs : SqT K F a xs) (hn : xs.length = n) (k : ∀ H1, Ex H H1 → g xs σ H1 fun σ' H' => tz D σ' H') : tSeq (tAsg te (gTup K n g)) tz D σ H :=
  h H e _ fun H1 e1 => ⟨a, xs, rfl, ex_t (e.trans e1) hs, hn, k H1 e1⟩
/-- .. e a new tuple -/
theorem zq_unpackN {n : Nat} {g : TGs} (e : Ex F H) (h : EvU te σ F xs) (hn : xs.length = n) (k : ∀ p H1, H p = none → Ex H H1 → H1 p = some (.tup xs) → g xs σ H1 fun σ' H' => tz D σ' H') : tSeq (tAsg te (gTup K n g)) tz D σ H :=
  h H e _ fun p H1 hp e1 h1 => ⟨p, xs, rfl, st_of h1, hn, k p H1 hp e1 h1⟩
/-- o.f = e, o an instance that F does not know -/
theorem z_fld (e : Ex F H) (hv : Ev tv σ F y) (ha : ∀ H1, Ex H H1 → Ev ta σ H1 (.ref a)) (ho : H a = some (.ins C dx fs)) (hc : Cls K C) (hn : NoAttr K C f) (hl : fs.length < 1000)
    (k : ∀ H1, Ex H H1 → D.nx σ (upd H1 a (.ins C dx (putF f y fs)))) : sFld K ta tv f D σ H :=
  hv H e _ fun H1 e1 => ha H1 e1 H1 (Ex.refl H1) _ fun H2 e2 => ⟨a, C, dx, fs, rfl, (e1.trans e2) _ _ ho, hc, hn, hl, k H2 (e1.trans e2)⟩
theorem zq_fld (e : Ex F H) (hv : Ev tv σ F y) (ha : ∀ H1, Ex H H1 → Ev ta σ H1 (.ref a)) (ho : H a = some (.ins C dx fs)) (hc : Cls K C) (hn : NoAttr K C f) (hl : fs.length < 1000)
    (k : ∀ H1, Ex H H1 → tz D σ (upd H1 a (.ins C dx (putF f y fs)))) : tSeq (sFld K ta tv f) tz D σ H := z_fld (D := { D with nx := tz D }) e hv ha ho hc hn hl k
/-- .. the value a new list -/
theorem zq_fldL (e : Ex F H) (hv : EvL tv σ F xs) (ha : ∀ H1, Ex H H1 → Ev ta σ H1 (.ref a)) (ho : H a = some (.ins C dx fs)) (hc : Cls K C) (hn : NoAttr K C f) (hl : fs.length < 1000)
    (k : ∀ p H1, H p = none → Ex H H1 → H1 p = some (.lst xs) → tz D σ (upd H1 a (.ins C dx (putF f (.ref p) fs)))) : tSeq (sFld K ta tv f) tz D σ H :=
  hv H e _ fun p H1 hp e1 h1 => ha H1 e1 H1 (Ex.refl H1) _ fun H2 e2 => ⟨a, C, dx, fs, rfl, (e1.trans e2) _ _ ho, hc, hn, hl, k p H2 hp (e1.trans e2) (e2 _ _ h1)⟩
/-- e.f, a property whose getter hands back a value -/
theorem ev_prp {sp : Sp} {dvs : List V} {E : XK} (h : Ev ta σ F (.ref a)) (ho : F a = some (.ins C dx fs)) (hs : SpV sp (.ref a :: dvs) F z) : Ev (tProp C sp dvs E ta) σ F z := fun H1 e Q q =>
  h H1 e _ fun H2 e2 => ⟨a, dx, fs, rfl, (e.trans e2) _ _ ho, hs H2 (e.trans e2) Q (fun H3 e3 => q H3 (e2.trans e3)) E⟩
theorem el_prp {sp : Sp} {dvs : List V} {E : XK} (h : Ev ta σ F (.ref a)) (ho : F a = some (.ins C dx fs)) (hs : SpL sp (.ref a :: dvs) F xs) : EvL (tProp C sp dvs E ta) σ F xs := fun H1 e Q q =>
  h H1 e _ fun H2 e2 => ⟨a, dx, fs, rfl, (e.trans e2) _ _ ho, hs H2 (e.trans e2) Q (fun p H3 hp e3 h3 => q p H3 (fresh_back e2 hp) (e2.trans e3) h3) E⟩
theorem ev_mt0 {m : Str} {sp : Sp} {dvs : List V} {E : XK} (h : Ev ta σ F (.ref a)) (ho : F a = some (.ins C dx fs)) (hm : fs.lookup m = none) (hs : SpV sp (.ref a :: dvs) F z) : Ev (tMeth C m sp dvs E ta tNil) σ F z := fun H1 e Q q =>
  h H1 e _ fun H2 e2 => ⟨a, dx, fs, rfl, (e.trans e2) _ _ ho, hm, hs H2 (e.trans e2) Q (fun H3 e3 => q H3 (e2.trans e3)) E⟩
theorem el_mt0 {m : Str} {sp : Sp} {dvs : List V} {E : XK} (h : Ev ta σ F (.ref a)) (ho : F a = some (.ins C dx fs)) (hm : fs.lookup m = none) (hs : SpL sp (.ref a :: dvs) F xs) : EvL (tMeth C m sp dvs E ta tNil) σ F xs := fun H1 e Q q =>
  h H1 e _ fun H2 e2 => ⟨a, dx, fs, rfl, (e.trans e2) _ _ ho, hm, hs H2 (e.trans e2) Q (fun p H3 hp e3 h3 => q p H3 (fresh_back e2 hp) (e2.trans e3) h3) E⟩
theorem ev_mt {m : Str} {sp : Sp} {dvs vs : List V} {E : XK} {tA : TA} (h : Ev ta σ F (.ref a)) (ho : F a = some (.ins C dx fs)) (hm : fs.lookup m = none) (hA : EvA tA σ F vs) (hs : SpV sp (.ref a :: (vs ++ dvs)) F z) : Ev (tMeth C m sp dvs E ta tA) σ F z := fun H1 e Q q =>
  h H1 e _ fun H2 e2 => ⟨a, dx, fs, rfl, (e.trans e2) _ _ ho, hm, hA H2 (e.trans e2) _ fun H3 e3 => hs H3 ((e.trans e2).trans e3) Q (fun H4 e4 => q H4 ((e2.trans e3).trans e4)) E⟩
end
section
variable {P : Program} {w : World} {K : PySem.W.Frag} {mg : Str → Option Value} {base : Heap}
/-- a property by its promise -/
structure Prp (P : Program) (w : World) (K : PySem.W.Frag) (mg : Str → Option Value) (base : Heap) (k : Nat) (C : Addr) (f : Str) (sp : Sp) : Prop where
  ex : ∃ (p g : Addr) (fd : FuncData) (ps : List Str), Cls K C ∧ PropOf K C f p g ∧ FnOk P w K mg base C8.CX0 k g fd ps sp ∧ Binds K fd ps []
theorem pe_prp {X : Cx} {k j : Nat} {C : Addr} {f : Str} {sp : Sp} {e : Expr} {pos : Pos} {ta : TE} (c : Prp X.prog X.w X.K X.mg X.base k C f sp) (hr : Room j X.A) (hk : k + 1 ≤ j) (he : PE X e ta)
    (hab : attributeBase e f X.env (eval e X.env) = eval e X.env := by rfl) : PE X (.Attribute e f pos) (tProp C sp [] C8.E0 ta) := by
  obtain ⟨p, g, fd, ps, hc, hp, F, b⟩ := c.ex
  exact pe_prop he hc hp F (hr.mono hk) b .nil C8.pass0 hab
theorem prp_of {C p g : Addr} {f m qual : Str} {st : Stmt} {N ps : List Str} {k : Nat} {sp : Sp} (c : Cls K C) (hp : PropOf K C f p g) (D : ∃ fd, FunD K m qual (defArgs st) (defBody st) (defScope st) [] [] g fd) (S : FnScope N ps (defScope st))
    (hb : ∀ (kV doc pm : Value) (an : Option Addr) (cdv ct : Value) (us : List Value), us.length = ps.length → bindArgs (PySem.W.fnOf m qual (defArgs st) (defBody st) (defScope st) .none kV doc pm an cdv ct) ⟨us, []⟩ = pure (ps.zip us))
    (len : ∀ vs H Q E, sp vs H Q E → vs.length = ps.length)
    (hbody : ∀ (f : Addr) (cdv : Value) (A : Around) (outer : List Env) (s : Shared) (H : Hp) (vs : List V) (Q : VK) (E : XK), Room k (A.deeper (envOfC qual (defScope st) s.heap.objs.size f cdv)) → sp vs H Q E →
      ∃ t, PSs (cxOf C8.CX0 P w K mg base N qual (defScope st) f cdv A outer s H E).nox (defBody st) t ∧ t { nx := fun _ H' => Q .non H', rt := Q } (start N vs) H) : Prp P w K mg base (k + 1) C f sp := by
  obtain ⟨fd, F⟩ := D
  refine ⟨p, g, fd, ps, c, hp, F.ok S len (fun cdv A outer s H vs Q E hr hsp => ?_), F.bindsN hb⟩
  obtain ⟨t, h, q⟩ := hbody g cdv A outer s H vs Q E hr hsp
  exact ⟨t, h.nox, q⟩
end
/-- all but p stand as they were -/
def Keep (p : Addr) (H H' : Hp) : Prop := ∀ b o, b ≠ p → H b = some o → H' b = some o
/-- F, and what is new in H' against H -/
def grow (F H H' : Hp) : Hp := fun b => match F b with
  | some o => some o
  | none => (match H b with
    | some _ => none
    | none => H' b)
theorem grow_old {F H H' : Hp} : Ex F (grow F H H') := fun b o e => by unfold grow; rw [e]
theorem grow_new {F H H' : Hp} {b : Addr} {o : HO} (e : Ex F H) (hn : H b = none) (h : H' b = some o) : grow F H H' b = some o := by
  unfold grow
  rw [fresh_back e hn, hn, h]
theorem grow_in {F H H' : Hp} (e : Ex F H) (e2 : Ex H H') : Ex (grow F H H') H' := fun b o q => by
  unfold grow at q
  cases h1 : F b with
  | some u => rw [h1] at q; cases q; exact e2 _ _ (e _ _ h1)
  | none =>
    rw [h1] at q
    cases h2 : H b with
    | some u => rw [h2] at q; cases q
    | none => rw [h2] at q; exact q
end EL
set_option maxHeartbeats 4000000
/-! ### EL4: == of data -/
namespace EL
open PySem PySem.Spec PyProof.Rows L2 Evl
mutual
theorem dp_mono {K : PySem.W.Frag} {F H : Hp} (e : Ex F H) : ∀ {d : PyData} {v : V}, Dp K F v d → Dp K H v d
  | .none, _, h => by cases h; exact .non
  | .bool b, _, h => by cases h; exact .bl _
  | .int i, _, h => by cases h; exact .int _
  | .str x, _, h => by cases h; exact .str _
  | .list ds, _, h => by
    cases h with
    | lst hs ha => exact .lst (ex_l e hs) (dpa_mono e ha)
  | .tuple ds, _, h => by
    cases h with
    | tup hs ha => exact .tup (ex_t e hs) (dpa_mono e ha)
  | .dict _, _, h => by cases h
theorem dpa_mono {K : PySem.W.Frag} {F H : Hp} (e : Ex F H) : ∀ {ds : List PyData} {vs : List V}, DpAll K F vs ds → DpAll K H vs ds
  | [], _, h => by cases h; exact .nil
  | d :: ds, _, h => by
    cases h with
    | cons h1 h2 => exact .cons (dp_mono e h1) (dpa_mono e h2)
end
/-- numbers as data -/
def encN (ns : List Nat) : List PyData := ns.map fun (n : Nat) => PyData.int (n : Int)
def encS (ns : List Str) : List PyData := ns.map fun (n : Str) => PyData.str n
theorem dpa_ints {K : PySem.W.Frag} {F : Hp} : ∀ ns : List Nat, DpAll K F (vns ns) (encN ns)
  | [] => .nil
  | _ :: ns => .cons (.int _) (dpa_ints ns)
theorem dpa_strs {K : PySem.W.Frag} {F : Hp} : ∀ ns : List Str, DpAll K F (ns.map V.str) (encS ns)
  | [] => .nil
  | _ :: ns => .cons (.str _) (dpa_strs ns)
theorem eqva_ints : ∀ xs ys : List Nat, PyData.eqvAll (encN xs) (encN ys) = decide (xs = ys)
  | [], [] => by simp [encN, PyData.eqvAll]
  | [], _ :: _ => by simp [encN, PyData.eqvAll]
  | _ :: _, [] => by simp [encN, PyData.eqvAll]
  | x :: xs, y :: ys => by
    have ih := eqva_ints xs ys
    unfold encN at ih ⊢
    rw [List.map_cons, List.map_cons, PyData.eqvAll, ih, PyData.eqv, Bool.eq_iff_iff]
    simp only [Bool.and_eq_true, decide_eq_true_eq, beq_iff_eq, List.cons.injEq, Int.ofNat_inj]
theorem eqva_strs : ∀ xs ys : List Str, PyData.eqvAll (encS xs) (encS ys) = decide (xs = ys)
  | [], [] => by simp [encS, PyData.eqvAll]
  | [], _ :: _ => by simp [encS, PyData.eqvAll]
  | _ :: _, [] => by simp [encS, PyData.eqvAll]
  | x :: xs, y :: ys => by
    have ih := eqva_strs xs ys
    unfold encS at ih ⊢
    rw [List.map_cons, List.map_cons, PyData.eqvAll, ih, PyData.eqv, Bool.eq_iff_iff]
    simp only [Bool.and_eq_true, decide_eq_true_eq, beq_iff_eq, List.cons.injEq]
theorem lay_ints : ∀ ns : List Nat, PyData.canLayAll0 (encN ns) = true
  | [] => by simp [encN, PyData.canLayAll0]
  | _ :: ns => by
    have ih := lay_ints ns
    unfold encN at ih ⊢
    rw [List.map_cons, PyData.canLayAll0, ih, PyData.canLay0] <;> rfl
theorem dep_ints : ∀ ns : List Nat, PyData.depthAll (encN ns) = 0
  | [] => by simp [encN, PyData.depthAll]
  | _ :: ns => by
    have ih := dep_ints ns
    unfold encN at ih ⊢
    rw [List.map_cons, PyData.depthAll, ih]
    simp [PyData.depth]
/-- a text whose signs are within the code points -/
def strOks (ns : List Str) : Bool := ns.all PyData.strOk
theorem lay_strs : ∀ {ns : List Str}, strOks ns = true → PyData.canLayAll0 (encS ns) = true
  | [], _ => by simp [encS, PyData.canLayAll0]
  | x :: ns, h => by
    have h' : PyData.strOk x = true ∧ strOks ns = true := by
      unfold strOks at h ⊢
      rw [List.all_cons, Bool.and_eq_true] at h
      exact h
    have ih := lay_strs h'.2
    unfold encS at ih ⊢
    rw [List.map_cons, PyData.canLayAll0, ih, PyData.canLay0, h'.1] <;> rfl
theorem dep_strs : ∀ ns : List Str, PyData.depthAll (encS ns) = 0
  | [] => by simp [encS, PyData.depthAll]
  | _ :: ns => by
    have ih := dep_strs ns
    unfold encS at ih ⊢
    rw [List.map_cons, PyData.depthAll, ih]
    simp [PyData.depth]
theorem shaped_l {ds : List PyData} (h : PyData.canLayAll0 ds = true) (hd : PyData.depthAll ds ≤ 63) : SeqAt.shaped (.list ds) = true := by
  unfold SeqAt.shaped
  rw [PyData.canLay0, h, PyData.depth, Bool.true_and, decide_eq_true_eq]
  omega
theorem shaped_t {ds : List PyData} (h : PyData.canLayAll0 ds = true) (hd : PyData.depthAll ds ≤ 63) : SeqAt.shaped (.tuple ds) = true := by
  unfold SeqAt.shaped
  rw [PyData.canLay0, h, PyData.depth, Bool.true_and, decide_eq_true_eq]
  omega
section
variable {K : PySem.W.Frag} {F : Hp} {x y : V} {d d' : PyData} {a b : Addr} {xs ys : List Nat} {ss ts : List Str}
theorem rv_eqD (hx : Dp K F x d) (hy : Dp K F y d') (s1 : SeqAt.shaped d = true) (s2 : SeqAt.shaped d' = true) : RV (rEqD K) x y F (.bl (PyData.eqv d d')) := fun H1 e Q q => ⟨d, d', dp_mono e hx, dp_mono e hy, s1, s2, q H1 (Ex.refl H1)⟩
theorem rv_neD (hx : Dp K F x d) (hy : Dp K F y d') (s1 : SeqAt.shaped d = true) (s2 : SeqAt.shaped d' = true) : RV (rNeD K) x y F (.bl (!PyData.eqv d d')) := fun H1 e Q q => ⟨d, d', dp_mono e hx, dp_mono e hy, s1, s2, q H1 (Ex.refl H1)⟩
/-- two lists of numbers -/
theorem rv_eqLi (h1 : SqL K F a (vns xs)) (h2 : SqL K F b (vns ys)) : RV (rEqD K) (.ref a) (.ref b) F (.bl (decide (xs = ys))) := by
  have q := rv_eqD (.lst h1 (dpa_ints xs)) (.lst h2 (dpa_ints ys)) (shaped_l (lay_ints _) (by rw [dep_ints]; decide)) (shaped_l (lay_ints _) (by rw [dep_ints]; decide))
  rw [PyData.eqv, eqva_ints] at q
  exact q
theorem rv_neLi (h1 : SqL K F a (vns xs)) (h2 : SqL K F b (vns ys)) : RV (rNeD K) (.ref a) (.ref b) F (.bl (!decide (xs = ys))) := by
  have q := rv_neD (.lst h1 (dpa_ints xs)) (.lst h2 (dpa_ints ys)) (shaped_l (lay_ints _) (by rw [dep_ints]; decide)) (shaped_l (lay_ints _) (by rw [dep_ints]; decide))
  rw [PyData.eqv, eqva_ints] at q
  exact q
theorem rv_eqTi (h1 : SqT K F a (vns xs)) (h2 : SqT K F b (vns ys)) : RV (rEqD K) (.ref a) (.ref b) F (.bl (decide (xs = ys))) := by
  have q := rv_eqD (.tup h1 (dpa_ints xs)) (.tup h2 (dpa_ints ys)) (shaped_t (lay_ints _) (by rw [dep_ints]; decide)) (shaped_t (lay_ints _) (by rw [dep_ints]; decide))
  rw [PyData.eqv, eqva_ints] at q
  exact q
theorem rv_neTi (h1 : SqT K F a (vns xs)) (h2 : SqT K F b (vns ys)) : RV (rNeD K) (.ref a) (.ref b) F (.bl (!decide (xs = ys))) := by
  have q := rv_neD (.tup h1 (dpa_ints xs)) (.tup h2 (dpa_ints ys)) (shaped_t (lay_ints _) (by rw [dep_ints]; decide)) (shaped_t (lay_ints _) (by rw [dep_ints]; decide))
  rw [PyData.eqv, eqva_ints] at q
  exact q
theorem rv_eqLs (h1 : SqL K F a (ss.map V.str)) (h2 : SqL K F b (ts.map V.str)) (o1 : strOks ss = true) (o2 : strOks ts = true) : RV (rEqD K) (.ref a) (.ref b) F (.bl (decide (ss = ts))) := by
  have q := rv_eqD (.lst h1 (dpa_strs ss)) (.lst h2 (dpa_strs ts)) (shaped_l (lay_strs o1) (by rw [dep_strs]; decide)) (shaped_l (lay_strs o2) (by rw [dep_strs]; decide))
  rw [PyData.eqv, eqva_strs] at q
  exact q
theorem rv_neLs (h1 : SqL K F a (ss.map V.str)) (h2 : SqL K F b (ts.map V.str)) (o1 : strOks ss = true) (o2 : strOks ts = true) : RV (rNeD K) (.ref a) (.ref b) F (.bl (!decide (ss = ts))) := by
  have q := rv_neD (.lst h1 (dpa_strs ss)) (.lst h2 (dpa_strs ts)) (shaped_l (lay_strs o1) (by rw [dep_strs]; decide)) (shaped_l (lay_strs o2) (by rw [dep_strs]; decide))
  rw [PyData.eqv, eqva_strs] at q
  exact q
end
/-! a list of any things beside an empty list -/
def rEqE (K : PySem.W.Frag) : R2 := fun x y H Q => ∃ (a b : Addr) (xs : List V), x = .ref a ∧ y = .ref b ∧ SqL K H a xs ∧ SqL K H b [] ∧ Q (.bl xs.isEmpty) H
theorem op_eqE {X : Cx} (hu : X.A.units < cLine) : OpR X (compareOp .Eq) (rEqE X.K) := by
  intro pins s σ H x y v u Q I rx ry h
  obtain ⟨a, b, xs, rfl, rfl, ha, hb, q⟩ := h
  cases rx
  cases ry
  obtain ⟨i1, r1, p1, _⟩ := I.list ha
  obtain ⟨i2, r2, p2, _⟩ := I.list hb
  cases r2
  cases xs with
  | nil =>
    cases r1
    refine SeqAt.eq_listAt (e := fun _ => true) p1.isList p2.isList rfl hu (fun j h1 _ => absurd h1 (by simp)) ?_
    exact ⟨.bl true, H, I, rfl, q⟩
  | cons x xs =>
    refine SeqAt.eq_list_lengthsAt p1.isList p2.isList ?_ hu ⟨.bl false, H, I, rfl, q⟩
    have := r1.length
    cases i1 with
    | nil => cases this
    | cons _ _ => simp
theorem rv_eqE {K : PySem.W.Frag} {F : Hp} {a b : Addr} {xs : List V} (h1 : SqL K F a xs) (h2 : SqL K F b []) : RV (rEqE K) (.ref a) (.ref b) F (.bl xs.isEmpty) := fun H1 e Q q => ⟨a, b, xs, rfl, rfl, ex_l e h1, ex_l e h2, q H1 (Ex.refl H1)⟩
theorem hu0 {A : Around} {k : Nat} (hr : Room k A) : A.units < cLine := by have := hr.un; omega
end EL
set_option maxHeartbeats 4000000
/-! ### EL5: lists of texts compared; methods of texts -/
namespace EL
open PySem PySem.Spec PyProof.Rows L2 Evl
theorem vals_texts {xs : List Str} : ∀ {us : List Value}, Vals (xs.map V.str) us → us.length = xs.length ∧ ∀ (j : Nat) (x : Str), xs[j]? = some x → ∃ t, us[j]? = some (Value.str x t) := by
  induction xs with
  | nil =>
    intro us r
    cases r
    exact ⟨rfl, fun j x h => by cases j <;> cases h⟩
  | cons x xs ih =>
    intro us r
    cases r with
    | cons r1 r2 =>
      obtain ⟨t, rfl⟩ := r1
      obtain ⟨h1, h2⟩ := ih r2
      refine ⟨by rw [List.length_cons, List.length_cons, h1], fun j y h => ?_⟩
      cases j with
      | zero =>
        cases h
        exact ⟨t, rfl⟩
      | succ j => exact h2 j y h
theorem all_same (xs ys : List Str) (h : xs.length = ys.length) : ((List.range xs.length).all fun j => decide (xs[j]? = ys[j]?)) = decide (xs = ys) := by
  rw [Bool.eq_iff_iff, List.all_eq_true, decide_eq_true_eq]
  constructor
  · intro q
    refine List.ext_getElem? fun j => ?_
    by_cases hj : j < xs.length
    · exact of_decide_eq_true (q j (List.mem_range.mpr hj))
    · rw [List.getElem?_eq_none (by omega), List.getElem?_eq_none (by omega)]
  · intro q j _
    rw [q]
    exact decide_eq_true rfl
def rEqSs (K : PySem.W.Frag) (neg : Bool) : R2 := fun x y H Q => ∃ (a b : Addr) (xs ys : List Str), x = .ref a ∧ y = .ref b ∧ SqL K H a (xs.map V.str) ∧ SqL K H b (ys.map V.str) ∧ Q (.bl (neg ^^ decide (xs = ys))) H
section
variable {X : Cx}
theorem op_eqSs (hu : X.A.units < cLine) : OpR X (compareOp .Eq) (rEqSs X.K false) := by
  intro pins s σ H x y v u Q I rx ry h
  obtain ⟨a, b, xs, ys, rfl, rfl, ha, hb, q⟩ := h
  cases rx
  cases ry
  rw [Bool.false_xor] at q
  obtain ⟨i1, r1, p1, _⟩ := I.list ha
  obtain ⟨i2, r2, p2, _⟩ := I.list hb
  obtain ⟨l1, g1⟩ := vals_texts r1
  obtain ⟨l2, g2⟩ := vals_texts r2
  by_cases hl : xs.length = ys.length
  · refine SeqAt.eq_listAt (e := fun j => decide (xs[j]? = ys[j]?)) p1.isList p2.isList (by simp [l1, l2, hl]) hu (fun j h1 h2 => ?_) ?_
    · simp only [List.size_toArray] at h1 h2
      have hx : xs[j]? = some xs[j] := List.getElem?_eq_getElem (by omega)
      have hy : ys[j]? = some ys[j] := List.getElem?_eq_getElem (by omega)
      obtain ⟨t1, e1⟩ := g1 j _ hx
      obtain ⟨t2, e2⟩ := g2 j _ hy
      have f1 : i1.toArray[j] = .str xs[j] t1 := by
        obtain ⟨_, z⟩ := List.getElem?_eq_some_iff.mp e1
        simpa using z
      have f2 : i2.toArray[j] = .str ys[j] t2 := by
        obtain ⟨_, z⟩ := List.getElem?_eq_some_iff.mp e2
        simpa using z
      rw [f1, f2, hx, hy]
      have e : decide (some xs[j] = some ys[j]) = (xs[j] == ys[j]) := by
        rw [Bool.eq_iff_iff]
        simp
      show SeqAt.EqAt _ _ _ _ (decide (some xs[j] = some ys[j]))
      rw [e]
      exact SeqAt.EqAt.str_str _ _ _ _
    · refine ⟨.bl (decide (xs = ys)), H, I, ?_, q⟩
      show Value.bool _ = Value.bool _
      rw [← all_same xs ys hl]
      simp [l1]
  · refine SeqAt.eq_list_lengthsAt p1.isList p2.isList (by simp [l1, l2, hl]) hu ⟨.bl false, H, I, rfl, ?_⟩
    have : decide (xs = ys) = false := decide_eq_false fun e => hl (by rw [e])
    rw [this] at q
    exact q
end
section
variable {K : PySem.W.Frag} {σ : HSt} {F : Hp} {ta tb te : TE} {a b : Addr} {xs ys : List Str} {x y : Str}
theorem rv_eqSs (h1 : SqL K F a (xs.map V.str)) (h2 : SqL K F b (ys.map V.str)) : RV (rEqSs K false) (.ref a) (.ref b) F (.bl (decide (xs = ys))) := fun H1 e Q q => ⟨a, b, xs, ys, rfl, rfl, ex_l e h1, ex_l e h2, by rw [Bool.false_xor]; exact q H1 (Ex.refl H1)⟩
/-- s.endswith(t) -/
theorem ev_ends (h1 : Ev ta σ F (.str x)) (h2 : Ev tb σ F (.str y)) : Ev (tM1 (fun x xs H Q => ∃ a b, x = .str a ∧ xs = [.str b] ∧ Q (.bl (Txt.endswith a b)) H) ta tb) σ F (.bl (Txt.endswith x y)) := fun H1 e Q q =>
  h1 H1 e _ fun H2 e2 => ⟨⟨x, rfl⟩, h2 H2 (e.trans e2) _ fun H3 e3 => ⟨x, y, rfl, rfl, q H3 (e2.trans e3)⟩⟩
/-- s.split(t) -/
theorem el_split (h1 : Ev ta σ F (.str x)) (h2 : Ev tb σ F (.str y)) (hy : (y.length == 0) = false) (hl : x.length ≤ 90000) : EvL (tM1 (fun x xs H Q => ∃ a b, x = .str a ∧ xs = [.str b] ∧ (b.length == 0) = false ∧ a.length + 2 ≤ sizeLine ∧ rNewStrs (Txt.split a b) H Q) ta tb) σ F ((Txt.split x y).map V.str) := fun H1 e Q q =>
  h1 H1 e _ fun H2 e2 => ⟨⟨x, rfl⟩, h2 H2 (e.trans e2) _ fun H3 e3 => ⟨x, y, rfl, rfl, hy, sz_of (by omega), fun p hp => q p _ (fresh_back (e2.trans e3) hp) ((e2.trans e3).trans (Ex.new hp)) upd_same⟩⟩
/-- s.join(l) -/
theorem ev_join (h1 : Ev ta σ F (.str x)) (h2 : EvL tb σ F (ys.map V.str)) (hl : (ys.map (·.length)).sum + ys.length * x.length ≤ 16777216) :
    Ev (tM1 (fun x xs H Q => ∃ a p, ∃ ys : List Str, x = .str a ∧ xs = [.ref p] ∧ (SqL K H p (ys.map V.str) ∨ SqT K H p (ys.map V.str)) ∧ (ys.map (·.length)).sum + ys.length * a.length ≤ 16777216 ∧ Q (.str (Txt.join a ys)) H) ta tb) σ F (.str (Txt.join x ys)) := fun H1 e Q q =>
  h1 H1 e _ fun H2 e2 => ⟨⟨x, rfl⟩, h2 H2 (e.trans e2) _ fun p H3 hp e3 h3 => ⟨x, p, ys, rfl, rfl, .inl (sq_of h3), hl, q H3 (e2.trans e3)⟩⟩
theorem el_if {t : TT} {zs : List V} {c : Bool} (h : EvT t σ F c) (h1 : c = true → EvL ta σ F zs) (h2 : c = false → EvL tb σ F zs) : EvL (tIf t ta tb) σ F zs := fun H1 e Q q => h H1 e _ fun H2 e2 => by
  cases c with
  | true => exact h1 rfl H2 (e.trans e2) _ fun p H3 hp e3 h3 => q p H3 (fresh_back e2 hp) (e2.trans e3) h3
  | false => exact h2 rfl H2 (e.trans e2) _ fun p H3 hp e3 h3 => q p H3 (fresh_back e2 hp) (e2.trans e3) h3
end
/-! a def, its text and what it keeps, together -/
structure DefOk (P : Program) (w : World) (K : PySem.W.Frag) (mg : Str → Option Value) (base : Heap) (k : Nat) (x : Str) (st : Stmt) (ps : List Str) (sp : Sp) : Prop where
  ex : ∃ (f : Addr) (fd : FuncData), FunD K x x (defArgs st) (defBody st) (defScope st) [] [] f fd ∧ FnOk P w K mg base C8.CX0 k f fd ps sp ∧ mg x = some (.ref f)
section
variable {P : Program} {w : World} {K : PySem.W.Frag} {mg : Str → Option Value} {base : Heap} {x : Str} {st : Stmt} {N ps : List Str} {k : Nat} {sp : Sp}
theorem def_of (D : Dfn K mg x st) (S : FnScope N ps (defScope st)) (len : ∀ vs H Q E, sp vs H Q E → vs.length = ps.length)
    (hbody : ∀ (f : Addr) (cdv : Value) (A : Around) (outer : List Env) (s : Shared) (H : Hp) (vs : List V) (Q : VK) (E : XK), Room k (A.deeper (envOfC x (defScope st) s.heap.objs.size f cdv)) → sp vs H Q E →
      ∃ t, PSs (cxOf C8.CX0 P w K mg base N x (defScope st) f cdv A outer s H E).nox (defBody st) t ∧ t { nx := fun _ H' => Q .non H', rt := Q } (start N vs) H) : DefOk P w K mg base (k + 1) x st ps sp := by
  obtain ⟨f, fd, F, hm⟩ := D.ex
  refine ⟨f, fd, F, F.ok S len (fun cdv A outer s H vs Q E hr hsp => ?_), hm⟩
  obtain ⟨t, h, q⟩ := hbody f cdv A outer s H vs Q E hr hsp
  exact ⟨t, h.nox, q⟩
theorem cal_ofD (D : DefOk P w K mg base k x st ps sp)
    (hb : ∀ (kV doc pm : Value) (an : Option Addr) (cdv ct : Value) (us : List Value), us.length = ps.length → bindArgs (PySem.W.fnOf x x (defArgs st) (defBody st) (defScope st) .none kV doc pm an cdv ct) ⟨us, []⟩ = pure (ps.zip us)) : C8.Cal P w K mg base k x sp [] := by
  obtain ⟨f, fd, F, O, hm⟩ := D.ex
  exact ⟨f, fd, ps, [], O, hm, F.kp, F.bindsN hb, .nil⟩
/-- f(k = v, ..): all by names, in the order ks -/
structure CalK (P : Program) (w : World) (K : PySem.W.Frag) (mg : Str → Option Value) (base : Heap) (k : Nat) (x : Str) (n : Nat) (ks : List Str) (gV : List V → List V → List V) (sp : Sp) : Prop where
  ex : ∃ (f : Addr) (fd : FuncData) (ps : List Str) (g : List Value → List Value → List Value), FnOk P w K mg base C8.CX0 k f fd ps sp ∧ mg x = some (.ref f) ∧ PySem.W.keepIn K (.ref f) = true ∧ KBn K fd ps n ks g gV
theorem calK_of {n : Nat} {ks : List Str} {g : List Value → List Value → List Value} {gV : List V → List V → List V} (D : DefOk P w K mg base k x st ps sp) (hrel : ∀ {vs zs : List V} {us ws : List Value}, Vals vs us → Vals zs ws → Vals (gV vs zs) (g us ws))
    (hb : ∀ (kV doc pm : Value) (an : Option Addr) (cdv ct : Value) (us ws : List Value), us.length = n → ws.length = ks.length → bindArgs (PySem.W.fnOf x x (defArgs st) (defBody st) (defScope st) .none kV doc pm an cdv ct) ⟨us, ks.zip ws⟩ = pure (ps.zip (g us ws))) : CalK P w K mg base k x n ks gV sp := by
  obtain ⟨f, fd, F, O, hm⟩ := D.ex
  refine ⟨f, fd, ps, g, O, hm, F.kp, ?_⟩
  obtain ⟨oc, od, dV, kV, doc, pm, an, cdv, ct, osl, rfl, lk, hcd, hD, hK⟩ := F.ex
  rcases hD with ⟨_, rfl⟩ | ⟨e, _⟩
  · exact ⟨fun s us ws X l1 l2 => .of_eq (hb kV doc pm an cdv ct us ws l1 l2), fun r1 r2 => hrel r1 r2⟩
  · exact absurd rfl e
theorem pe_cK0 {X : Cx} {j : Nat} {ks : List Str} {gV : List V → List V → List V} {p pos : Pos} {kws : List Keyword} {tk : TA} (c : CalK X.prog X.w X.K X.mg X.base k x 0 ks gV sp) (hr : Room j X.A) (hk : k ≤ j) (hg : Gl X x) (hkw : PK X kws tk)
    (hall : (backToKw pos (keywordEach kws X.env)).all (·.1.isSome) = true := by rfl) (hks : (backToKw pos (keywordEach kws X.env)).filterMap (·.1) = ks := by rfl) (hdb : (x == ("__debug__" : Str)) = false := by decide)
    (hpl : ((backTo pos (starEach [] X.env)).any (·.1) || (backToKw pos (keywordEach kws X.env)).any (·.1.isNone)) = false := by rfl) :
    PE X (.Call (.Name x p) [] kws pos) (tCallN 0 ks.length sp gV C8.E0 tNil tk) := by
  obtain ⟨f, fd, ps, g, F, hm, kp, hb⟩ := c.ex
  refine ⟨fun pins s σ H Q I h => ?_⟩
  refine wpAny_Call_Name_kw (ld_glob I hg hm ?_ hdb)
  refine PySem.W.callWith_KW0 (h₀ := X.base) I.ok.mod.kin kp hall ?_ hpl
  refine thn (hkw.run pos pins s σ H _ I h) fun ws s2 ⟨zs, H2, I2, rz, l1, l2, q2⟩ => ⟨I2.kIn, ?_⟩
  rw [hks]
  exact run_fnN (us := []) (vs := []) F (hr.mono hk) hb C8.pass0 I2 .nil rz rfl l2 q2
end
end EL
set_option maxHeartbeats 4000000
/-! ### EL6: draws -/
namespace EL
open PySem PySem.Spec PyProof.Rows L2 Evl
section
variable {K : PySem.W.Frag} {σ : HSt} {F H : Hp} {ta tb te td ty : TE} {m n : Nat} {a : Addr} {v y : V}
theorem rvn_pow (h : m < 2 ^ 64) (hn : n ≤ 1000000) : RV (rI CPow fun i j => .int (i ^ j.toNat)) (vn m) (vn n) F (vn (m ^ n)) := RV.is (rv_I ⟨by omega, by omega, by omega⟩) (congrArg V.int (by rw [Int.toNat_natCast, Int.natCast_pow]))
theorem ev_dget {kvs : List (Key × V)} {k : Key} (h : Ev td σ F (.ref a)) (hy : Ev ty σ F (kV k)) (hd : F a = some (.dK kvs)) (hv : valV kvs k = some v) : Ev (tDGet td ty) σ F v := fun H1 e Q q =>
  h H1 e _ fun H2 e2 => hy H2 (e.trans e2) _ fun H3 e3 => ⟨a, v, rfl, by
    have := DGet.k (k := k) (((e.trans e2).trans e3) _ _ hd)
    rw [hv] at this
    exact this, q H3 (e2.trans e3)⟩
/-- l.pop(i) -/
theorem pop_at {l : Addr} {xs : List V} {j : Nat} {x : V} {Q : VK} (h : Ev te σ H (.ref l)) (hj : Ev ta σ H (vn j)) (hl : H l = some (.lst xs)) (hx : xs[j]? = some x) (hz : xs.length ≤ 100000) (k : ∀ H2, Ex H H2 → Q x (upd H2 l (.lst (xs.eraseIdx j)))) : tBM K "list" rPopAt te (tCons ta tNil) σ H Q :=
  h H (Ex.refl H) _ fun H1 e1 => ⟨.inl ⟨rfl, xs, sq_of (e1 _ _ hl)⟩, hj H1 e1 _ fun H2 e2 => by
    obtain ⟨hlt, _⟩ := List.getElem?_eq_some_iff.mp hx
    refine ⟨l, xs, (j : Int), j, x, rfl, rfl, (e1.trans e2) _ _ hl, by omega, by omega, ?_, hx, k H2 (e1.trans e2)⟩
    unfold seqIndex?
    simp only
    rw [if_neg (show ¬ ((j : Int) < 0) by omega)]
    simp
    omega⟩
end
/-! the heap of draws -/
abbrev kDg : Key := .inr "digits"
abbrev kGr : Key := .inr "great"
abbrev kLu : Key := .inr "lumps"
abbrev kTu : Key := .inr "turn"
def drK (dg t : Nat) (g l : Addr) : List (Key × V) := [(kDg, vn dg), (kGr, .ref g), (kLu, .ref l), (kTu, vn t)]
section
variable {dg t x : Nat} {g l : Addr}
theorem k_dg_gr : decide (kDg = kGr) = false := by decide +kernel
theorem k_dg_lu : decide (kDg = kLu) = false := by decide +kernel
theorem k_dg_tu : decide (kDg = kTu) = false := by decide +kernel
theorem k_gr_dg : decide (kGr = kDg) = false := by decide +kernel
theorem k_gr_lu : decide (kGr = kLu) = false := by decide +kernel
theorem k_gr_tu : decide (kGr = kTu) = false := by decide +kernel
theorem k_lu_dg : decide (kLu = kDg) = false := by decide +kernel
theorem k_lu_gr : decide (kLu = kGr) = false := by decide +kernel
theorem k_lu_tu : decide (kLu = kTu) = false := by decide +kernel
theorem k_tu_dg : decide (kTu = kDg) = false := by decide +kernel
theorem k_tu_gr : decide (kTu = kGr) = false := by decide +kernel
theorem k_tu_lu : decide (kTu = kLu) = false := by decide +kernel
theorem dr_dg : valV (drK dg t g l) kDg = some (vn dg) := by
  unfold valV drK
  rw [List.find?_cons]
  simp
theorem dr_gr : valV (drK dg t g l) kGr = some (.ref g) := by
  unfold valV drK
  simp only [List.find?_cons, k_dg_gr, decide_true, Option.map_some]
theorem dr_lu : valV (drK dg t g l) kLu = some (.ref l) := by
  unfold valV drK
  simp only [List.find?_cons, k_dg_lu, k_gr_lu, decide_true, Option.map_some]
theorem dr_tu : valV (drK dg t g l) kTu = some (vn t) := by
  unfold valV drK
  simp only [List.find?_cons, k_dg_tu, k_gr_tu, k_lu_tu, decide_true, Option.map_some]
theorem put_dg : putK (drK dg t g l) kDg (vn x) = drK x t g l := by
  unfold putK drK
  have h1 : ¬ kGr = kDg := of_decide_eq_false k_gr_dg
  have h2 : ¬ kLu = kDg := of_decide_eq_false k_lu_dg
  have h3 : ¬ kTu = kDg := of_decide_eq_false k_tu_dg
  rw [if_pos (by simp)]
  simp only [List.map_cons, List.map_nil, if_pos, if_neg h1, if_neg h2, if_neg h3]
theorem put_tu : putK (drK dg t g l) kTu (vn x) = drK dg x g l := by
  unfold putK drK
  have h1 : ¬ kGr = kTu := of_decide_eq_false k_gr_tu
  have h2 : ¬ kLu = kTu := of_decide_eq_false k_lu_tu
  have h3 : ¬ kDg = kTu := of_decide_eq_false k_dg_tu
  rw [if_pos (by simp)]
  simp only [List.map_cons, List.map_nil, if_pos, if_neg h1, if_neg h2, if_neg h3]
theorem drK_len : (drK dg t g l).length < sizeLine := by
  show 4 < sizeLine
  exact sz_lt (by decide)
end
/-- where the draws stand -/
structure Dp where
  d : Addr
  g : Addr
  l : Addr
  ls : List Nat
structure Dw (D : Dp) (n : Nat) (F H : Hp) : Prop where
  ex : Ex F H
  fd : F D.d = none
  fg : F D.g = none
  ne : D.d ≠ D.g
  nl : D.l ≠ D.g
  dr : ∃ t dg, t ≤ n ∧ H D.d = some (.dK (drK dg t D.g D.l))
  gr : ∃ gs : List Nat, gs.length ≤ 1000 ∧ H D.g = some (.lst (vns gs))
  lm : H D.l = some (.lst (vns D.ls))
/-- from (F, H) to (F2, H2): draws alone change, what F2 knows more is new -/
structure Go (D : Dp) (n : Nat) (F H F2 H2 : Hp) : Prop where
  ex : Ex F F2
  nw : ∀ b, F b = none → H b ≠ none → F2 b = none
  kp : ∀ b o, b ≠ D.d → b ≠ D.g → H b = some o → H2 b = some o
  dw : Dw D n F2 H2
section
variable {D : Dp} {n n' n1 n2 : Nat} {F F1 F2 F3 H H1 H2 H3 : Hp} {p : Addr} {o : HO} {xs : List V}
theorem Dw.some_d (w : Dw D n F H) : H D.d ≠ none := by
  obtain ⟨_, _, _, h⟩ := w.dr
  rw [h]; simp
theorem Dw.some_g (w : Dw D n F H) : H D.g ≠ none := by
  obtain ⟨_, _, h⟩ := w.gr
  rw [h]; simp
theorem Dw.nd (w : Dw D n F H) : D.l ≠ D.d := fun q => by
  obtain ⟨_, _, _, h⟩ := w.dr
  have := w.lm
  rw [q, h] at this
  cases this
theorem Dw.up (w : Dw D n F H) (e : Ex H H1) : Dw D n F H1 := by
  obtain ⟨h1, h2, h3, h4, h0, ⟨t, dg, h5, h6⟩, ⟨gs, h7, h8⟩, h9⟩ := w
  exact ⟨h1.trans e, h2, h3, h4, h0, ⟨t, dg, h5, e _ _ h6⟩, ⟨gs, h7, e _ _ h8⟩, e _ _ h9⟩
theorem Dw.more (w : Dw D n F H) (h : n ≤ n') : Dw D n' F H := by
  obtain ⟨h1, h2, h3, h4, h0, ⟨t, dg, h5, h6⟩, h7, h9⟩ := w
  exact ⟨h1, h2, h3, h4, h0, ⟨t, dg, by omega, h6⟩, h7, h9⟩
/-- another base below the same heap -/
theorem Dw.base (w : Dw D n F H) (e : Ex F1 H) (h1 : F1 D.d = none) (h2 : F1 D.g = none) : Dw D n F1 H := ⟨e, h1, h2, w.ne, w.nl, w.dr, w.gr, w.lm⟩
theorem Dw.go (w : Dw D n F H) (e : Ex H H1) : Go D n F H F H1 := ⟨Ex.refl F, fun b h _ => h, fun b o _ _ h => e _ _ h, w.up e⟩
theorem Dw.rf (w : Dw D n F H) : Go D n F H F H := w.go (Ex.refl H)
/-- the base grows by what is new -/
theorem Dw.goGrow (w : Dw D n F H) (e : Ex H H1) : Go D n F H (grow F H H1) H1 := by
  have nw : ∀ b, F b = none → H b ≠ none → grow F H H1 b = none := fun b h1 h2 => by
    unfold grow
    rw [h1]
    cases h : H b with
    | none => exact absurd h h2
    | some o => rfl
  exact ⟨grow_old, nw, fun b o _ _ h => e _ _ h, (w.up e).base (grow_in w.ex e) (nw _ w.fd w.some_d) (nw _ w.fg w.some_g)⟩
theorem Go.trans (a : Go D n1 F H F1 H1) (b : Go D n2 F1 H1 F2 H2) : Go D n2 F H F2 H2 where
  ex := a.ex.trans b.ex
  nw := fun c h1 h2 => b.nw c (a.nw c h1 h2) (by
    by_cases hd : c = D.d
    · rw [hd]; exact a.dw.some_d
    · by_cases hg : c = D.g
      · rw [hg]; exact a.dw.some_g
      · cases h : H c with
        | none => exact absurd h h2
        | some o => rw [a.kp c o hd hg h]; simp)
  kp := fun c o h1 h2 h => b.kp c o h1 h2 (a.kp c o h1 h2 h)
  dw := b.dw
theorem Go.more (a : Go D n F H F1 H1) (h : n ≤ n') : Go D n' F H F1 H1 := ⟨a.ex, a.nw, a.kp, a.dw.more h⟩
theorem Go.up (a : Go D n F H F1 H1) (e : Ex H1 H2) : Go D n F H F1 H2 := a.trans (a.dw.go e)
/-- a new thing joins the base -/
theorem Dw.goNew (w : Dw D n F H) (hp : H p = none) (e : Ex H H1) (h : H1 p = some o) : Go D n F H (upd F p o) H1 := by
  have fp : F p = none := fresh_back w.ex hp
  have nd : D.d ≠ p := fun q => w.some_d (by rw [q]; exact hp)
  have ng : D.g ≠ p := fun q => w.some_g (by rw [q]; exact hp)
  refine ⟨Ex.new fp, fun b h1 h2 => ?_, fun b o _ _ h => e _ _ h, (w.up e).base (fun b u q => ?_) (by rw [upd_ne nd]; exact w.fd) (by rw [upd_ne ng]; exact w.fg)⟩
  · rw [upd_ne (fun q => h2 (by rw [q]; exact hp))]
    exact h1
  · by_cases hb : b = p
    · rw [hb, upd_same] at q
      rw [hb, h]
      exact q
    · rw [upd_ne hb] at q
      exact e _ _ (w.ex _ _ q)
/-- a local thing that the base does not know is changed -/
theorem Dw.goMut (w : Dw D n F H) (fp : F p = none) (nd : p ≠ D.d) (ng : p ≠ D.g) (nl : p ≠ D.l) : Dw D n F (upd H p o) := by
  obtain ⟨h1, h2, h3, h4, h0, ⟨t, dg, h5, h6⟩, ⟨gs, h7, h8⟩, h9⟩ := w
  exact ⟨Ex.mut h1 fp, h2, h3, h4, h0, ⟨t, dg, h5, by rw [upd_ne (Ne.symm nd)]; exact h6⟩, ⟨gs, h7, by rw [upd_ne (Ne.symm ng)]; exact h8⟩, by rw [upd_ne (Ne.symm nl)]; exact h9⟩
end
/-! evaluation with draws: at most c of them -/
def ED (D : Dp) (c : Nat) (te : TE) (σ : HSt) (F : Hp) (R : V → Hp → Prop) : Prop := ∀ n H1, Dw D n F H1 → n + c ≤ (1099511627776 : Nat) → ∀ Q : VK, (∀ v F2 H2, Go D (n + c) F H1 F2 H2 → R v F2 → Q v H2) → te σ H1 Q
def EDA (D : Dp) (c : Nat) (ta : TA) (σ : HSt) (F : Hp) (R : List V → Hp → Prop) : Prop := ∀ n H1, Dw D n F H1 → n + c ≤ (1099511627776 : Nat) → ∀ Q : List V → Hp → Prop, (∀ vs F2 H2, Go D (n + c) F H1 F2 H2 → R vs F2 → Q vs H2) → ta σ H1 Q
def EDT (D : Dp) (c : Nat) (tt : TT) (σ : HSt) (F : Hp) (R : Bool → Hp → Prop) : Prop := ∀ n H1, Dw D n F H1 → n + c ≤ (1099511627776 : Nat) → ∀ Q : Bool → Hp → Prop, (∀ b F2 H2, Go D (n + c) F H1 F2 H2 → R b F2 → Q b H2) → tt σ H1 Q
/-- a promise with draws -/
def SpD (D : Dp) (c : Nat) (sp : Sp) (vs : List V) (F : Hp) (R : V → Hp → Prop) : Prop := ∀ n H1, Dw D n F H1 → n + c ≤ (1099511627776 : Nat) → ∀ Q : VK, (∀ v F2 H2, Go D (n + c) F H1 F2 H2 → R v F2 → Q v H2) → ∀ E, sp vs H1 Q E
section
variable {K : PySem.W.Frag} {D : Dp} {c c1 c2 : Nat} {te ta tb : TE} {σ : HSt} {F : Hp} {R Ra Rb : V → Hp → Prop} {x v : V} {xs : List V}
theorem ED.mono (h : ED D c te σ F R) (hc : c ≤ c1) (hr : ∀ v F2, Ex F F2 → R v F2 → Ra v F2) : ED D c1 te σ F Ra := fun n H1 w hn Q q =>
  h n H1 w (by omega) Q fun v F2 H2 g r => q v F2 H2 (g.more (by omega)) (hr v F2 g.ex r)
/-- what draws nothing -/
theorem ed_v (h : Ev te σ F v) : ED D 0 te σ F (fun x _ => x = v) := fun n H1 w hn Q q => h H1 w.ex Q fun H2 e2 => q v F H2 (w.go e2) rfl
theorem ed_l (h : EvL te σ F xs) : ED D 0 te σ F (fun x F2 => ∃ p, x = .ref p ∧ F2 p = some (.lst xs)) := fun n H1 w hn Q q => h H1 w.ex Q fun p H2 hp e2 h2 => q _ _ H2 (w.goNew hp e2 h2) ⟨p, rfl, upd_same⟩
theorem ed_u (h : EvU te σ F xs) : ED D 0 te σ F (fun x F2 => ∃ p, x = .ref p ∧ F2 p = some (.tup xs)) := fun n H1 w hn Q q => h H1 w.ex Q fun p H2 hp e2 h2 => q _ _ H2 (w.goNew hp e2 h2) ⟨p, rfl, upd_same⟩
theorem et_v {tt : TT} {b : Bool} (h : EvT tt σ F b) : EDT D 0 tt σ F (fun x _ => x = b) := fun n H1 w hn Q q => h H1 w.ex Q fun H2 e2 => q b F H2 (w.go e2) rfl
theorem ed_op {r : R2} {Rz : V → Hp → Prop} (ha : ED D c1 ta σ F Ra) (hb : ∀ v1 F1, Ex F F1 → Ra v1 F1 → ED D c2 tb σ F1 Rb) (hr : ∀ v1 v2 F1 F2, Ex F F1 → Ex F1 F2 → Ra v1 F1 → Rb v2 F2 → ∃ z, RV r v1 v2 F2 z ∧ Rz z F2) : ED D (c1 + c2) (tOp r ta tb) σ F Rz := fun n H1 w hn Q q =>
  ha n H1 w (by omega) _ fun v1 F1 H2 g1 r1 => hb v1 F1 g1.ex r1 (n + c1) H2 g1.dw (by omega) _ fun v2 F2 H3 g2 r2 => by
    obtain ⟨z, rv, rz⟩ := hr v1 v2 F1 F2 g1.ex g2.ex r1 r2
    exact rv H3 g2.dw.ex _ fun H4 e4 => q z F2 H4 (((g1.trans g2).up e4).more (by omega)) rz
theorem eda_nil : EDA D 0 tNil σ F (fun vs _ => vs = []) := fun n H1 w hn Q q => q [] F H1 w.rf rfl
theorem eda_cons {ts : TA} {Rs Rz : List V → Hp → Prop} (ha : ED D c1 ta σ F Ra) (hb : ∀ v1 F1, Ex F F1 → Ra v1 F1 → EDA D c2 ts σ F1 Rs) (hr : ∀ v1 vs F1 F2, Ex F F1 → Ex F1 F2 → Ra v1 F1 → Rs vs F2 → Rz (v1 :: vs) F2) : EDA D (c1 + c2) (tCons ta ts) σ F Rz := fun n H1 w hn Q q =>
  ha n H1 w (by omega) _ fun v1 F1 H2 g1 r1 => hb v1 F1 g1.ex r1 (n + c1) H2 g1.dw (by omega) _ fun vs F2 H3 g2 r2 => q (v1 :: vs) F2 H3 ((g1.trans g2).more (by omega)) (hr v1 vs F1 F2 g1.ex g2.ex r1 r2)
theorem eda_v {ts : TA} {vs : List V} (h : EvA ts σ F vs) : EDA D 0 ts σ F (fun x _ => x = vs) := fun n H1 w hn Q q => h H1 w.ex Q fun H2 e2 => q vs F H2 (w.go e2) rfl
theorem ed_call {sp : Sp} {dvs : List V} {E : XK} {ts : TA} {Rs : List V → Hp → Prop} (h : EDA D c1 ts σ F Rs) (hs : ∀ vs F1, Ex F F1 → Rs vs F1 → SpD D c2 sp (vs ++ dvs) F1 R) : ED D (c1 + c2) (tCall sp dvs E ts) σ F R := fun n H1 w hn Q q =>
  h n H1 w (by omega) _ fun vs F1 H2 g1 r1 => hs vs F1 g1.ex r1 (n + c1) H2 g1.dw (by omega) Q (fun v F2 H3 g2 r2 => q v F2 H3 ((g1.trans g2).more (by omega)) r2) E
/-- a def that draws nothing, of drawn values -/
theorem ed_callV {sp : Sp} {dvs : List V} {E : XK} {ts : TA} {Rs : List V → Hp → Prop} (h : EDA D c1 ts σ F Rs) (hs : ∀ vs F1, Ex F F1 → Rs vs F1 → ∃ z, SpV sp (vs ++ dvs) F1 z ∧ R z F1) : ED D c1 (tCall sp dvs E ts) σ F R := fun n H1 w hn Q q =>
  h n H1 w hn _ fun vs F1 H2 g1 r1 => by
    obtain ⟨z, hz, rz⟩ := hs vs F1 g1.ex r1
    exact hz H2 g1.dw.ex Q (fun H3 e3 => q z F1 H3 (g1.up e3) rz) E
theorem ed_if {tt : TT} {Rt : Bool → Hp → Prop} (h : EDT D c1 tt σ F Rt) (h1 : ∀ F1, Ex F F1 → Rt true F1 → ED D c2 ta σ F1 R) (h2 : ∀ F1, Ex F F1 → Rt false F1 → ED D c2 tb σ F1 R) : ED D (c1 + c2) (tIf tt ta tb) σ F R := fun n H1 w hn Q q =>
  h n H1 w (by omega) _ fun b F1 H2 g1 r1 => by
    cases b with
    | true => exact h1 F1 g1.ex r1 (n + c1) H2 g1.dw (by omega) Q fun v F2 H3 g2 r2 => q v F2 H3 ((g1.trans g2).more (by omega)) r2
    | false => exact h2 F1 g1.ex r1 (n + c1) H2 g1.dw (by omega) Q fun v F2 H3 g2 r2 => q v F2 H3 ((g1.trans g2).more (by omega)) r2
theorem edt_test (h : ED D c te σ F (fun v F2 => ∃ b, v = .bl b)) : EDT D c (tTest te) σ F (fun _ _ => True) := fun n H1 w hn Q q =>
  h n H1 w hn _ fun v F2 H2 g ⟨b, e⟩ => ⟨b, e, q b F2 H2 g trivial⟩
theorem edt_testR {Ry : Bool → Hp → Prop} (h : ED D c te σ F (fun v F2 => ∃ b, v = .bl b ∧ Ry b F2)) : EDT D c (tTest te) σ F Ry := fun n H1 w hn Q q =>
  h n H1 w hn _ fun v F2 H2 g ⟨b, e, r⟩ => ⟨b, e, q b F2 H2 g r⟩
theorem edt_not {tt : TT} {Ry : Bool → Hp → Prop} (h : EDT D c tt σ F (fun b => Ry (!b))) : EDT D c (tNot tt) σ F Ry := fun n H1 w hn Q q => h n H1 w hn _ fun b F2 H2 g r => q (!b) F2 H2 g r
theorem edt_and {t1 t2 : TT} {Rx Ry Rz : Bool → Hp → Prop} (h1 : EDT D c1 t1 σ F Rx) (h2 : ∀ F1, Ex F F1 → Rx true F1 → EDT D c2 t2 σ F1 Ry) (ht : ∀ b F1, Ry b F1 → Rz b F1) (hf : ∀ F1, Rx false F1 → Rz false F1) : EDT D (c1 + c2) (tAnd t1 t2) σ F Rz := fun n H1 w hn Q q =>
  h1 n H1 w (by omega) _ fun b F1 H2 g1 r1 => by
    cases b with
    | true => exact h2 F1 g1.ex r1 (n + c1) H2 g1.dw (by omega) Q fun b F2 H3 g2 r2 => q b F2 H3 ((g1.trans g2).more (by omega)) (ht b F2 r2)
    | false => exact q false F1 H2 (g1.more (by omega)) (hf F1 r1)
/-- the turns of a comprehension with draws: what comes of each item -/
theorem comp_core {α : Type} {J : It} {j : Nat} {vs : List Nat} {Rp : α → V → Hp → Prop} {n : Nat} {H2 : Hp} {Q : VK} (zs : List α) (inj : α → V) (wk : Wk J F (zs.map inj)) (hz : zs.length ≤ 100000) (hw : ∀ x, wipe ((wipe σ vs).set j (some x)) vs = wipe σ vs)
    (Rm : ∀ z v F1 F2, Ex F1 F2 → Rp z v F1 → Rp z v F2) (he : ∀ z ∈ zs, ∀ F1, Ex F F1 → ED D c te ((wipe σ vs).set j (some (inj z))) F1 (Rp z)) (w : Dw D n F H2) (hn : n + zs.length * c ≤ (1099511627776 : Nat))
    (q : ∀ (p : Addr) (ps : List (α × V)) F2 H3, Go D (n + zs.length * c) F H2 F2 H3 → F2 p = some (.lst (ps.map (·.2))) → ps.map (·.1) = zs → (∀ y ∈ ps, Rp y.1 y.2 F2) → Q (.ref p) H3) (Dl : Addr) (hD : H2 Dl = none) :
    ∃ W : Nat → Nat → Hp → Prop, (∃ m, W 0 m (upd H2 Dl (.lst []))) ∧ ∀ i m H, W i m H →
      (J.stop i H ∧ Q (.ref Dl) H) ∨ (J.go i H ∧ ∃ Nx : Hp → Prop, (∀ H', Nx H' → ∃ m', m' < m ∧ W (i + 1) m' H') ∧ ∀ x H', J.yld i H x H' → (gName j) x (wipe σ vs) H' fun σ2 H2 => wipe σ2 vs = wipe σ vs ∧ tYes σ2 H2 fun b H3 =>
        if b = true then te σ2 H3 fun y H4 => ∃ acc, H4 Dl = some (.lst acc) ∧ acc.length < sizeLine ∧ Nx (upd H4 Dl (.lst (acc ++ [y]))) else Nx H3) := by
  have nd : Dl ≠ D.d := fun z => w.some_d (by rw [← z]; exact hD)
  have ng : Dl ≠ D.g := fun z => w.some_g (by rw [← z]; exact hD)
  have nl : Dl ≠ D.l := fun z => by
    have := w.lm
    rw [← z, hD] at this
    cases this
  have fD : F Dl = none := fresh_back w.ex hD
  refine lc_wk (F := F) wk (fun i H' => ∃ (G : Hp) (ps : List (α × V)), Go D (n + i * c) F H2 G H' ∧ G Dl = none ∧ H' Dl = some (.lst (ps.map (·.2))) ∧ ps.map (·.1) = zs.take i ∧ ∀ y ∈ ps, Rp y.1 y.2 G) ?_ (fun i H' ⟨G, ys, g, _⟩ => g.ex.trans g.dw.ex) (fun i x H' hx ⟨G, ps, g, gD, hl, hy, hR⟩ => ?_) (fun H' ⟨G, ps, g, gD, hl, hy, hR⟩ => ?_)
  · refine ⟨F, [], ⟨Ex.refl F, fun b h _ => h, fun b o h1 h2 h => ?_, ?_⟩, fD, upd_same, rfl, fun y hy => absurd hy (by simp)⟩
    · rw [upd_ne (ne_of_none h hD)]
      exact h
    · rw [Nat.zero_mul]
      exact w.goMut fD nd ng nl
  · rw [List.getElem?_map] at hx
    cases hz' : zs[i]? with
    | none => rw [hz'] at hx; cases hx
    | some z =>
      rw [hz'] at hx
      cases hx
      obtain ⟨hlt, hzi⟩ := List.getElem?_eq_some_iff.mp hz'
      have hmem : z ∈ zs := by rw [← hzi]; exact List.getElem_mem hlt
      have hmul : (i + 1) * c ≤ zs.length * c := Nat.mul_le_mul_right c hlt
      have hsucc : (i + 1) * c = i * c + c := Nat.succ_mul i c
      have hpl : ps.length = i := by
        have := congrArg List.length hy
        rw [List.length_map, List.length_take] at this
        omega
      refine ⟨hw _, ?_⟩
      show te _ H' _
      refine he z hmem G g.ex (n + i * c) H' g.dw (by omega) _ fun y F2 H4 g2 r2 => ?_
      have hl4 : H4 Dl = some (.lst (ps.map (·.2))) := g2.kp Dl _ nd ng hl
      have f2 : F2 Dl = none := g2.nw Dl gD (by rw [hl]; simp)
      have g3 := g.trans g2
      refine ⟨_, hl4, sz_lt (by rw [List.length_map]; omega), F2, ps ++ [(z, y)], ⟨g3.ex, g3.nw, fun b o h1 h2 h => ?_, ?_⟩, f2, ?_, ?_, fun u hu => ?_⟩
      · rw [upd_ne (ne_of_none h hD)]
        exact g3.kp b o h1 h2 h
      · rw [hsucc, ← Nat.add_assoc]
        exact g3.dw.goMut f2 nd ng nl
      · rw [List.map_append]
        exact upd_same
      · rw [List.map_append, hy, List.take_add_one, hz'] <;> rfl
      · rcases List.mem_append.mp hu with h | h
        · exact Rm _ _ G F2 g2.ex (hR u h)
        · rw [List.mem_singleton.mp h]
          exact r2
  · rw [List.length_map] at g hy
    have nw2 : upd G Dl (.lst (ps.map (·.2))) D.d = none ∧ upd G Dl (.lst (ps.map (·.2))) D.g = none := ⟨by rw [upd_ne (Ne.symm nd)]; exact g.dw.fd, by rw [upd_ne (Ne.symm ng)]; exact g.dw.fg⟩
    have exG : Ex G (upd G Dl (.lst (ps.map (·.2)))) := Ex.new gD
    refine q _ ps (upd G Dl (.lst (ps.map (·.2)))) H' ⟨g.ex.trans exG, fun b h1 h2 => ?_, fun b o h1 h2 h => g.kp b o h1 h2 h, g.dw.base (fun b u q => ?_) nw2.1 nw2.2⟩ upd_same (by rw [hy, List.take_length]) (fun y h => Rm _ _ G _ exG (hR y h))
    · rw [upd_ne (fun z => h2 (by rw [z]; exact hD))]
      exact g.nw b h1 h2
    · by_cases hb : b = Dl
      · rw [hb, upd_same] at q
        rw [hb, hl]
        exact q
      · rw [upd_ne hb] at q
        exact g.dw.ex _ _ q
/-- [.. for x in ..] with draws, the items of a list that stands -/
theorem ed_compP {α : Type} {wi : TI} {j : Nat} {vs : List Nat} {Rp : α → V → Hp → Prop} (zs : List α) (inj : α → V) (hi : EvI wi σ F (zs.map inj)) (hz : zs.length ≤ 100000) (hw : ∀ x, wipe ((wipe σ vs).set j (some x)) vs = wipe σ vs)
    (Rm : ∀ z v F1 F2, Ex F1 F2 → Rp z v F1 → Rp z v F2) (he : ∀ z ∈ zs, ∀ F1, Ex F F1 → ED D c te ((wipe σ vs).set j (some (inj z))) F1 (Rp z)) :
    ED D (zs.length * c) (tLc wi (gName j) tYes te vs) σ F (fun x F2 => ∃ (p : Addr) (ps : List (α × V)), x = .ref p ∧ F2 p = some (.lst (ps.map (·.2))) ∧ ps.map (·.1) = zs ∧ ∀ y ∈ ps, Rp y.1 y.2 F2) := fun n H1 w0 hn Q q => hi H1 w0.ex _ fun J H2 e1 wk Dl hD =>
  comp_core zs inj wk hz hw Rm he (w0.up e1) hn (fun p ps F2 H3 g h1 h2 h3 => q _ F2 H3 ((w0.go e1).trans g) ⟨p, ps, rfl, h1, h2, h3⟩) Dl hD
theorem ed_comp {α : Type} {wi : TI} {j : Nat} {vs : List Nat} (zs : List α) (inj : α → V) (hi : EvI wi σ F (zs.map inj)) (hz : zs.length ≤ 100000) (hw : ∀ x, wipe ((wipe σ vs).set j (some x)) vs = wipe σ vs)
    (Rm : ∀ v F1 F2, Ex F1 F2 → R v F1 → R v F2) (he : ∀ z ∈ zs, ∀ F1, Ex F F1 → ED D c te ((wipe σ vs).set j (some (inj z))) F1 R) :
    ED D (zs.length * c) (tLc wi (gName j) tYes te vs) σ F (fun x F2 => ∃ p xs, x = .ref p ∧ F2 p = some (.lst xs) ∧ xs.length = zs.length ∧ ∀ y ∈ xs, R y F2) :=
  ED.mono (ed_compP (Rp := fun _ => R) zs inj hi hz hw (fun _ => Rm) he) (Nat.le_refl _) fun v F2 _ ⟨p, ps, h1, h2, h3, h4⟩ => ⟨p, ps.map (·.2), h1, h2, by rw [← h3, List.length_map, List.length_map], fun y hy => by
    obtain ⟨u, hu, rfl⟩ := List.mem_map.mp hy
    exact h4 u hu⟩
theorem wk_rngn {F : Hp} {n : Nat} : Wk (Itr 0 ((n : Int)).toNat) F (vns (List.range n)) := by
  have e : ((List.range ((n : Int)).toNat).map fun i => V.int (0 + (i : Nat))) = vns (List.range n) := by
    rw [Int.toNat_natCast]
    exact List.map_congr_left fun i _ => by rw [Int.zero_add]
  rw [← e]
  exact wk_rng
/-- .. for k in range(a drawn number) -/
theorem ed_compR {ts : TA} {j : Nat} {vs : List Nat} {M : Nat} (h : EDA D c1 ts σ F (fun xs _ => ∃ m : Nat, xs = [vn m] ∧ m ≤ M)) (hM : M ≤ 100000) (hw : ∀ x, wipe ((wipe σ vs).set j (some x)) vs = wipe σ vs)
    (Rm : ∀ v F1 F2, Ex F1 F2 → R v F1 → R v F2) (he : ∀ z F1, Ex F F1 → ED D c te ((wipe σ vs).set j (some (vn z))) F1 R) :
    ED D (c1 + M * c) (tLc (iRng1 ts) (gName j) tYes te vs) σ F (fun x F2 => ∃ p xs, x = .ref p ∧ F2 p = some (.lst xs) ∧ xs.length ≤ M ∧ ∀ y ∈ xs, R y F2) := fun n H1 w hn Q q =>
  h n H1 w (by omega) _ fun xs F1 H2 g1 ⟨m, e, hm⟩ => by
    subst e
    have hl : (List.range m).length = m := List.length_range
    have hmc : m * c ≤ M * c := Nat.mul_le_mul_right c hm
    refine ⟨(m : Int), rfl, by omega, by omega, fun Dl hD => comp_core (Rp := fun _ => R) (List.range m) vn wk_rngn (by omega) hw (fun _ => Rm) (fun z _ F2 x2 => he z F2 (g1.ex.trans x2)) g1.dw (by rw [hl]; omega) (fun p ps F2 H3 g h1 h2 h3 => q _ F2 H3 ((g1.trans g).more (by rw [hl]; omega)) ⟨p, ps.map (·.2), rfl, h1, ?_, fun y hy => ?_⟩) Dl hD⟩
    · have := congrArg List.length h2
      rw [List.length_map, hl] at this
      rw [List.length_map]
      omega
    · obtain ⟨u, hu, rfl⟩ := List.mem_map.mp hy
      exact h3 u hu
end
/-! statements -/
section
variable {K : PySem.W.Frag} {D : Dp} {n c : Nat} {te : TE} {tt : TT} {σ : HSt} {F H : Hp} {R : V → Hp → Prop} {Dn : Ends} {tz tu tw : TS}
theorem dq_asg {i : Nat} (w : Dw D n F H) (h : ED D c te σ F R) (hn : n + c ≤ (1099511627776 : Nat)) (k : ∀ v F2 H2, Go D (n + c) F H F2 H2 → R v F2 → tz Dn (σ.set i (some v)) H2) : tSeq (tAsg te (gName i)) tz Dn σ H := h n H w hn _ fun v F2 H2 g r => k v F2 H2 g r
theorem d_ret (w : Dw D n F H) (h : ED D c te σ F R) (hn : n + c ≤ (1099511627776 : Nat)) (k : ∀ v F2 H2, Go D (n + c) F H F2 H2 → R v F2 → Dn.rt v H2) : tRet te Dn σ H := h n H w hn _ fun v F2 H2 g r => k v F2 H2 g r
theorem dq_when {Rt : Bool → Hp → Prop} (w : Dw D n F H) (h : EDT D c tt σ F Rt) (hn : n + c ≤ (1099511627776 : Nat)) (h1 : ∀ F2 H2, Go D (n + c) F H F2 H2 → Rt true F2 → tu { Dn with nx := tz Dn } σ H2) (h2 : ∀ F2 H2, Go D (n + c) F H F2 H2 → Rt false F2 → tz Dn σ H2) : tSeq (tIfS tt tu tNext) tz Dn σ H := h n H w hn _ fun b F2 H2 g r => by
  cases b with
  | true => exact h1 F2 H2 g r
  | false => exact h2 F2 H2 g r
end
end EL
set_option maxHeartbeats 4000000
/-! ### EL7: more evaluations with draws -/
namespace EL
open PySem PySem.Spec PyProof.Rows L2 Evl
/-- f() -/
theorem pe_c0 {X : Cx} {k j : Nat} {x : Str} {sp : Sp} {dvs : List V} {p pos : Pos} (c : C8.Cal X.prog X.w X.K X.mg X.base k x sp dvs) (hr : Room j X.A) (hk : k ≤ j) (hg : Gl X x) (hdb : (x == ("__debug__" : Str)) = false := by decide) :
    PE X (.Call (.Name x p) [] [] pos) (tCall sp dvs C8.E0 tNil) := by
  obtain ⟨f, fd, ps, ds, F, hm, kp, b, d⟩ := c
  exact pe_call0 F (hr.mono hk) hg hm kp b d C8.pass0 hdb
/-- len of a list or of a text -/
def rLenV (K : PySem.W.Frag) : List V → Hp → VK → Prop := fun xs H Q => ∃ x n, xs = [x] ∧ LenV K x H n ∧ Q (.int n) H
/-- an operator that may make something -/
def RD (D : Dp) (r : L2.R2) (x y : V) (F : Hp) (Rz : V → Hp → Prop) : Prop := ∀ n H1, Dw D n F H1 → ∀ Q : VK, (∀ v F2 H2, Go D n F H1 F2 H2 → Rz v F2 → Q v H2) → r x y H1 Q
section
variable {K : PySem.W.Frag} {D : Dp} {c c1 c2 n : Nat} {te ta tb : TE} {ts : TA} {σ : HSt} {F H : Hp} {R Ra Rb Rz : V → Hp → Prop} {Rs Rt : List V → Hp → Prop} {x y v : V} {xs ys : List V} {r : L2.R2}
theorem rd_v {z : V} (h : RV r x y F z) : RD D r x y F (fun v _ => v = z) := fun n H1 w Q q => h H1 w.ex Q fun H2 e2 => q z F H2 (w.go e2) rfl
theorem ed_op2 (ha : ED D c1 ta σ F Ra) (hb : ∀ v1 F1, Ex F F1 → Ra v1 F1 → ED D c2 tb σ F1 Rb) (hr : ∀ v1 v2 F1 F2, Ex F F1 → Ex F1 F2 → Ra v1 F1 → Rb v2 F2 → RD D r v1 v2 F2 Rz) : ED D (c1 + c2) (tOp r ta tb) σ F Rz := fun n H1 w hn Q q =>
  ha n H1 w (by omega) _ fun v1 F1 H2 g1 r1 => hb v1 F1 g1.ex r1 (n + c1) H2 g1.dw (by omega) _ fun v2 F2 H3 g2 r2 =>
    hr v1 v2 F1 F2 g1.ex g2.ex r1 r2 _ H3 g2.dw Q fun v F3 H4 g3 rz => q v F3 H4 (((g1.trans g2).trans g3).more (by omega)) rz
theorem rd_catT {a b : Addr} (h1 : SqT K F a xs) (h2 : SqT K F b ys) (hx : xs ≠ []) (hy : ys ≠ []) (hl : xs.length + ys.length ≤ 100000) : RD D (rCatT K) (.ref a) (.ref b) F (fun v F2 => ∃ p, v = .ref p ∧ F2 p = some (.tup (xs ++ ys))) := fun n H1 w Q q =>
  ⟨a, b, xs, ys, rfl, rfl, ex_t w.ex h1, ex_t w.ex h2, hx, sz_of hl, fun z => absurd z hy, fun _ p hp => q _ _ _ (w.goNew hp (Ex.new hp) upd_same) ⟨p, rfl, upd_same⟩⟩
theorem EDA.mono (h : EDA D c ts σ F Rs) (hc : c ≤ c1) (hr : ∀ v F2, Ex F F2 → Rs v F2 → Rt v F2) : EDA D c1 ts σ F Rt := fun n H1 w hn Q q => h n H1 w (by omega) Q fun v F2 H2 g r => q v F2 H2 (g.more (by omega)) (hr v F2 g.ex r)
theorem ed_tup (h : EDA D c ts σ F Rs) (hl : ∀ vs F1, Rs vs F1 → vs.length ≤ 100000) (hm : ∀ vs F1 F2, Ex F1 F2 → Rs vs F1 → Rt vs F2) : ED D c (tTup ts) σ F (fun v F2 => ∃ p vs, v = .ref p ∧ F2 p = some (.tup vs) ∧ Rt vs F2) := fun n H1 w hn Q q =>
  h n H1 w hn _ fun vs F1 H2 g r => ⟨sz_of (hl vs F1 r), fun p hp => by
    have g2 := g.dw.goNew hp (Ex.new hp) (upd_same (o := .tup vs))
    exact q _ _ _ (g.trans g2) ⟨p, vs, rfl, upd_same, hm vs F1 _ g2.ex r⟩⟩
theorem ed_lst (h : EDA D c ts σ F Rs) (hl : ∀ vs F1, Rs vs F1 → vs.length ≤ 100000) (hm : ∀ vs F1 F2, Ex F1 F2 → Rs vs F1 → Rt vs F2) : ED D c (tLst ts) σ F (fun v F2 => ∃ p vs, v = .ref p ∧ F2 p = some (.lst vs) ∧ Rt vs F2) := fun n H1 w hn Q q =>
  h n H1 w hn _ fun vs F1 H2 g r => ⟨sz_of (hl vs F1 r), fun p hp => by
    have g2 := g.dw.goNew hp (Ex.new hp) (upd_same (o := .lst vs))
    exact q _ _ _ (g.trans g2) ⟨p, vs, rfl, upd_same, hm vs F1 _ g2.ex r⟩⟩
/-- two at once: first a value for one, then the other -/
theorem dq_par {i j : Nat} {Dn : Ends} {tz : TS} (w : Dw D n F H) (h1 : ED D c1 ta σ F Ra) (h2 : ∀ v1 F1, Ex F F1 → Ra v1 F1 → ED D c2 tb σ F1 Rb) (hn : n + (c1 + c2) ≤ (1099511627776 : Nat)) (k : ∀ v1 v2 F1 F2 H2, Ex F1 F2 → Go D (n + (c1 + c2)) F H F2 H2 → Ra v1 F1 → Rb v2 F2 → tz Dn ((σ.set i (some v1)).set j (some v2)) H2) :
    tSeq (tPar i j (tCons ta (tCons tb tNil))) tz Dn σ H :=
  h1 n H w (by omega) _ fun v1 F1 H1 g1 r1 => h2 v1 F1 g1.ex r1 _ H1 g1.dw (by omega) _ fun v2 F2 H2 g2 r2 => ⟨v1, v2, rfl, k v1 v2 F1 F2 H2 g2.ex ((g1.trans g2).more (by omega)) r1 r2⟩
/-- .. where a new tuple is made of them -/
theorem dq_parT {g : TGs} {Dn : Ends} {tz : TS} (w : Dw D n F H) (h1 : ED D c1 ta σ F Ra) (h2 : ∀ v1 F1, Ex F F1 → Ra v1 F1 → ED D c2 tb σ F1 Rb) (hn : n + (c1 + c2) ≤ (1099511627776 : Nat)) (k : ∀ v1 v2 F1 F2 H2, Ex F1 F2 → Go D (n + (c1 + c2)) F H F2 H2 → Ra v1 F1 → Rb v2 F2 → g [v1, v2] σ H2 fun σ' H' => tz Dn σ' H') :
    tSeq (tAsg (tTup (tCons ta (tCons tb tNil))) (gTup K 2 g)) tz Dn σ H :=
  h1 n H w (by omega) _ fun v1 F1 H1 g1 r1 => h2 v1 F1 g1.ex r1 _ H1 g1.dw (by omega) _ fun v2 F2 H2 g2 r2 => ⟨sz_of (show 2 ≤ 100000 by decide), fun p hp => ⟨p, [v1, v2], rfl, st_of upd_same, rfl, k v1 v2 F1 F2 _ g2.ex (((g1.trans g2).up (Ex.new hp)).more (by omega)) r1 r2⟩⟩
/-- the joined text of signs out of S -/
theorem sum_len {ys : List Str} {B : Nat} (h : ∀ y ∈ ys, y.length ≤ B) : (ys.map (·.length)).sum ≤ ys.length * B := by
  induction ys with
  | nil => simp
  | cons y ys ih =>
    rw [List.map_cons, List.sum_cons, List.length_cons, Nat.succ_mul]
    have h1 := h y List.mem_cons_self
    have h2 := ih fun z hz => h z (List.mem_cons_of_mem _ hz)
    omega
theorem strs_of {xs : List V} {P : Str → Prop} (h : ∀ v ∈ xs, ∃ z : Str, v = .str z ∧ P z) : ∃ ys : List Str, xs = ys.map V.str ∧ ∀ z ∈ ys, P z := by
  induction xs with
  | nil => exact ⟨[], rfl, fun z hz => absurd hz (by simp)⟩
  | cons x xs ih =>
    obtain ⟨z, rfl, hz⟩ := h x List.mem_cons_self
    obtain ⟨ys, rfl, hy⟩ := ih fun v hv => h v (List.mem_cons_of_mem _ hv)
    exact ⟨z :: ys, rfl, fun u hu => by
      rcases List.mem_cons.mp hu with e | e
      · rw [e]; exact hz
      · exact hy u e⟩
theorem nats_of {xs : List V} {P : Nat → Prop} (h : ∀ v ∈ xs, ∃ z : Nat, v = vn z ∧ P z) : ∃ ys : List Nat, xs = vns ys ∧ ∀ z ∈ ys, P z := by
  induction xs with
  | nil => exact ⟨[], rfl, fun z hz => absurd hz (by simp)⟩
  | cons x xs ih =>
    obtain ⟨z, rfl, hz⟩ := h x List.mem_cons_self
    obtain ⟨ys, rfl, hy⟩ := ih fun v hv => h v (List.mem_cons_of_mem _ hv)
    exact ⟨z :: ys, rfl, fun u hu => by
      rcases List.mem_cons.mp hu with e | e
      · rw [e]; exact hz
      · exact hy u e⟩
theorem joinL_mem {S : List Nat} : ∀ {yss : List (List Nat)} {c : Nat}, c ∈ TL.joinL S yss → c ∈ S ∨ ∃ y ∈ yss, c ∈ y
  | [], c, h => by cases h
  | [p], c, h => .inr ⟨p, List.mem_singleton.mpr rfl, h⟩
  | p :: q :: r, c, h => by
    have h : c ∈ p ++ (S ++ TL.joinL S (q :: r)) := h
    rcases List.mem_append.mp h with h | h
    · exact .inr ⟨p, List.mem_cons_self, h⟩
    rcases List.mem_append.mp h with h | h
    · exact .inl h
    · rcases joinL_mem h with h | ⟨y, hy, h⟩
      · exact .inl h
      · exact .inr ⟨y, List.mem_cons_of_mem _ hy, h⟩
theorem joinL_len {S : List Nat} : ∀ yss : List (List Nat), (TL.joinL S yss).length ≤ (yss.map List.length).sum + yss.length * S.length
  | [] => by simp [TL.joinL]
  | [p] => by simp [TL.joinL]
  | p :: q :: r => by
    have ih := joinL_len (S := S) (q :: r)
    show (p ++ (S ++ TL.joinL S (q :: r))).length ≤ _
    rw [List.length_append, List.length_append, List.map_cons, List.sum_cons, List.length_cons, Nat.succ_mul]
    omega
theorem join_mem {x : Str} {ys : List Str} {c : Nat} (h : c ∈ (Txt.join x ys).cps.toList) : c ∈ x.cps.toList ∨ ∃ y ∈ ys, c ∈ y.cps.toList := by
  have e := TL.tl_join x ys
  rw [← TL.join_eq] at e
  have h2 : c ∈ TL.tl (Txt.join x ys) := h
  rw [e] at h2
  rcases joinL_mem h2 with h | ⟨y, hy, h⟩
  · exact .inl h
  · obtain ⟨z, hz, rfl⟩ := List.mem_map.mp hy
    exact .inr ⟨z, hz, h⟩
theorem join_len {x : Str} {ys : List Str} : (Txt.join x ys).length ≤ (ys.map (·.length)).sum + ys.length * x.length := by
  have e := TL.tl_join x ys
  rw [← TL.join_eq] at e
  have h := joinL_len (S := TL.tl x) (ys.map TL.tl)
  rw [← e, List.map_map, List.length_map] at h
  have l : ∀ z : Str, (TL.tl z).length = z.length := fun z => by unfold TL.tl; simp [Str.length]
  rw [l, l] at h
  have h3 : ys.map (List.length ∘ TL.tl) = ys.map (·.length) := List.map_congr_left fun z _ => l z
  rw [h3] at h
  exact h
theorem ed_join {S : Str → Prop} {B C : Nat} {w : Str} (h1 : Ev ta σ F (.str w)) (h2 : ∀ F1, Ex F F1 → ED D c tb σ F1 (fun v F2 => ∃ p xs, v = .ref p ∧ F2 p = some (.lst xs) ∧ xs.length ≤ C ∧ ∀ y ∈ xs, ∃ z : Str, y = .str z ∧ S z)) (hS : ∀ z, S z → z.length ≤ B) (hl : C * B + C * w.length ≤ 100000) :
    ED D c (tM1 (fun x xs H Q => ∃ a p, ∃ ys : List Str, x = .str a ∧ xs = [.ref p] ∧ (SqL K H p (ys.map V.str) ∨ SqT K H p (ys.map V.str)) ∧ (ys.map (·.length)).sum + ys.length * a.length ≤ 16777216 ∧ Q (.str (Txt.join a ys)) H) ta tb) σ F
      (fun v _ => ∃ ys : List Str, v = .str (Txt.join w ys) ∧ ys.length ≤ C ∧ ∀ z ∈ ys, S z) := fun n H1 w0 hn Q q =>
  h1 H1 w0.ex _ fun H2 e2 => ⟨⟨w, rfl⟩, h2 F (Ex.refl F) n H2 (w0.up e2) hn _ fun v F2 H3 g ⟨p, xs, hv, hp, hC, hx⟩ => by
    subst hv
    obtain ⟨ys, rfl, hy⟩ := strs_of hx
    rw [List.length_map] at hC
    have s1 := sum_len (B := B) fun z hz => hS z (hy z hz)
    have s2 : ys.length * B ≤ C * B := Nat.mul_le_mul_right B hC
    have s3 : ys.length * w.length ≤ C * w.length := Nat.mul_le_mul_right _ hC
    refine ⟨w, p, ys, rfl, rfl, .inl (sq_of (g.dw.ex _ _ hp)), by omega, q _ F2 H3 ⟨g.ex, fun b h1 h2 => g.nw b h1 ?_, fun b o h1 h2 h => g.kp b o h1 h2 (e2 _ _ h), g.dw⟩ ⟨ys, rfl, hC, hy⟩⟩
    cases h : H1 b with
    | none => exact absurd h h2
    | some o => rw [e2 _ _ h]; simp⟩
/-- len of what may be a list or a text -/
theorem ev_lenVL {a : Addr} (h : Ev ta σ F (.ref a)) (hs : SqL K F a xs) : Ev (tCB (rLenV K) (tCons ta tNil)) σ F (vn xs.length) := fun H1 e Q q => h H1 e _ fun H2 e2 => ⟨_, xs.length, rfl, .inl ⟨xs, ex_l (e.trans e2) hs, rfl⟩, q H2 e2⟩
theorem ev_lenVS {w : Str} (h : Ev ta σ F (.str w)) (hl : w.length ≤ 100000) : Ev (tCB (rLenV K) (tCons ta tNil)) σ F (vn w.length) := fun H1 e Q q => h H1 e _ fun H2 e2 => ⟨_, w.length, rfl, ⟨sz_of hl, rfl⟩, q H2 e2⟩
theorem rv_ixAL {a : Addr} {i : Int} (h : SqL K F a xs) (ha : atI xs i = some v) : RV (rIx K) (.ref a) (.int i) F v := fun H1 e Q q => .inl (rv_ixL h ha H1 e Q q)
theorem rv_ixAS {w : Str} {i : Int} {ch : Nat} (h : w.length ≤ 100000) (ha : atI w.cps.toList i = some ch) : RV (rIx K) (.str w) (.int i) F (sgn ch) := fun H1 e Q q => .inr (.inr (rv_ixS h ha H1 e Q q))
theorem rv_adds {a b : Str} (h : a.length + b.length ≤ 100000) : RV (fun x y H Q => ∃ i j, x = .str i ∧ y = .str j ∧ i.length + j.length ≤ sizeLine ∧ Q (.str (i ++ j)) H) (.str a) (.str b) F (.str (a ++ b)) := fun H1 e Q q => ⟨a, b, rfl, rfl, sz_of h, q H1 (Ex.refl H1)⟩
end
end EL
set_option maxHeartbeats 4000000
/-! ### EL8: a text none or one time; local lists beside draws; loops over drawn lists -/
namespace EL
open PySem PySem.Spec PyProof.Rows L2 Evl
def rMulS : L2.R2 := fun x y H Q => ∃ (a : Str) (b : Bool), x = .str a ∧ y = vn (b2n b) ∧ Q (.str (if b = true then a else Str.empty)) H
theorem op_mulS {X : Cx} : OpR X (binaryOp .Mult) rMulS := by
  intro pins s σ H x y v u Q I rx ry h
  obtain ⟨a, b, rfl, rfl, q⟩ := h
  obtain ⟨t, rfl⟩ := rx
  obtain ⟨t', rfl⟩ := ry
  cases b with
  | false => exact PySem.P.mul_str_none (by decide) (by decide) ⟨.str Str.empty, H, I.tok _, ⟨_, rfl⟩, q⟩
  | true =>
    refine PySem.P.mul_str (by decide) (fun _ h => by simp [b2n] at h) (fun _ h => by simp [b2n] at h) ?_
    show Made.post (if ((b2n true : Nat) : Int) < 1 then _ else if (((b2n true : Nat) : Int) == 1 || a.length == 0) = true then _ else _) _ _
    rw [if_neg (by decide), if_pos (by rw [show (((b2n true : Nat) : Int) == 1) = true from rfl] <;> rfl)]
    exact ⟨.str a, H, I, ⟨t, rfl⟩, q⟩
section
variable {K : PySem.W.Frag} {D : Dp} {n n0 c : Nat} {σ : HSt} {F G H H0 H' : Hp} {te : TE} {p : Addr} {o : HO} {xs : List V}
theorem rv_mulS {a : Str} {b : Bool} : RV rMulS (.str a) (vn (b2n b)) F (.str (if b = true then a else Str.empty)) := fun H1 e Q q => ⟨a, b, rfl, rfl, q H1 (Ex.refl H1)⟩
theorem Dw.fr_d (w : Dw D n F H) (hp : H p = none) : p ≠ D.d := fun z => w.some_d (by rw [← z]; exact hp)
theorem Dw.fr_g (w : Dw D n F H) (hp : H p = none) : p ≠ D.g := fun z => w.some_g (by rw [← z]; exact hp)
theorem Dw.fr_l (w : Dw D n F H) (hp : H p = none) : p ≠ D.l := fun z => by
  have := w.lm
  rw [← z, hp] at this
  cases this
/-- a thing that was made since (F, H0), and that the base does not know, is changed -/
theorem Go.mut (g : Go D n F H0 G H') (w0 : Dw D n0 F H0) (hp : H0 p = none) (gp : G p = none) : Go D n F H0 G (upd H' p o) :=
  ⟨g.ex, g.nw, fun b u h1 h2 h => by rw [upd_ne (ne_of_none h hp)]; exact g.kp b u h1 h2 h, g.dw.goMut gp (w0.fr_d hp) (w0.fr_g hp) (w0.fr_l hp)⟩
/-- .. is changed no more -/
theorem Go.fin (g : Go D n F H0 G H') (w0 : Dw D n0 F H0) (hp : H0 p = none) (gp : G p = none) (h : H' p = some o) : Go D n F H0 (upd G p o) H' := by
  refine ⟨g.ex.trans (Ex.new gp), fun b h1 h2 => ?_, g.kp, g.dw.base (fun b u q => ?_) (by rw [upd_ne (Ne.symm (w0.fr_d hp))]; exact g.dw.fd) (by rw [upd_ne (Ne.symm (w0.fr_g hp))]; exact g.dw.fg)⟩
  · rw [upd_ne (fun z => h2 (by rw [z]; exact hp))]
    exact g.nw b h1 h2
  · by_cases hb : b = p
    · rw [hb, upd_same] at q
      rw [hb, h]
      exact q
    · rw [upd_ne hb] at q
      exact g.dw.ex _ _ q
/-- a call keeps it -/
theorem Go.keep {G2 H2 : Hp} {n2 : Nat} (g2 : Go D n2 G H' G2 H2) (w0 : Dw D n0 F H0) (hp : H0 p = none) (gp : G p = none) (h : H' p = some o) : H2 p = some o ∧ G2 p = none :=
  ⟨g2.kp p o (w0.fr_d hp) (w0.fr_g hp) h, g2.nw p gp (by rw [h]; simp)⟩
/-- for x in a list that is made with draws -/
theorem zs_forD {wi : TE} {g : TG} {tu tz : TS} {Dn : Ends} {Rx : List V → Hp → Prop} (w : Dw D n F H) (h : ED D c wi σ F (fun v F2 => ∃ p xs, v = .ref p ∧ F2 p = some (.lst xs) ∧ Rx xs F2)) (hn : n + c ≤ (1099511627776 : Nat))
    (st : ∀ p xs F2 H2, Go D (n + c) F H F2 H2 → F2 p = some (.lst xs) → Rx xs F2 → ∃ Pv : Nat → HSt → Hp → Prop, Pv 0 σ H2 ∧ (∀ i σ' H', Pv i σ' H' → Ex F2 H') ∧ (∀ i x σ' H', xs[i]? = some x → Pv i σ' H' → g x σ' H' fun σ2 H2 => tu { Dn with nx := Pv (i + 1), ct := Pv (i + 1), bk := tz Dn } σ2 H2) ∧ ∀ σ' H', Pv xs.length σ' H' → tz Dn σ' H') :
    tSeq (tFor (iList K wi) g tu) tz Dn σ H := h n H w hn _ fun v F2 H2 g2 ⟨p, xs, hv, hp, r⟩ => by
  obtain ⟨Pv, h0, hE, hs, hd⟩ := st p xs F2 H2 g2 hp r
  subst hv
  exact ⟨p, rfl, ⟨xs, sq_of (g2.dw.ex _ _ hp)⟩, for_wk (wi := iList K wi) (D := { Dn with nx := tz Dn }) (wk_list (sq_of hp)) Pv h0 hE hs hd⟩
end
end EL
set_option maxHeartbeats 4000000
/-! ### EL9: != of lists and of what clash returns; comprehensions with a test, over a new list -/
namespace EL
open PySem PySem.Spec PyProof.Rows L2 Evl
def rNeE (K : PySem.W.Frag) : L2.R2 := fun x y H Q => ∃ (a b : Addr) (xs : List V), x = .ref a ∧ y = .ref b ∧ SqL K H a xs ∧ SqL K H b [] ∧ Q (.bl (!xs.isEmpty)) H
theorem op_neE {X : Cx} (hu : X.A.units < cLine) : OpR X (compareOp .NotEq) (rNeE X.K) := by
  intro pins s σ H x y v u Q I rx ry h
  obtain ⟨a, b, xs, rfl, rfl, ha, hb, q⟩ := h
  cases rx
  cases ry
  obtain ⟨i1, r1, p1, _⟩ := I.list ha
  obtain ⟨i2, r2, p2, _⟩ := I.list hb
  cases r2
  cases xs with
  | nil =>
    cases r1
    exact SeqAt.RcNeAt.lists (e := fun _ => true) p1.isList p2.isList rfl hu (fun j h1 _ => absurd h1 (by simp)) _ _ _ _ ⟨.bl false, H, I, rfl, q⟩
  | cons x xs =>
    refine SeqAt.RcNeAt.lists_lengths p1.isList p2.isList ?_ hu _ _ _ _ ⟨.bl true, H, I, rfl, q⟩
    have := r1.length
    cases i1 with
    | nil => cases this
    | cons _ _ => simp
theorem rv_neE {K : PySem.W.Frag} {F : Hp} {a b : Addr} {xs : List V} (h1 : SqL K F a xs) (h2 : SqL K F b []) : RV (rNeE K) (.ref a) (.ref b) F (.bl (!xs.isEmpty)) := fun H1 e Q q => ⟨a, b, xs, rfl, rfl, ex_l e h1, ex_l e h2, q H1 (Ex.refl H1)⟩
/-- None beside None, a tuple of texts beside an equal one -/
def rNeFc (K : PySem.W.Frag) : L2.R2 := fun x y H Q => ((x = .non ∧ y = .non) ∨ ∃ (a b : Addr) (xs : List Str), x = .ref a ∧ y = .ref b ∧ SqT K H a (xs.map V.str) ∧ SqT K H b (xs.map V.str)) ∧ Q (.bl false) H
theorem op_neFc {X : Cx} (hu : X.A.units < cLine) : OpR X (compareOp .NotEq) (rNeFc X.K) := by
  intro pins s σ H x y v u Q I rx ry h
  obtain ⟨h, q⟩ := h
  rcases h with ⟨rfl, rfl⟩ | ⟨a, b, xs, rfl, rfl, ha, hb⟩
  · cases rx
    cases ry
    exact SeqAt.RcNeAt.none_none _ _ _ _ ⟨.bl false, H, I, rfl, q⟩
  · cases rx
    cases ry
    obtain ⟨i1, r1, p1, _⟩ := I.tuple ha
    obtain ⟨i2, r2, p2, _⟩ := I.tuple hb
    obtain ⟨l1, g1⟩ := vals_texts r1
    obtain ⟨l2, g2⟩ := vals_texts r2
    refine SeqAt.RcNeAt.tuples (e := fun _ => true) p1 p2 hu (fun j h1 h2 => ?_) _ _ _ _ ?_
    · simp only [List.size_toArray] at h1 h2
      have hx : xs[j]? = some xs[j] := List.getElem?_eq_getElem (by omega)
      obtain ⟨t1, e1⟩ := g1 j _ hx
      obtain ⟨t2, e2⟩ := g2 j _ hx
      have f1 : i1.toArray[j] = .str xs[j] t1 := by
        obtain ⟨_, z⟩ := List.getElem?_eq_some_iff.mp e1
        simpa using z
      have f2 : i2.toArray[j] = .str xs[j] t2 := by
        obtain ⟨_, z⟩ := List.getElem?_eq_some_iff.mp e2
        simpa using z
      rw [f1, f2]
      have := SeqAt.EqAt.str_str (A := X.A.in1) (s := s) xs[j] t1 xs[j] t2
      rwa [show (xs[j] == xs[j]) = true from by simp] at this
    · refine ⟨.bl false, H, I, ?_, q⟩
      show Value.bool _ = Value.bool _
      simp [l1, l2]
section
variable {K : PySem.W.Frag} {D : Dp} {c c1 c2 n : Nat} {te ta tb : TE} {tt : TT} {ts : TA} {σ : HSt} {F H : Hp} {x y v : V} {xs ys : List V}
theorem d_asg {R : V → Hp → Prop} {Dn : Ends} {i : Nat} (w : Dw D n F H) (h : ED D c te σ F R) (hn : n + c ≤ (1099511627776 : Nat)) (k : ∀ v F2 H2, Go D (n + c) F H F2 H2 → R v F2 → Dn.nx (σ.set i (some v)) H2) : tAsg te (gName i) Dn σ H := h n H w hn _ fun v F2 H2 g r => k v F2 H2 g r
/-- l.append(m.pop(i)), i drawn -/
theorem d_appPop {tc : TE} {Dn : Ends} {p q : Addr} {ls : List V} (w : Dw D n F H) (hn : n + c ≤ (1099511627776 : Nat)) (hp : H p = some (.lst ls)) (hq : H q = some (.lst ys)) (npq : p ≠ q) (p1 : p ≠ D.d) (p2 : p ≠ D.g) (q1 : q ≠ D.d) (q2 : q ≠ D.g)
    (ha : Ev ta σ F (.ref q)) (hb : Ev tb σ F (.ref p)) (hi : ∀ H1, Ex H H1 → ∀ Q : VK, (∀ (r : Nat) F2 H2, r < ls.length → Go D (n + c) F H1 F2 H2 → Q (vn r) H2) → tc σ H1 Q) (hz : ls.length ≤ 100000) (hy : ys.length < 100000)
    (k : ∀ (r : Nat) F2 H2, (hr : r < ls.length) → Go D (n + c) F H F2 H2 → H2 p = some (.lst ls) → H2 q = some (.lst ys) → Dn.nx σ (upd (upd H2 p (.lst (ls.eraseIdx r))) q (.lst (ys ++ [ls[r]])))) :
    tDrop (tBM K "list" rAppend ta (tCons (tBM K "list" rPopAt tb (tCons tc tNil)) tNil)) Dn σ H := ha H w.ex _ fun H1 e1 =>
  ⟨.inl ⟨rfl, ys, sq_of (e1 _ _ hq)⟩, hb H1 (w.ex.trans e1) _ fun H2 e2 => ⟨.inl ⟨rfl, ls, sq_of (e2 _ _ (e1 _ _ hp))⟩, hi H2 (e1.trans e2) _ fun r F3 H3 hr g => by
    have e12 := e1.trans e2
    have gp := g.kp p _ p1 p2 (e12 _ _ hp)
    have gq := g.kp q _ q1 q2 (e12 _ _ hq)
    refine ⟨p, ls, (r : Int), r, ls[r], rfl, rfl, gp, by omega, by omega, ?_, List.getElem?_eq_getElem hr, q, ys, ls[r], rfl, rfl, by rw [upd_ne (Ne.symm npq)]; exact gq, sz_lt hy, k r F3 H3 hr ((w.go e12).trans g) gp gq⟩
    unfold seqIndex?
    simp only
    rw [if_neg (show ¬ ((r : Int) < 0) by omega)]
    simp
    omega⟩⟩
theorem rd_cat {a b : Addr} (h1 : F a = some (.lst xs)) (h2 : F b = some (.lst ys)) (hl : xs.length + ys.length ≤ 100000) : RD D rCat (.ref a) (.ref b) F (fun v F2 => ∃ p, v = .ref p ∧ F2 p = some (.lst (xs ++ ys))) := fun n H1 w Q q =>
  ⟨a, b, xs, ys, rfl, rfl, w.ex _ _ h1, w.ex _ _ h2, sz_of hl, fun p hp => q _ _ _ (w.goNew hp (Ex.new hp) upd_same) ⟨p, rfl, upd_same⟩⟩
/-- the turns of a comprehension with a test that draws nothing -/
theorem comp_coreF {α : Type} {J : It} {j : Nat} {vs : List Nat} {Rp : α → V → Hp → Prop} {n : Nat} {H2 : Hp} {Q : VK} (zs : List α) (inj : α → V) (f : α → Bool) (wk : Wk J F (zs.map inj)) (hz : zs.length ≤ 100000) (hw : ∀ x, wipe ((wipe σ vs).set j (some x)) vs = wipe σ vs)
    (Rm : ∀ z v F1 F2, Ex F1 F2 → Rp z v F1 → Rp z v F2) (ht : ∀ z ∈ zs, ∀ F1, Ex F F1 → EvT tt ((wipe σ vs).set j (some (inj z))) F1 (f z)) (he : ∀ z ∈ zs, ∀ F1, Ex F F1 → ED D c te ((wipe σ vs).set j (some (inj z))) F1 (Rp z)) (w : Dw D n F H2) (hn : n + zs.length * c ≤ (1099511627776 : Nat))
    (q : ∀ (p : Addr) (ps : List (α × V)) F2 H3, Go D (n + zs.length * c) F H2 F2 H3 → F2 p = some (.lst (ps.map (·.2))) → ps.map (·.1) = zs.filter f → (∀ y ∈ ps, Rp y.1 y.2 F2) → Q (.ref p) H3) (Dl : Addr) (hD : H2 Dl = none) :
    ∃ W : Nat → Nat → Hp → Prop, (∃ m, W 0 m (upd H2 Dl (.lst []))) ∧ ∀ i m H, W i m H →
      (J.stop i H ∧ Q (.ref Dl) H) ∨ (J.go i H ∧ ∃ Nx : Hp → Prop, (∀ H', Nx H' → ∃ m', m' < m ∧ W (i + 1) m' H') ∧ ∀ x H', J.yld i H x H' → (gName j) x (wipe σ vs) H' fun σ2 H2 => wipe σ2 vs = wipe σ vs ∧ tt σ2 H2 fun b H3 =>
        if b = true then te σ2 H3 fun y H4 => ∃ acc, H4 Dl = some (.lst acc) ∧ acc.length < sizeLine ∧ Nx (upd H4 Dl (.lst (acc ++ [y]))) else Nx H3) := by
  have nd := w.fr_d hD
  have ng := w.fr_g hD
  have fD : F Dl = none := fresh_back w.ex hD
  have g0 : Go D n F H2 F (upd H2 Dl (.lst [])) := w.rf.mut w hD fD
  refine lc_wk (F := F) wk (fun i H' => ∃ (G : Hp) (ps : List (α × V)), Go D (n + i * c) F H2 G H' ∧ G Dl = none ∧ H' Dl = some (.lst (ps.map (·.2))) ∧ ps.map (·.1) = (zs.take i).filter f ∧ ∀ y ∈ ps, Rp y.1 y.2 G) ⟨F, [], by rw [Nat.zero_mul]; exact g0, fD, upd_same, rfl, fun y hy => absurd hy (by simp)⟩ (fun i H' ⟨G, ys, g, _⟩ => g.ex.trans g.dw.ex) (fun i x H' hx ⟨G, ps, g, gD, hl, hy, hR⟩ => ?_) (fun H' ⟨G, ps, g, gD, hl, hy, hR⟩ => ?_)
  · rw [List.getElem?_map] at hx
    cases hz' : zs[i]? with
    | none => rw [hz'] at hx; cases hx
    | some z =>
      rw [hz'] at hx
      cases hx
      obtain ⟨hlt, hzi⟩ := List.getElem?_eq_some_iff.mp hz'
      have hmem : z ∈ zs := by rw [← hzi]; exact List.getElem_mem hlt
      have hmul : (i + 1) * c ≤ zs.length * c := Nat.mul_le_mul_right c hlt
      have hsucc : (i + 1) * c = i * c + c := Nat.succ_mul i c
      have htk : zs.take (i + 1) = zs.take i ++ [z] := by rw [List.take_add_one, hz'] <;> rfl
      have hpl : ps.length ≤ i := by
        have h1 := congrArg List.length hy
        have h2 := List.length_filter_le f (zs.take i)
        rw [List.length_map] at h1
        rw [List.length_take] at h2
        omega
      refine ⟨hw _, ht z hmem G g.ex H' g.dw.ex _ fun H3 e3 => ?_⟩
      have gA := g.up e3
      have hlA := e3 _ _ hl
      cases hf : f z with
      | true =>
        show te _ H3 _
        refine he z hmem G g.ex (n + i * c) H3 gA.dw (by omega) _ fun y F2 H4 g2 r2 => ?_
        obtain ⟨hl4, f2⟩ := g2.keep w hD gD hlA
        have g3 := gA.trans g2
        refine ⟨_, hl4, sz_lt (by rw [List.length_map]; omega), F2, ps ++ [(z, y)], ?_, f2, ?_, ?_, fun u hu => ?_⟩
        · rw [hsucc, ← Nat.add_assoc]
          exact g3.mut w hD f2
        · rw [List.map_append]
          exact upd_same
        · rw [List.map_append, hy, htk, List.filter_append, List.filter_cons, if_pos hf] <;> rfl
        · rcases List.mem_append.mp hu with h | h
          · exact Rm _ _ G F2 g2.ex (hR u h)
          · rw [List.mem_singleton.mp h]
            exact r2
      | false =>
        show ∃ _, _
        refine ⟨G, ps, gA.more (by omega), gD, hlA, ?_, hR⟩
        rw [hy, htk, List.filter_append, List.filter_cons, if_neg (by rw [hf]; decide)]
        exact (List.append_nil _).symm
  · rw [List.length_map] at g hy
    exact q Dl ps _ H' (g.fin w hD gD hl) upd_same (by rw [hy, List.take_length]) (fun y h => Rm _ _ G _ (Ex.new gD) (hR y h))
/-- .. for k in range(a drawn number), told of it -/
theorem ed_compRP {R : V → Hp → Prop} {j : Nat} {vs : List Nat} {M : Nat} {Pm : Nat → Prop} (h : EDA D c1 ts σ F (fun xs _ => ∃ m : Nat, xs = [vn m] ∧ m ≤ M ∧ Pm m)) (hM : M ≤ 100000) (hw : ∀ x, wipe ((wipe σ vs).set j (some x)) vs = wipe σ vs)
    (Rm : ∀ v F1 F2, Ex F1 F2 → R v F1 → R v F2) (he : ∀ z F1, Ex F F1 → ED D c te ((wipe σ vs).set j (some (vn z))) F1 R) :
    ED D (c1 + M * c) (tLc (iRng1 ts) (gName j) tYes te vs) σ F (fun x F2 => ∃ p xs, x = .ref p ∧ F2 p = some (.lst xs) ∧ xs.length ≤ M ∧ Pm xs.length ∧ ∀ y ∈ xs, R y F2) := fun n H1 w hn Q q =>
  h n H1 w (by omega) _ fun xs F1 H2 g1 ⟨m, e, hm, hP⟩ => by
    subst e
    have hl : (List.range m).length = m := List.length_range
    have hmc : m * c ≤ M * c := Nat.mul_le_mul_right c hm
    refine ⟨(m : Int), rfl, by omega, by omega, fun Dl hD => comp_core (Rp := fun _ => R) (List.range m) vn wk_rngn (by omega) hw (fun _ => Rm) (fun z _ F2 x2 => he z F2 (g1.ex.trans x2)) g1.dw (by rw [hl]; omega) (fun p ps F2 H3 g h1 h2 h3 => ?_) Dl hD⟩
    have hpl : ps.length = m := by
      have := congrArg List.length h2
      rwa [List.length_map, hl] at this
    refine q _ F2 H3 ((g1.trans g).more (by rw [hl]; omega)) ⟨p, ps.map (·.2), rfl, h1, by rw [List.length_map]; omega, by rw [List.length_map, hpl]; exact hP, fun y hy => ?_⟩
    obtain ⟨u, hu, rfl⟩ := List.mem_map.mp hy
    exact h3 u hu
/-- [.. for x in a new list if ..] -/
theorem ed_compNF {α : Type} {wi : TI} {j : Nat} {vs : List Nat} {Rp : α → V → Hp → Prop} (zs : List α) (inj : α → V) (f : α → Bool) (hi : EvIN wi σ F (zs.map inj)) (hz : zs.length ≤ 100000) (hw : ∀ x, wipe ((wipe σ vs).set j (some x)) vs = wipe σ vs)
    (Rm : ∀ z v F1 F2, Ex F1 F2 → Rp z v F1 → Rp z v F2) (ht : ∀ z ∈ zs, ∀ F1, Ex F F1 → EvT tt ((wipe σ vs).set j (some (inj z))) F1 (f z)) (he : ∀ z ∈ zs, ∀ F1, Ex F F1 → ED D c te ((wipe σ vs).set j (some (inj z))) F1 (Rp z)) :
    ED D (zs.length * c) (tLc wi (gName j) tt te vs) σ F (fun x F2 => ∃ (p : Addr) (ps : List (α × V)), x = .ref p ∧ F2 p = some (.lst (ps.map (·.2))) ∧ ps.map (·.1) = zs.filter f ∧ ∀ y ∈ ps, Rp y.1 y.2 F2) := fun n H1 w0 hn Q q => hi H1 w0.ex _ fun J p0 H2 hp0 e1 hp02 wk Dl hD => by
  have g0 := w0.goNew hp0 e1 hp02
  have x0 : Ex F (upd F p0 (.lst (zs.map inj))) := g0.ex
  exact comp_coreF zs inj f wk hz hw Rm (fun z hm F1 x1 => ht z hm F1 (x0.trans x1)) (fun z hm F1 x1 => he z hm F1 (x0.trans x1)) g0.dw hn (fun p ps F2 H3 g h1 h2 h3 => q _ F2 H3 (g0.trans g) ⟨p, ps, rfl, h1, h2, h3⟩) Dl hD
theorem ed_compF {α : Type} {wi : TI} {j : Nat} {vs : List Nat} {Rp : α → V → Hp → Prop} (zs : List α) (inj : α → V) (f : α → Bool) (hi : EvI wi σ F (zs.map inj)) (hz : zs.length ≤ 100000) (hw : ∀ x, wipe ((wipe σ vs).set j (some x)) vs = wipe σ vs)
    (Rm : ∀ z v F1 F2, Ex F1 F2 → Rp z v F1 → Rp z v F2) (ht : ∀ z ∈ zs, ∀ F1, Ex F F1 → EvT tt ((wipe σ vs).set j (some (inj z))) F1 (f z)) (he : ∀ z ∈ zs, ∀ F1, Ex F F1 → ED D c te ((wipe σ vs).set j (some (inj z))) F1 (Rp z)) :
    ED D (zs.length * c) (tLc wi (gName j) tt te vs) σ F (fun x F2 => ∃ (p : Addr) (ps : List (α × V)), x = .ref p ∧ F2 p = some (.lst (ps.map (·.2))) ∧ ps.map (·.1) = zs.filter f ∧ ∀ y ∈ ps, Rp y.1 y.2 F2) := fun n H1 w0 hn Q q => hi H1 w0.ex _ fun J H2 e1 wk Dl hD =>
  comp_coreF zs inj f wk hz hw Rm ht he (w0.up e1) hn (fun p ps F2 H3 g h1 h2 h3 => q _ F2 H3 ((w0.go e1).trans g) ⟨p, ps, rfl, h1, h2, h3⟩) Dl hD
end
end EL
set_option maxHeartbeats 4000000
/-! ### EL10: errors that are kept, and asked for their class -/
namespace EL
open PySem PySem.Spec PyProof.Rows L2 Evl
/-- an error object of the class cls stands at a -/
def ExK (cls : Value) (d : Option Addr) (a : Addr) : HO := .ext fun h => ∃ (oe : Obj) (vs : Array Value), h.get? a = some oe ∧ Zc cls d oe ∧ oe.data = .fields vs
theorem exK_ok {P : Program} {w : World} {H : Hp} {h : Heap} {a : Addr} {cls : Value} {d : Option Addr} {oe : Obj} {vs : Array Value} (e : h.get? a = some oe) (z : Zc cls d oe) (dd : oe.data = .fields vs) : ObjOk P w H h a (ExK cls d a) :=
  ⟨⟨oe, vs, e, z, dd⟩, ⟨oe, e⟩, fun _ _ ⟨o, v, q, r⟩ k => ⟨o, v, k o q, r⟩⟩
section
variable {X : Cx} {pins : List (Addr × Obj)} {σ : HSt} {H : Hp} {s : Shared}
/-- what is new since the entry, and not tracked, is tracked from now on -/
theorem inv_track {a : Addr} {o : HO} (I : Inv X pins σ H s) (n0 : X.s_0.heap.get? a = none) (hn : H a = none) (hl : a ≠ X.env.locals) (hc : ∀ x c, X.env.cells.lookup x = some c → c ≠ a) (hp : ∀ p ∈ X.pn ++ pins, p.1 ≠ a) (new : ObjOk X.prog X.w (upd H a o) s.heap a o) :
    Inv X pins σ (upd H a o) s := by
  have ne0 : ∀ b u, X.s_0.heap.get? b = some u → b ≠ a := fun b u e z => by rw [z, n0] at e; cases e
  refine ⟨I.ok, I.os, I.bare, ⟨I.base.keep, I.base.slot, fun b u e n hq => ?_, I.base.there, fun b xs e => ?_, fun b u v e => ?_, fun b ps e => ?_⟩, I.loc, I.cell, ?_, fun x c e => ?_, fun p hm => ?_, fun b u e => ?_, I.len⟩
  · rw [upd_ne (ne0 b u e)]
    exact I.base.free b u e n hq
  · have q := I.base.tups b xs e
    rw [upd_ne (ne_of_none q hn)]
    exact q
  · have q := I.base.frzs b u v e
    rw [upd_ne (ne_of_none q hn)]
    exact q
  · obtain ⟨m, q⟩ := I.base.tbls b ps e
    exact ⟨m, by rw [upd_ne (ne_of_none q hn)]; exact q⟩
  · rw [upd_ne (Ne.symm hl)]
    exact I.free
  · rw [upd_ne (hc x c e)]
    exact I.freeC x c e
  · obtain ⟨e, n, ne, nf, d⟩ := I.pin p hm
    exact ⟨e, by rw [upd_ne (hp p hm)]; exact n, ne, nf, d⟩
  · by_cases hb : b = a
    · subst hb
      rw [upd_same] at e
      cases e
      exact new
    · rw [upd_ne hb] at e
      exact (I.hok b u e).stay (fun c v _ q => q) (fun c q => by rw [upd_ne (ne_of_none q hn)]; exact q) fun c xs q => by rw [upd_ne (ne_of_none q hn)]; exact q
end
/-- what the clause 'except x as n' wishes, the error being kept behind it -/
def wAsK (K : PySem.W.Frag) (c : Value) (i : Nat) (ts : Addr → Value → Option Addr → TS) (Wout : WX) (D : Ends) : WX := fun cls d σ H =>
  ∃ b, PySem.W.exmOne K cls c = some b ∧ (b = true → ∀ a, H a = none → ts a cls d { nx := fun σ' H' => H' a = none → D.nx (σ'.set i none) (upd H' a (ExK cls d a)), rt := fun _ _ => False, bk := fun _ _ => False, ct := fun _ _ => False } (σ.set i (some (.ref a))) H) ∧
    (b = false → Wout cls d σ H)
section
variable {X : Cx} {x n : Str} {i : Nat} {c : Value} {body suite : List Stmt} {b₀ : Stmt} {np pos pos' : Pos} {tb : WX → TS} {ts : Addr → Value → Option Addr → TS} {Wout : WX}
theorem ps_try_keep (hs : X.stack = X.env :: X.outer) (hf : X.env.frame = some X.env.locals) (hex : X.ex = []) (hN : X.N.Nodup) (hi : X.N[i]? = some n) (hln : X.env.kindOf n = some .local) (hc : Names X x c) (tk : Takes X Wout)
    (hb : ∀ (W : WX) (pn : List (Addr × Obj)) (xe : Value → Shared → Prop), Takes (X.tr pn xe) W → PassesOwn (model X.prog X.w) X.A X.env xe → PSs (X.tr pn xe) body (tb W))
    (hsu : ∀ (a : Addr) (oe : Obj) (cls : Value) (d : Option Addr) (pn : List (Addr × Obj)), Zc cls d oe → (∃ vs, oe.data = .fields vs) → PSs (X.suite a ((a, oe) :: pn)) (b₀ :: suite) (ts a cls d)) :
    PS X (.Try body [.ExceptHandler (some (.Name x np)) (some n) (b₀ :: suite) pos'] [] [] pos) (fun D σ H => tb (wAsK X.K c i ts Wout D) D σ H) := by
  refine ⟨fun pins s σ H D I h => ?_⟩
  have ok := I.ok
  have hfr : X.A.frames = some (X.env :: X.outer) := by rw [ok.frames, hs]
  have hloc : Loc X.env.scope n := .inl hln
  refine wpAny_Try_except ?_
  refine wpAny_mono ((hb (wAsK X.K c i ts Wout D) (X.pn ++ pins) (fun e s₁ => wpAny (model X.prog X.w) X.A (noteFrame e X.env) (fun _ s₂ => wpAny (model X.prog X.w) X.A (setFlight e none) (fun _ s₃ =>
    wpAny (model X.prog X.w) X.A (handleBy e X.env [.ExceptHandler (some (.Name x np)) (some n) (b₀ :: suite) pos']) (SP X pins D) X.xe s₃) X.xe s₂) X.xe s₁) (fun u s' xx => ?_) PassesOwn.looking).run [] s σ H D (I.toTry _) h) (fun f s1 hsp => ?_) (fun e s1 he => he)
  · obtain ⟨a, B, sI, pins', σ', H', cls, d, rfl, J', nb, up, sky, na, os, ag, b, hb1, hyes, hno⟩ := xx
    have J : Inv X pins σ' H' sI := J'.ofTry ok
    have sky' : Sky B (X.env :: X.outer) a (Zc cls d) X.env.locals s'.heap := by rw [← hs]; exact sky
    show wpAny _ X.A (noteFrame (.ref a) X.env) _ _ _
    refine Sky.land Zc.steady hfr hf sky' fun h3 fl3 up3 => ?_
    have J3 : Inv X pins σ' H' { s' with heap := h3 } := J.landed nb fl3.1 (up.trans up3) os ag
    obtain ⟨oe3, vs3, he3, hz3, hd3⟩ := fl3.there
    have nfr : a ∉ frs (X.env :: X.outer) := fun hm => by
      obtain ⟨_, o', e', hnf⟩ := fl3.2.2.1.mem hm
      rw [he3] at e'
      cases e'
      exact hnf _ hd3
    have nL : a ≠ X.env.locals := fun z => nfr (List.mem_filterMap.mpr ⟨X.env, List.mem_cons_self, by rw [hf, z]⟩)
    have nF : a ∉ X.fs := fun hm => by
      obtain ⟨e, he, q⟩ := List.mem_filterMap.mp hm
      exact nfr (List.mem_filterMap.mpr ⟨e, List.mem_cons_of_mem _ he, q⟩)
    -- the error was not there before
    have nI : sI.heap.get? a = none := by
      cases e : sI.heap.get? a with
      | none => rfl
      | some o =>
        have z := nb a o e (by rw [hs]; exact nfr)
        have z2 : B.get? a = none := fl3.2.1
        rw [z2] at z
        cases z
    have n0 : X.s_0.heap.get? a = none := by
      cases e : X.s_0.heap.get? a with
      | none => rfl
      | some o =>
        obtain ⟨o', z⟩ := J.base.there a o e (by rw [hex]; exact fun z => nomatch z)
        rw [nI] at z
        cases z
    have ncl : ∀ x c, X.env.cells.lookup x = some c → c ≠ a := fun x c e z => by
      obtain ⟨v, o, ho, _⟩ := J.cell x c e
      rw [z, nI] at ho
      cases ho
    have npn : ∀ p ∈ X.pn ++ pins, p.1 ≠ a := fun p hp z => by
      have q := (J.pin p hp).1
      rw [z, nI] at q
      cases q
    have S3 := J3.suite he3 hd3 na nL nF
    refine wpAny_handleBy_cons (codeAny_handlers_test ?_) (by intro q; cases q)
    have LT : PySem.W.Looks (model X.prog X.w) h3 (typeOf (.ref a)) cls := fun A Q E s k q => wpAny_typeOf_ref (k _ _ he3) (by rw [hz3.1]; exact q)
    have LM := PySem.W.exm_one (M := model X.prog X.w) (J3.kIn) LT hb1
    have test : ∀ {Q : Value → Shared → Prop} {E : Value → Shared → Prop}, Q c { s' with heap := h3 } → wpAny (model X.prog X.w) (X.A.mark (some (.ref a))) (eval (.Name x np) X.env) Q E { s' with heap := h3 } := fun {Q E} q => by
      obtain ⟨hg, hdbg, hm | ⟨hm, hv, hnn⟩⟩ := hc
      · exact ld_glob (X := X.suite a ((a, oe3) :: (X.pn ++ pins))) S3 hg hm q hdbg
      · exact ld_blt (X := X.suite a ((a, oe3) :: (X.pn ++ pins))) S3 hg hm hv q hnn hdbg
    refine test (LM.here ?_)
    cases b with
    | true =>
      refine codeAny_handlers_suite_as ?_
      refine HandSPX.lands_againZ fl3 fun h4 fl4 up4 => ?_
      have J4 : Inv X pins σ' H' { s' with heap := h4 } := J.landed nb fl4.1 ((up.trans up3).trans up4) os ag
      obtain ⟨oe4, vs4, he4, hz4, hd4⟩ := fl4.there
      have S4 := J4.suite he4 hd4 na nL nF
      refine store_ok (X := X.suite a ((a, oe4) :: (X.pn ++ pins))) (v := .ref a) S4 hN hi hloc rfl (fun s5 S5 => ?_) (.inr hln)
      refine wpAny_mono ((hsu a oe4 cls d (X.pn ++ pins) hz4 ⟨_, hd4⟩).run [] s5 _ H' _ S5 (hyes rfl a na)) (fun f s6 hsp => ?_) (fun _ _ z => False.elim z)
      cases f with
      | next =>
        obtain ⟨σ6, H6, S6, q6⟩ := hsp
        obtain ⟨hget, hn6, _⟩ := S6.pin (a, oe4) (List.mem_append.mpr (.inl List.mem_cons_self))
        have J6 : Inv X pins σ6 H6 s6 := S6.unsuite ok
        have J7 := inv_track (o := ExK cls d a) J6 n0 hn6 nL ncl npn (exK_ok hget hz4 hd4)
        exact gone_ok J7 hN hi hln fun s7 J8 => ⟨_, _, J8, q6 hn6⟩
      | brk =>
        obtain ⟨_, _, _, q6⟩ := hsp
        exact q6.elim
      | cont =>
        obtain ⟨_, _, _, q6⟩ := hsp
        exact q6.elim
      | ret u =>
        obtain ⟨_, _, _, _, _, q6⟩ := hsp
        exact q6.elim
    | false =>
      show wpAny _ X.A (handleBy (.ref a) X.env []) _ _ _
      refine wpAny_handleBy_nil ?_
      obtain ⟨k1, k2, k3, oe, vs, T, oT, ts', he, hz, hd, h1, hr⟩ := id fl3
      unfold PySem.passOn
      refine wpAny_bind (wpAny_field he hd h1 ?_)
      rw [if_neg (show ¬ ((Value.ref T == Value.none) = true) from by simp)]
      have fin : wpAny (model X.prog X.w) X.A (setFlight (.ref a) X.env.frame) (fun _ s4 => wpAny (model X.prog X.w) X.A (throw (.ref a) : Sem Flow) (SP X pins D) X.xe s4) X.xe { s' with heap := h3 } := by
        rw [hf]
        refine HandSPX.setFlight_upZ fl3 fun h4 hh4 up4 => wpAny_throw (tk _ _ ?_)
        exact ⟨a, B, sI, pins, σ', H', cls, d, rfl, J, nb, (up.trans up3).trans up4, .inr (.inr (by rw [hs]; exact hh4)), na, os, ag, hno rfl⟩
      first
        | exact wpAny_bind (wpAny_pure (wpAny_bind fin))
        | exact wpAny_bind fin
  · cases f with
    | next =>
      obtain ⟨σ', H', J', q⟩ := hsp
      exact wpAny_execs_nil ⟨σ', H', J'.ofTry ok, q⟩
    | brk =>
      obtain ⟨σ', H', J', q⟩ := hsp
      exact ⟨σ', H', J'.ofTry ok, q⟩
    | cont =>
      obtain ⟨σ', H', J', q⟩ := hsp
      exact ⟨σ', H', J'.ofTry ok, q⟩
    | ret u =>
      obtain ⟨v, σ', H', J', r, q⟩ := hsp
      exact ⟨v, σ', H', J'.ofTry ok, r, q⟩
end
/-! isinstance of a kept error -/
/-- of one class -/
def rIsK (K : PySem.W.Frag) : List V → Hp → VK → Prop := fun xs H Q => ∃ (a D : Addr) (c : V) (cv : Value) (b : Bool), xs = [.ref a, c] ∧ H a = some (ExK (.ref D) none a) ∧ ClsV c cv ∧ PySem.W.kitOne K (.ref D) cv = some b ∧ ExcC K D ∧ Q (.bl b) H
theorem call_isK {X : Cx} : CallR X (.builtin "isinstance") (rIsK X.K) := by
  intro pins s σ H xs us Q I r h
  obtain ⟨a, D, c, cv, b, rfl, ha, hcv, e, C, q⟩ := h
  cases r with
  | cons rx rr =>
    cases rr with
    | cons rt rr =>
      cases rr
      cases rx
      have ec := hcv.eq rt
      subst ec
      obtain ⟨⟨oe, vs, hget, hz, hv⟩, _, _⟩ := I.hok a _ ha
      have J : PySem.W.InstAt s.heap a oe D none := by
        obtain ⟨oc, od, oda, osl⟩ := oe
        obtain ⟨h1, h2⟩ := hz
        dsimp only at h1 h2 hv
        subst h1 h2 hv
        exact ⟨hget, rfl, rfl, trivial⟩
      exact PySem.W.kia_one (PySem.W.handS_kitx_exc C.hg C.hk C.hs C.hd C.ha C.hn C.ht C.hm) I.kIn J e (fun z => nomatch z) fun tk => ⟨.bl b, H, I.kept (t' := tk) fun _ _ z => z, rfl, q⟩
/-- of one of several classes -/
def rIsKT (K : PySem.W.Frag) : List V → Hp → VK → Prop := fun xs H Q => ∃ (a D tp : Addr) (cs : List V) (us : List Value) (b : Bool), xs = [.ref a, .ref tp] ∧ H a = some (ExK (.ref D) none a) ∧ H tp = some (.tup cs) ∧ Paired ClsV cs us ∧ PySem.W.kitAny K (.ref D) us = some b ∧ ExcC K D ∧ Q (.bl b) H
theorem call_isKT {X : Cx} : CallR X (.builtin "isinstance") (rIsKT X.K) := by
  intro pins s σ H xs us Q I r h
  obtain ⟨a, D, tp, cs, ws, b, rfl, ha, hT, k, e, C, q⟩ := h
  obtain ⟨u1, u2, rfl, r1, r2⟩ := vals2 r
  cases (show u1 = Value.ref a from r1)
  cases (show u2 = Value.ref tp from r2)
  obtain ⟨⟨oe, vs, hget, hz, hv⟩, _, _⟩ := I.hok a _ ha
  have J : PySem.W.InstAt s.heap a oe D none := by
    obtain ⟨oc, od, oda, osl⟩ := oe
    obtain ⟨h1, h2⟩ := hz
    dsimp only at h1 h2 hv
    subst h1 h2 hv
    exact ⟨hget, rfl, rfl, trivial⟩
  obtain ⟨_, its, rv, o, h1, h2, n, h3⟩ := (show ObjOk X.prog X.w H s.heap tp (.tup cs) from I.hok tp _ hT)
  have e3 := ClsV.all k rv
  subst e3
  obtain ⟨oc, od, dt, sl⟩ := o
  simp only at h2 h3
  subst h2 h3
  exact PySem.W.kia_tup (PySem.W.handS_kitx_exc C.hg C.hk C.hs C.hd C.ha C.hn C.ht C.hm) I.kIn J h1 e (fun z => nomatch z) fun tk => ⟨.bl b, H, I.tok tk, rfl, q⟩
section
variable {K : PySem.W.Frag} {σ : HSt} {F : Hp} {ta tb : TE} {a D : Addr}
theorem ev_isK {c : V} {cv : Value} {b : Bool} (h1 : Ev ta σ F (.ref a)) (h2 : Ev tb σ F c) (ha : F a = some (ExK (.ref D) none a)) (hc : ClsV c cv) (hk : PySem.W.kitOne K (.ref D) cv = some b) (C : ExcC K D) : Ev (tCB (rIsK K) (tCons ta (tCons tb tNil))) σ F (.bl b) := fun H1 e Q q =>
  h1 H1 e _ fun H2 e2 => h2 H2 (e.trans e2) _ fun H3 e3 => ⟨a, D, c, cv, b, rfl, ((e.trans e2).trans e3) _ _ ha, hc, hk, C, q H3 (e2.trans e3)⟩
theorem ev_isKT {cs : List V} {us : List Value} {b : Bool} (h1 : Ev ta σ F (.ref a)) (h2 : EvU tb σ F cs) (ha : F a = some (ExK (.ref D) none a)) (hc : Paired ClsV cs us) (hk : PySem.W.kitAny K (.ref D) us = some b) (C : ExcC K D) : Ev (tCB (rIsKT K) (tCons ta (tCons tb tNil))) σ F (.bl b) := fun H1 e Q q =>
  h1 H1 e _ fun H2 e2 => h2 H2 (e.trans e2) _ fun p H3 hp e3 h3 => ⟨a, D, p, cs, us, b, rfl, ((e.trans e2).trans e3) _ _ ha, h3, hc, hk, C, q H3 (e2.trans e3)⟩
end
/-! defs that raise -/
/-- a def under its name that may let an error out -/
structure CalX (P : Program) (w : World) (K : PySem.W.Frag) (mg : Str → Option Value) (base : Heap) (k : Nat) (x : Str) (sp : Sp) : Prop where
  ex : ∃ (f : Addr) (fd : FuncData) (ps : List Str), FnOk P w K mg base (L2.CX P w) k f fd ps sp ∧ mg x = some (.ref f) ∧ PySem.W.keepIn K (.ref f) = true ∧ Binds K fd ps []
theorem calX_of {P : Program} {w : World} {K : PySem.W.Frag} {mg : Str → Option Value} {base : Heap} {x : Str} {st : Stmt} {N ps : List Str} {k : Nat} {sp : Sp} (D : Dfn K mg x st) (S : FnScope N ps (defScope st))
    (hb : ∀ (kV doc pm : Value) (an : Option Addr) (cdv ct : Value) (us : List Value), us.length = ps.length → bindArgs (PySem.W.fnOf x x (defArgs st) (defBody st) (defScope st) .none kV doc pm an cdv ct) ⟨us, []⟩ = pure (ps.zip us))
    (len : ∀ vs H Q E, sp vs H Q E → vs.length = ps.length)
    (hbody : ∀ (f : Addr) (cdv : Value) (A : Around) (outer : List Env) (s : Shared) (H : Hp) (vs : List V) (Q : VK) (E : XK), Room k (A.deeper (envOfC x (defScope st) s.heap.objs.size f cdv)) → sp vs H Q E →
      ∃ t, PSs (cxOf (L2.CX P w) P w K mg base N x (defScope st) f cdv A outer s H E) (defBody st) t ∧ t { nx := fun _ H' => Q .non H', rt := Q } (start N vs) H) : CalX P w K mg base (k + 1) x sp := by
  obtain ⟨f, fd, F, hm⟩ := D.ex
  exact ⟨f, fd, ps, F.ok S len (fun cdv A outer s H vs Q E hr hsp => hbody f cdv A outer s H vs Q E hr hsp), hm, F.kp, F.bindsN hb⟩
theorem pe_cX {X : Cx} {k j : Nat} {x : Str} {sp : Sp} {W : WX} {p pos : Pos} {e : Expr} {es : List Expr} {t : TA} (c : CalX X.prog X.w X.K X.mg X.base k x sp) (hr : Room j X.A) (hk : k ≤ j) (tk : Takes X W) (hg : Gl X x) (ha : PA X (e :: es) t)
    (hdb : (x == ("__debug__" : Str)) = false := by decide) (he : starEach (e :: es) X.env = (false, eval e X.env) :: starEach es X.env := by rfl) (hpl : (backTo pos (starEach es X.env)).any (·.1) = false := by rfl) :
    PE X (.Call (.Name x p) (e :: es) [] pos) (tCallS sp (WE W) t) := by
  obtain ⟨f, fd, ps, F, hm, kp, b⟩ := c.ex
  exact pe_callS F (hr.mono hk) hg hm kp b (fun σ => passAt tk σ) ha hdb he hpl
end EL
set_option maxHeartbeats 4000000
/-! ### EL11: lambdas that are kept in a list; a comprehension told of the frame around it -/
namespace EL
open PySem PySem.Spec PyProof.Rows L2 Evl LamX
/-- a lambda without parameters stands at f, its code object at c' -/
def LamO (f c' : Addr) (q : Str) (params : Arguments) (body : Expr) (scope : Scope) (cl : List (Str × Addr)) : HO := .ext fun h => ∃ (pm ctv : Value), h.get? f = some (PySem.W.kla_obj "<lambda>" q params body scope cl pm c' ctv)
theorem lamO_ok {P : Program} {w : World} {H : Hp} {h : Heap} {f c' : Addr} {q : Str} {params : Arguments} {body : Expr} {scope : Scope} {cl : List (Str × Addr)} {pm ctv : Value} (e : h.get? f = some (PySem.W.kla_obj "<lambda>" q params body scope cl pm c' ctv)) : ObjOk P w H h f (LamO f c' q params body scope cl) :=
  ⟨⟨pm, ctv, e⟩, ⟨_, e⟩, fun _ _ ⟨a, b, r⟩ k => ⟨a, b, k _ r⟩⟩
def tLamK (P : Addr) (q : Str) (params : Arguments) (body : Expr) (scope : Scope) (cl : List (Str × Addr)) : TE := fun σ H Q => TabS H P q ∧ ∀ (f c' : Addr) (H1 : Hp), TabS H1 P q → (∀ b o, b ≠ P → H b = some o → H1 b = some o) → H1 f = none → H f = none → H1 c' = some (CodeO c' q) → Q (.ref f) (upd H1 f (LamO f c' q params body scope cl))
/-- a lambda as a value -/
theorem pe_lam {X : Cx} {c P : Addr} {q : Str} {params : Arguments} {body : Expr} {scope : Scope} {pos : Pos} (TB : TabB X.base X.mg c P) (hcode : X.env.code = .ref c) (hq : X.env.qual ++ "<lambda>" = q) (hdef : defaultsOf params X.env = ([], []))
    (hfree : ∀ y ∈ scope.names, y.2 = .free → X.env.scope.names.lookup y.1 = some .cell ∨ X.env.scope.names.lookup y.1 = some .free) :
    PE X (.Lambda params body scope pos) (tLamK P q params body scope (cloFrom X.env.cells scope.names [])) := by
  refine ⟨fun pins s σ H Q I h => ?_⟩
  obtain ⟨⟨ps, hP, ht, ha⟩, h⟩ := h
  have hfr : ∀ y ∈ scope.names, y.2 = .free → ∃ c, X.env.cells.lookup y.1 = some c := fun y hy e => (hfree y hy e).elim (fun k => I.ok.has _ (.inl k)) fun k => I.ok.has _ (.inr k)
  have bP : s.heap.BuiltinsAt X.mg P := TB.bm.keeps I.bk
  have hP' : s.heap.get? P = some { cls := .none, data := .fields ps } := I.hok P _ hP
  refine PySem.W.kla_eval hdef ?_
  rw [hq]
  cases hc : codeAmong pos ps.toList with
  | none =>
    refine PySem.W.kla_makeFunction (mg := X.mg) (c := c) (P := P) (ps := ps) (closure_ok hfr) I.ok.glob (I.mod.glob.keeps I.bk) hcode (TB.code.keeps I.bk) hP' ht hc TB.gP bP fun c' ctv h' tk hx hge hlt hrec htb => ?_
    obtain ⟨c2, oc, vs, t, e2, hoc, hd, hv⟩ := hrec
    cases e2
    have nC : H c' = none := I.hok.fresh hge
    have eL : (ps ++ #[rawInt pos.line, rawInt pos.col, .ref c']).toList = ps.toList ++ [rawInt pos.line, rawInt pos.col, .ref c'] := by simp
    generalize hH1 : upd (upd H P (.tbl (ps ++ #[rawInt pos.line, rawInt pos.col, .ref c']))) c' (CodeO c' q) = H1
    have I1 : Inv X pins σ H1 { s with heap := h', toks := tk } := by
      rw [← hH1]
      exact inv_table (q := q) (t' := tk) (more := #[rawInt pos.line, rawInt pos.col, .ref c']) (h' := h') I hP hx htb hge ⟨oc, vs, t, hoc, hd, hv⟩
    have nPc : P ≠ c' := ne_of_none hP nC
    have k1 : ∀ b o, b ≠ P → H b = some o → H1 b = some o := fun b o hb e => by
      rw [← hH1, upd_ne (ne_of_none e nC), upd_ne hb]
      exact e
    have nf : H1 h'.objs.size = none := I1.hok.fresh (Nat.le_refl _)
    have nf0 : H h'.objs.size = none := by
      refine I.hok.fresh (Nat.le_trans hge (Nat.le_of_lt hlt))
    have I2 := I1.laid (a := h'.objs.size) (o := LamO h'.objs.size c' q params body scope (cloFrom X.env.cells scope.names [])) (h' := h'.push (PySem.W.kla_obj "<lambda>" q params body scope (cloFrom X.env.cells scope.names []) ((X.mg "__name__").getD .none) c' ctv)) (t' := tk) (fun b o e => Heap.get?_push_of_some _ e) (Nat.le_refl _) (lamO_ok (Heap.get?_push_size _ rfl))
    refine ⟨.ref h'.objs.size, _, I2, rfl, h h'.objs.size c' H1 ?_ k1 nf nf0 (by rw [← hH1]; exact upd_same)⟩
    refine ⟨_, by rw [← hH1, upd_ne nPc, upd_same], by rw [eL]; exact PySem.TriplesOk_snoc _ _ _ _ ht, fun p' cv hcv => ?_⟩
    rw [eL] at hcv
    rcases among_app _ ht hcv with z | z
    · obtain ⟨c0, e1, e2⟩ := ha p' cv z
      refine ⟨c0, e1, k1 c0 _ (fun z => ?_) e2⟩
      rw [z, hP] at e2
      exact codeO_ne ps (Option.some.inj e2).symm
    · exact ⟨c', z, by rw [← hH1]; exact upd_same⟩
  | some cv =>
    obtain ⟨c', e, hco⟩ := ha pos cv hc
    subst e
    refine PySem.W.kla_makeFunctionHit (mg := X.mg) (c := c) (P := P) (ps := ps) (closure_ok hfr) I.ok.glob (I.mod.glob.keeps I.bk) hcode (TB.code.keeps I.bk) hP' ht hc bP fun ctv h' tk hx hsz => ?_
    have I1 : Inv X pins σ H { s with heap := h', toks := tk } := I.kept (t' := tk) fun b o e => hx b o e
    have nf : H h'.objs.size = none := I.hok.fresh hsz
    have I2 := I1.laid (a := h'.objs.size) (o := LamO h'.objs.size c' q params body scope (cloFrom X.env.cells scope.names [])) (h' := h'.push (PySem.W.kla_obj "<lambda>" q params body scope (cloFrom X.env.cells scope.names []) ((X.mg "__name__").getD .none) c' ctv)) (t' := tk) (fun b o e => Heap.get?_push_of_some _ e) (Nat.le_refl _) (lamO_ok (Heap.get?_push_size _ rfl))
    exact ⟨.ref h'.objs.size, _, I2, rfl, h h'.objs.size c' H ⟨ps, hP, ht, ha⟩ (fun b o _ e => e) nf nf hco⟩
/-! what the captured cells hold -/
/-- the cells cl hold the values of N at σ, and nothing tracked is there -/
structure CK (cl : List (Str × Addr)) (N : List Str) (σ : HSt) (H : Hp) (h : Heap) : Prop where
  cell : ∀ y c, cl.lookup y = some c → H c = none ∧ ∃ v, h.IsCell c v
  val : ∀ (i : Nat) y v, N[i]? = some y → σ[i]? = some (some v) → ∃ u c, RelV v u ∧ cl.lookup y = some c ∧ h.IsCell c (some u)
theorem CK.un {cl : List (Str × Addr)} {N : List Str} {σ : HSt} {fs ex : List Addr} {H H' : Hp} {h h' : Heap} (k : CK cl N σ H h) (un : Un fs ex H H' h h') (hx : ∀ y c, cl.lookup y = some c → c ∉ ex) : CK cl N σ H' h' := by
  have cellK : ∀ {y : Str} {c : Addr} {v : Option Value}, cl.lookup y = some c → h.IsCell c v → h'.IsCell c v := fun {y c v} e ⟨o, ho, hd⟩ => by
    obtain ⟨sl, q⟩ := un.any ho (k.cell y c e).1 (hx y c e)
    exact ⟨_, q, hd⟩
  refine ⟨fun y c e => ?_, fun i y v e1 e2 => ?_⟩
  · obtain ⟨n, v, hv⟩ := k.cell y c e
    obtain ⟨o, ho, hd⟩ := id hv
    exact ⟨un.free c o ho n (hx y c e), v, cellK e hv⟩
  · obtain ⟨u, c, r, e, z⟩ := k.val i y v e1 e2
    exact ⟨u, c, r, e, cellK e z⟩
theorem CK.run {cl : List (Str × Addr)} {N : List Str} {σ : HSt} {X : Cx} {pins : List (Addr × Obj)} {σX : HSt} {H : Hp} {s : Shared} (k : CK cl N σ X.H_0 X.s_0.heap) (I : Inv X pins σX H s) (hx : ∀ y c, cl.lookup y = some c → c ∉ X.ex) : CK cl N σ H s.heap := k.un I.base hx
end EL
set_option maxHeartbeats 4000000
/-! ### EL12: a kept lambda is called -/
namespace EL
open PySem PySem.Spec PyProof.Rows L2 Evl LamX
/-- no parameter, no name of its own -/
structure LamS0 (scope : Scope) : Prop where
  kind : scope.kind = .function
  co : scope.isCoroutine = false
  gen : scope.isGenerator = false
  own : ∀ y ∈ scope.names, y.2 ≠ .local ∧ y.2 ≠ .cell
/-- the context of a lambda's body: its captured names N -/
abbrev lenv (q : Str) (scope : Scope) (L f c' : Addr) (cl : List (Str × Addr)) : Env := PySem.W.envX q scope L f (.ref c') cl
def lcx (P : Program) (w : World) (K : PySem.W.Frag) (mg : Str → Option Value) (base : Heap) (N : List Str) (q : Str) (cl : List (Str × Addr)) (A : Around) (outer : List Env) (s : Shared) (H : Hp) (E : XK) (scope : Scope) (f c' : Addr) : Cx where
  prog := P
  w := w
  K := K
  mg := mg
  base := base
  A := A.deeper (lenv q scope s.heap.objs.size f c' cl)
  N := N
  s_0 := s
  H_0 := H
  env := lenv q scope s.heap.objs.size f c' cl
  outer := outer
  stack := lenv q scope s.heap.objs.size f c' cl :: outer
  ex := []
  fn := fun _ => false
  calm := true
  pn := []
  xe := fun e s' => wpAny (model P w) (A.deeper (lenv q scope s.heap.objs.size f c' cl)) (leaving (lenv q scope s.heap.objs.size f c' cl) e) (fun _ s'' => L2.CX P w outer H s E e s'') (fun e' s'' => L2.CX P w outer H s E e' s'') s'
/-- what is known of the captured cells' names -/
structure ClOk (cl : List (Str × Addr)) (N : List Str) (scope : Scope) : Prop where
  has : ∀ y, scope.names.lookup y = some .free → ∃ c, cl.lookup y = some c
  inj : ∀ y z c, cl.lookup y = some c → cl.lookup z = some c → y = z
  vis : ∀ y ∈ N, scope.names.lookup y = some .free
section
variable {P : Program} {w : World} {K : PySem.W.Frag} {mg : Str → Option Value} {base : Heap} {N : List Str} {q : Str} {cl : List (Str × Addr)} {A : Around} {outer : List Env} {s1 : Shared} {H HZ : Hp} {E : XK} {scope : Scope} {f c' : Addr} {σ : HSt}
theorem lam_start {h₁ : Heap} {tk : Nat} (L : LamS0 scope) (C : ClOk cl N scope) (e0 : Env0 P w K mg base A outer s1 HZ) (hd : A.handled = none) (k : CK cl N σ HZ s1.heap) (hlen : σ.length = N.length)
    (hns : h₁.Ns s1.heap.objs.size fun y => ([] : List (Str × Value)).reverse.lookup y) (kp : ∀ b o, s1.heap.get? b = some o → h₁.get? b = some o) :
    Inv (lcx P w K mg base N q cl A outer s1 HZ E scope f c') [] σ HZ { s1 with heap := h₁, toks := tk } := by
  have noA : ∀ b : Addr, b ∉ (lcx P w K mg base N q cl A outer s1 HZ E scope f c').ex := fun b z => absurd (show b ∈ ([] : List Addr) from z) (by simp)
  have cellK : ∀ {c : Addr} {v : Option Value}, s1.heap.IsCell c v → h₁.IsCell c v := fun {c v} ⟨o, ho, hd⟩ => ⟨o, kp _ _ ho, hd⟩
  refine ⟨⟨e0.mod, L.kind, rfl, rfl, Nat.le_refl _, fun y z c e1 e2 => C.inj y z c e1 e2, fun y hy => ?_, fun y c z _ => ?_, fun _ => hd, Around.frames_deeper e0.frames, .inr ⟨rfl, rfl⟩, fun b z => absurd z (noA b), e0.bs, e0.bsz, fun b _ _ => noA b,
      fun b z => absurd z (noA b), e0.funs, e0.frf⟩,
    rfl, e0.bare, Un.kept kp, ⟨_, hns, fun i y v e1 e2 e3 => ?_⟩, fun y c e => ?_, e0.hok.fresh (Nat.le_refl _), fun y c e => ?_, fun q hq => absurd (show q ∈ ([] : List (Addr × Obj)) ++ [] from hq) (by simp), e0.hok.kept kp, hlen⟩
  · have hy : scope.names.lookup y = some .cell ∨ scope.names.lookup y = some .free := hy
    rcases hy with hy | hy
    · exact absurd rfl (L.own _ (PySem.mem_of_lookup hy)).2
    · exact C.has y hy
  · have z : false = true := z
    cases z
  · obtain ⟨u, c, r, e, z⟩ := k.val i y v e1 e2
    exact ⟨u, r, .inr ⟨.inr (C.vis y (List.mem_of_getElem? e1)), c, e, cellK z⟩⟩
  · obtain ⟨n, v, z⟩ := k.cell y c e
    exact ⟨v, cellK z⟩
  · exact (k.cell y c e).1
/-- what a kept lambda does, as its body is walked -/
structure LamRun (P : Program) (w : World) (K : PySem.W.Frag) (mg : Str → Option Value) (base : Heap) (N : List Str) (q : Str) (cl : List (Str × Addr)) (k : Nat) (params : Arguments) (body : Expr) (scope : Scope) (tb : XK → TE) : Prop where
  low : LamS0 scope
  cells : ClOk cl N scope
  bind : ∀ (pm cv ctv : Value), bindArgs (PySem.W.kla_fn "<lambda>" q params body scope cl pm cv ctv) ⟨[], []⟩ = pure []
  run : ∀ (A : Around) (outer : List Env) (s : Shared) (H : Hp) (E : XK) (f c' : Addr), Room k (A.deeper (lenv q scope s.heap.objs.size f c' cl)) → PE (lcx P w K mg base N q cl A outer s H E scope f c') body (tb E)
/-- work(), in a def that got the lambda; what the cells hold is known at the def's entry -/
def tWork (P : Program) (w : World) (K : PySem.W.Frag) (mg : Str → Option Value) (base : Heap) (N : List Str) (q : Str) (cl : List (Str × Addr)) (σL : HSt) (k i : Nat) (W : WX) : TE := fun σ H Q =>
  ∃ (f c' : Addr) (params : Arguments) (body : Expr) (scope : Scope) (tb : XK → TE) (E : XK), σ[i]? = some (some (.ref f)) ∧ H f = some (LamO f c' q params body scope cl) ∧ H c' = some (CodeO c' q) ∧ LamRun P w K mg base N q cl k params body scope tb ∧
    (∀ cls d H', E cls d H' → W cls d σ H') ∧ tb E σL H Q
theorem pe_work {CXg : CXT} {Eg : XK} {Ng : List Str} {qg : Str} {sg : Scope} {g : Addr} {cdg : Value} {stack : List Env} {s : Shared} {k i : Nat} {a : Str} {pn : List (Addr × Obj)} {xe : Value → Shared → Prop} {W : WX} {p1 p2 : Pos}
    (ck : CK cl N σ H s.heap) (hlen : σ.length = N.length) (tk : Takes ((cxOf CXg P w K mg base Ng qg sg g cdg A stack s H Eg).tr pn xe) W) (hr : Room (k + 1) (A.deeper (envOfC qg sg s.heap.objs.size g cdg)))
    (hN : Ng[i]? = some a) (hv : Vis sg a) (hd : (a == ("__debug__" : Str)) = false := by decide) (hcd : (a == ("__classdict__" : Str)) = false := by decide) :
    PE ((cxOf CXg P w K mg base Ng qg sg g cdg A stack s H Eg).tr pn xe) (.Call (.Name a p1) [] [] p2) (tWork P w K mg base N q cl σ k i W) := by
  refine ⟨fun pinsZ sZ σZ HZ Q IZ h => ?_⟩
  obtain ⟨f, c', params, body, scope, tb, E, hs, hf, hc, LR, hW, ht⟩ := h
  refine wpAny_Call_Name_kw (thn ((pe_var (pos := p1) (i := i) hN hv hd hcd).run pinsZ sZ σZ HZ (fun v H1 => v = .ref f ∧ H1 = HZ) IZ ⟨.ref f, hs, rfl, rfl⟩) fun u s1 ⟨v, H1, I1, r1, q1⟩ => ?_)
  obtain ⟨ev, eH⟩ := q1
  subst ev
  rw [eH] at I1
  obtain rfl : u = Value.ref f := r1
  obtain ⟨⟨pm, ctv, of1⟩, _, _⟩ := I1.hok f _ hf
  refine PySem.W.callWith_F0 ⟨_, _, _, _, of1⟩ ?_
  have ck1 : CK cl N σ HZ s1.heap := CK.run (X := (cxOf CXg P w K mg base Ng qg sg g cdg A stack s H Eg).tr pn xe) ck I1 (fun _ _ _ z => nomatch (show _ ∈ ([] : List Addr) from z))
  obtain ⟨⟨oc, vs, t, hoc, hdc, hvc⟩, _, _⟩ := I1.hok c' _ hc
  have rc : codeAny (model P w) (A.deeper (envOfC qg sg s.heap.objs.size g cdg)) (.call (.ref f) ⟨[], []⟩) (CR (L2.CX P w) (envOfC qg sg s.heap.objs.size g cdg :: stack) P w HZ s1 Q E) s1 := by
    refine PySem.W.kla_callFunE hr.depth of1 rfl LR.low.co LR.low.gen rfl ⟨c', oc, vs, t, rfl, hoc, hdc, hvc⟩ ?_
    rw [LR.bind]
    refine wpAny_pure (wpAny_newFunctionEnv (fun y hy => (LR.low.own y hy).2) (fun y hy => absurd hy (by simp)) (fun h₁ hns hsb => ⟨I1.nolimit.fresh _ hsb, ?_⟩) LR.low.kind)
    show codeAny _ _ (.expr body (lenv q scope s1.heap.objs.size f c' cl)) _ _
    have kp : ∀ b o, s1.heap.get? b = some o → h₁.get? b = some o := fun b o e => hsb.extBut b o (Nat.ne_of_lt (Heap.lt_size e)) (Heap.get?_push_of_some _ e)
    have J : Inv (lcx P w K mg base N q cl (A.deeper (envOfC qg sg s.heap.objs.size g cdg)) (envOfC qg sg s.heap.objs.size g cdg :: stack) s1 HZ E scope f c') [] σ HZ { s1 with heap := h₁, toks := s1.toks + ([] : List (Str × Value)).length } :=
      lam_start LR.low LR.cells I1.env0 hr.hd ck1 hlen hns kp
    refine PySem.W.kla_codeExpr (wpAny_mono ((LR.run _ _ s1 HZ E f c' (hr.deeper _)).run [] _ _ HZ Q J ht) (fun v s' hq => ?_) fun e s' hq => hq)
    obtain ⟨w', H', J', rv, q⟩ := hq
    exact ⟨w', H', J'.os, J'.bare, J'.base, J'.hok, rv, q⟩
  refine wpAny_call (codeAny_mono rc fun r s' hq => ?_)
  cases r with
  | error e => exact tk e s' (XE.of_call I1 hW hq)
  | ok fl =>
    cases fl with
    | ret u => exact I1.after hq
    | next => exact False.elim hq
    | brk => exact False.elim hq
    | cont => exact False.elim hq
end
end EL
set_option maxHeartbeats 4000000
/-! ### EL13: a def called and proved at the very state; a comprehension told of the frame around it -/
namespace EL
open PySem PySem.Spec PyProof.Rows L2 Evl LamX
/-- x(..), the body walked at the very state -/
def tAt (n : Nat) (t : TA) (Good : List V → Hp → VK → Prop) : TE := fun σ H Q => t σ H fun vs H1 => vs.length = n ∧ Good vs H1 Q
theorem pe_callAt {Y : Cx} {x : Str} {st : Stmt} {N ps : List Str} {k j : Nat} {p pos : Pos} {e : Expr} {es : List Expr} {t : TA} {Good : List V → Hp → VK → Prop} (D : Dfn Y.K Y.mg x st) (S : FnScope N ps (defScope st))
    (hb : ∀ (kV doc pm : Value) (an : Option Addr) (cdv ct : Value) (us : List Value), us.length = ps.length → bindArgs (PySem.W.fnOf x x (defArgs st) (defBody st) (defScope st) .none kV doc pm an cdv ct) ⟨us, []⟩ = pure (ps.zip us))
    (hr : Room j Y.A) (hj : k + 1 ≤ j) (hg : Gl Y x) (ha : PA Y (e :: es) t)
    (hbody : ∀ (pins : List (Addr × Obj)) (σ : HSt) (s : Shared) (H : Hp), Inv Y pins σ H s → ∀ (f : Addr) (cdv : Value) (vs : List V) (Q : VK), Room k (Y.A.deeper (envOfC x (defScope st) s.heap.objs.size f cdv)) → Good vs H Q →
      ∃ t, PSs (cxOf C8.CX0 Y.prog Y.w Y.K Y.mg Y.base N x (defScope st) f cdv Y.A Y.stack s H C8.E0) (defBody st) t ∧ t { nx := fun _ H' => Q .non H', rt := Q } (start N vs) H)
    (hdb : (x == ("__debug__" : Str)) = false := by decide) (he : starEach (e :: es) Y.env = (false, eval e Y.env) :: starEach es Y.env := by rfl) (hpl : (backTo pos (starEach es Y.env)).any (·.1) = false := by rfl) :
    PE Y (.Call (.Name x p) (e :: es) [] pos) (tAt ps.length t Good) := by
  refine ⟨fun pins s σ H Q I h => ?_⟩
  obtain ⟨f, fd, F, hm⟩ := D.ex
  have hB := F.bindsN hb
  have kp := F.kp
  obtain ⟨oc, od, dV, kV, doc, pm, an, cdv, ct, osl, rfl, lk, hcd, _⟩ := F.ex
  refine wpAny_Call_Name_kw (ld_glob I hg hm ?_ hdb)
  refine PySem.W.callWith_K (h₀ := Y.base) I.ok.mod.kin kp (thn (ha.run pos pins s σ H _ I h) fun us s1 ⟨vs, H1, I1, r, hl, q⟩ => ⟨I1.kIn, ?_⟩) he hpl
  have hul : us.length = ps.length := r.length.symm.trans hl
  have b := hB s1 us I1.kIn (by rw [List.append_nil]; exact hul)
  rw [List.append_nil] at b
  have rc : codeAny (model Y.prog Y.w) Y.A (.call (.ref f) ⟨us, []⟩) (CR C8.CX0 Y.stack Y.prog Y.w H1 s1 Q C8.E0) s1 := by
    refine LamX.run_ofS (N := N) (ps := ps) (us := us) (vs := vs) lk hcd S (hr.mono hj) I1.env0 b r hl fun hr' => ?_
    obtain ⟨t', ht', hq'⟩ := hbody pins σ s1 H1 I1 f cdv vs Q hr' q
    exact ⟨t', ht', hq'⟩
  refine wpAny_call (codeAny_mono rc fun r s2 hq => ?_)
  cases r with
  | error e => exact (show False from hq).elim
  | ok fl =>
    cases fl with
    | ret u => exact I1.after hq
    | next => exact False.elim hq
    | brk => exact False.elim hq
    | cont => exact False.elim hq
/-- [elt for tg in iter if ..], test and element told of the frame around -/
theorem pe_lcI {X : Cx} {elt tg iter : Expr} {ifs : List Expr} {scope : Scope} {own : List (Str × Nat)} {pos : Pos} {wi : TI} {g : TG} {tt : HSt → TT} {te : HSt → TE} (hc : X.calm = true) (hN : X.N.Nodup) (hi : PI X tg iter wi) (ok : BlkOk X.N X.env.scope scope own)
    (hg : ∀ (s : Shared) (H : Hp) (C : Addr) (cl : List (Str × Addr)) (fp : List Addr), PG (X.blk s H scope (compEnvC scope cl C X.env) fp) tg g)
    (ht : ∀ (pins : List (Addr × Obj)) (σ : HSt) (s : Shared) (H : Hp) (C : Addr) (cl : List (Str × Addr)) (fp : List Addr), Inv X pins σ H s → (∀ b ∈ fp, FpOk X pins H b) → PTs (X.blk s H scope (compEnvC scope cl C X.env) fp) ifs (tt σ))
    (he : ∀ (pins : List (Addr × Obj)) (σ : HSt) (s : Shared) (H : Hp) (C : Addr) (cl : List (Str × Addr)) (fp : List Addr), Inv X pins σ H s → (∀ b ∈ fp, FpOk X pins H b) → PE (X.blk s H scope (compEnvC scope cl C X.env) fp) elt (te σ)) (hs : ∀ x, foldedSetIterable iter X.env x = pure x := by intro _; rfl) :
    PE X (.ListComp elt [⟨tg, iter, ifs, 0⟩] scope pos) (fun σ H Q => tLc wi g (tt σ) (te σ) (own.map (·.2)) σ H Q) := by
  refine ⟨fun pins s σ H Q I h => ?_⟩
  rw [eval_ListComp]
  have hfree : ∀ y ∈ scope.names, y.2 = .free → ∃ c, X.env.cells.lookup y.1 = some c := fun y hy e => (ok.free y hy e).elim (fun k => I.ok.has _ (.inl k)) fun k => I.ok.has _ (.inr k)
  refine wpAny_comprehension_free (use := none) rfl hs (closure_ok hfree) ok.kind (fun y hy e => by rw [ok.uniq y hy, e]) (thn (hi.run pins s σ H _ I h) fun xv s1 hx => thn hx fun itv s2 h2 => ?_)
  obtain ⟨it, fp, tn, J, HA, rfl, IA, T, stA, fA, q⟩ := h2
  refine wpAny_newObj_type (newEnv_comp ?_) (by show 0 ≤ sizeLine; decide)
  generalize hD : s2.heap.objs.size = D
  obtain ⟨W, ⟨m0, w0⟩, turn⟩ := q D (IA.hok.fresh (Nat.le_of_eq hD))
  generalize hsB : ({ s2 with heap := s2.heap.push { cls := .type "list", data := .seq ([] : List Value).toArray } } : Shared) = sB
  generalize hHB : upd HA D (.lst []) = HB at w0
  have gB : sB.heap = s2.heap.push { cls := .type "list", data := .seq ([] : List Value).toArray } := by rw [← hsB]
  have IB : Inv X pins σ HB sB := by
    rw [← hHB, ← hsB]
    refine IA.laid (t' := s2.toks) (fun b o e => Heap.get?_push_of_some _ e) (Nat.le_of_eq hD) ⟨Nat.zero_le _, [], 0, .nil, ?_⟩
    rw [← hD]
    exact Heap.get?_push_size _ rfl
  have szB : ∀ b ∈ fp, b < s2.heap.objs.size := fun b hb => by
    obtain ⟨o, e, _⟩ := T.obj _ _ stA b hb
    exact Heap.lt_size e
  have fB : ∀ b ∈ fp, FpOk X pins HB b ∧ b < sB.heap.objs.size := fun b hb => by
    have lt := szB b hb
    refine ⟨⟨?_, (fA b hb).2⟩, by rw [gB, Heap.size_push]; exact Nat.lt_succ_of_lt lt⟩
    rw [← hHB, upd_ne (by rw [← hD]; exact Nat.ne_of_lt lt)]
    exact (fA b hb).1
  have stB : tn 0 sB.heap := T.keep _ _ _ stA fun b _ o e => by rw [gB]; exact Heap.get?_push_of_some _ e
  have IC := block_start IB ok hN fB
  have pg := hg sB HB sB.heap.objs.size (cellsFrom (sB.heap.objs.size + 1) scope.names (cloFrom X.env.cells scope.names [])) fp
  have pt := ht pins σ sB HB sB.heap.objs.size (cellsFrom (sB.heap.objs.size + 1) scope.names (cloFrom X.env.cells scope.names [])) fp IB fun b hb => (fB b hb).1
  have pe := he pins σ sB HB sB.heap.objs.size (cellsFrom (sB.heap.objs.size + 1) scope.names (cloFrom X.env.cells scope.names [])) fp IB fun b hb => (fB b hb).1
  generalize hce : compEnvC scope (cellsFrom (sB.heap.objs.size + 1) scope.names (cloFrom X.env.cells scope.names [])) sB.heap.objs.size X.env = ce at IC pg pt pe
  have cL : ce.locals = sB.heap.objs.size := by subst hce; rfl
  show codeAny _ _ (.compStart (.ListComp elt [⟨tg, iter, ifs, 0⟩] scope pos) 0 (.ref it) (.ref D) (compEnvC scope (cellsFrom (sB.heap.objs.size + 1) scope.names (cloFrom X.env.cells scope.names [])) sB.heap.objs.size X.env)) (compPost (model X.prog X.w) X.A X.xe none (EP X pins σ Q) (.ref D) sB.heap.objs.size) { sB with heap := pushCells (sB.heap.push { cls := .type "dict", data := .dict #[] }) scope.names }
  rw [hce]
  generalize hsC : ({ sB with heap := pushCells (sB.heap.push { cls := .type "dict", data := .dict #[] }) scope.names } : Shared) = sC at IC ⊢
  have stC : tn 0 sC.heap := T.keep _ _ _ stB fun b _ o e => by rw [← hsC]; exact pushCells_keeps _ _ _ _ (Heap.get?_push_of_some _ e)
  have nB : ∀ b ∈ fp, HB b = none := fun b hb => (fB b hb).1.1
  have stat : ∀ {σ' : HSt} {H' : Hp} {s' : Shared}, Inv (X.blk sB HB scope ce fp) [] σ' H' s' → (∀ b ∈ fp, H' b = none) → ∀ b ∈ fp, FpOk (X.blk sB HB scope ce fp) [] H' b := fun {σ' H' s'} J' hn b hb =>
    ⟨hn b hb, (J'.ok.exf b hb).1, J'.ok.exfs b hb, .inl hb, fun x c e => (J'.ok.exf b hb).2 x c e, fun p hp => absurd (show p ∈ ([] : List (Addr × Obj)) ++ [] from hp) (by simp)⟩
  have loop : codeAny (model X.prog X.w) X.A (.compLoop (.ListComp elt [⟨tg, iter, ifs, 0⟩] scope pos) 0 (.ref it) (.ref D) ce) (compPost (model X.prog X.w) X.A X.xe none (EP X pins σ Q) (.ref D) sB.heap.objs.size) sC := by
    refine compLoop_any (fun n s' => ∃ i H', Inv (X.blk sB HB scope ce fp) [] (wipe σ (own.map (·.2))) H' s' ∧ tn i s'.heap ∧ (∀ b ∈ fp, H' b = none) ∧ W i n H') ?_ m0 ⟨0, HB, IC, stC, nB, w0⟩
    rintro n s5 ⟨i, H5, I5, st5, n5, w5⟩
    rcases turn i n H5 w5 with ⟨stop, qq⟩ | ⟨go, Nx, hNx, step⟩
    · refine thnF (T.done (X.blk sB HB scope ce fp) rfl rfl rfl hc i [] s5 _ H5 (fun _ _ => False) I5 (stat I5 n5) st5 stop) fun r s6 ⟨hr, I6⟩ => ?_
      subst hr
      have I7 : Inv X pins σ H5 s6 := IB.call' (ch := fp) I6.os I6.base I6.hok I6.bare fun b hb => ⟨(fB b hb).1.2.2.2.1, (fB b hb).1.2.1, (fB b hb).1.2.2.2.2.1, (fB b hb).1.2.2.2.2.2⟩
      have nC : H5 sB.heap.objs.size = none := by
        have z : H5 ce.locals = none := I6.free
        rw [cL] at z
        exact z
      obtain ⟨m, hn, _⟩ := I6.loc
      have hn' : s6.heap.Ns ce.locals m := hn
      rw [cL] at hn'
      refine ⟨m, hn', fun h'' sb => ?_⟩
      obtain ⟨f0, f1, f2, f3, f4, f5⟩ := IB.fpOk (Nat.le_refl _) nC
      exact ⟨.ref D, H5, I7.turned (t' := s6.toks) (fun b o hb e => (sb.2 b hb).trans e) f0 f1 f3 f4 f5, rfl, qq⟩
    · refine thnF (T.item (X.blk sB HB scope ce fp) rfl rfl rfl hc i [] s5 _ H5 (fun _ _ => False) I5 (stat I5 n5) st5 go) fun r s6 ⟨u, hr, h6⟩ => ?_
      subst hr
      refine thnF h6 fun _ s7 ⟨x, H7, I7, r7, y7, st7, n7⟩ => ?_
      refine thnF (pg.run _ s7 _ H7 x u _ (I7.pinned (stat I7 n7) (T.obj _ _ st7)) r7 (step x H7 y7)) fun _ s8 ⟨σ8, H8, I8, hw8, q8⟩ => ?_
      refine thnF (pt.run _ s8 σ8 H8 _ I8 q8) fun b s9 ⟨H9, I9, q9⟩ => ?_
      have fin : ∀ {s' : Shared} {H' : Hp}, Inv (X.blk sB HB scope ce fp) ([] ++ pinsAt fp s7.heap) σ8 H' s' → Nx H' → ∃ m, m < n ∧ ∃ i H', Inv (X.blk sB HB scope ce fp) [] (wipe σ (own.map (·.2))) H' s' ∧ tn i s'.heap ∧ (∀ b ∈ fp, H' b = none) ∧ W i m H' := fun {s' H'} J' nx => by
        obtain ⟨m', hm, w'⟩ := hNx H' nx
        have pk : ∀ b ∈ fp, ∀ o, s7.heap.get? b = some o → s'.heap.get? b = some o ∧ H' b = none := fun b hb o e =>
          let z := J'.pin (b, o) (List.mem_append_right _ (List.mem_append_right _ (mem_pinsAt hb e)))
          ⟨z.1, z.2.1⟩
        have hl : (wipe σ (own.map (·.2))).length = σ8.length := by rw [← hw8, wipe_length]
        refine ⟨m', hm, i + 1, H', (J'.unpinned (pins := [])).weak hl (fun j v e => ?_), T.keep _ _ _ st7 fun b hb o e => (pk b hb o e).1, fun b hb => ?_, w'⟩
        · rw [← hw8] at e
          exact (wipe_some e).1
        · obtain ⟨o, e, _⟩ := T.obj _ _ st7 b hb
          exact (pk b hb o e).2
      cases b with
      | false =>
        simp only [Bool.false_eq_true, if_false] at q9 ⊢
        exact fin I9 q9
      | true =>
        simp only [if_true] at q9 ⊢
        refine thnF (pe.run _ s9 σ8 H9 _ I9 q9) fun z s10 ⟨yv, H10, I10, r10, acc, hD10, hz10, nx⟩ => ?_
        exact app_ok (X := X.blk sB HB scope ce fp) I10 hD10 hz10 r10 fun s11 I11 => fin I11 nx
  exact codeAny_compStart_list loop (T.self X.A 0 _ _ _ stC loop)
/-- a captured cell of the frame, as a kept lambda's captured name -/
theorem ck_of {X : Cx} {pins : List (Addr × Obj)} {σ : HSt} {H : Hp} {s : Shared} {j : Nat} {y : Str} {v : V} (I : Inv X pins σ H s) (hN : X.N[j]? = some y) (hσ : σ[j]? = some (some v)) (hc : X.env.scope.names.lookup y = some .cell) :
    ∃ c, X.env.cells.lookup y = some c ∧ CK [(y, c)] [y] [some v] H s.heap := by
  obtain ⟨c, e⟩ := I.ok.has y (.inl hc)
  refine ⟨c, e, fun z d e2 => ?_, fun i z u e1 e2 => ?_⟩
  · have : z = y ∧ d = c := by
      rw [List.lookup_cons] at e2
      cases h : (z == y) with
      | true => rw [h] at e2; cases e2; exact ⟨by simpa using h, rfl⟩
      | false => rw [h] at e2; cases e2
    rw [this.2]
    exact ⟨I.freeC y c e, I.cell y c e⟩
  · cases i with
    | succ i => cases e1
    | zero =>
      cases e1
      cases e2
      obtain ⟨m, _, hl⟩ := I.loc
      obtain ⟨u, r, q⟩ := hl j y v hN hσ (.inr (.inl hc))
      refine ⟨u, c, r, by simp [List.lookup], ?_⟩
      rcases q with ⟨k', _⟩ | ⟨_, c3, e', z⟩
      · have k' : X.env.scope.names.lookup y = some .local := k'
        rw [hc] at k'
        cases k'
      · rw [e] at e'
        cases e'
        exact z
theorem ck_slot {X : Cx} {pins : List (Addr × Obj)} {σ : HSt} {H : Hp} {s : Shared} {j : Nat} {y : Str} {c : Addr} (I : Inv X pins σ H s) (hN : X.N[j]? = some y) (hc : X.env.scope.names.lookup y = some .cell) (e : X.env.cells.lookup y = some c) : CK [(y, c)] [y] [(σ[j]?).getD none] H s.heap := by
  refine ⟨fun z d e2 => ?_, fun i z u e1 e2 => ?_⟩
  · have : d = c := by
      rw [List.lookup_cons] at e2
      cases h : (z == y) with
      | true => rw [h] at e2; cases e2; rfl
      | false => rw [h] at e2; cases e2
    rw [this]
    exact ⟨I.freeC y c e, I.cell y c e⟩
  · cases i with
    | succ i => cases e1
    | zero =>
      cases e1
      cases hσ : σ[j]? with
      | none => rw [hσ] at e2; cases e2
      | some o =>
        rw [hσ] at e2
        cases e2
        obtain ⟨m, _, hl⟩ := I.loc
        obtain ⟨u, r, q⟩ := hl j y _ hN hσ (.inr (.inl hc))
        refine ⟨u, c, r, by simp [List.lookup], ?_⟩
        rcases q with ⟨k', _⟩ | ⟨_, c3, e', z⟩
        · have k' : X.env.scope.names.lookup y = some .local := k'
          rw [hc] at k'
          cases k'
        · rw [e] at e'
          cases e'
          exact z
end EL
set_option maxHeartbeats 4000000
/-! ### EL14: repr of None and of a pair of texts -/
namespace EL
open PySem PySem.Spec PyProof.Rows L2 Evl
def reprFc (r : Option (Str × Str)) : Str := match r with
  | none => "None"
  | some (x, y) => tupleText [reprText x, reprText y]
def smallS (w : Str) : Prop := w.length ≤ 100 ∧ ∀ c ∈ w.cps.toList, c < 16 ^ 8
def rReprFc (K : PySem.W.Frag) : List V → Hp → VK → Prop := fun xs H Q => ∃ (x : V) (r : Option (Str × Str)), xs = [x] ∧ (match r with | none => x = .non | some (a, b) => smallS a ∧ smallS b ∧ ∃ p, x = .ref p ∧ SqT K H p [.str a, .str b]) ∧ Q (.str (reprFc r)) H
theorem call_reprFc {X : Cx} {k : Nat} (hg : X.A.guards = some []) (hr : Room k X.A) : CallR X (.builtin "repr") (rReprFc X.K) := by
  intro pins s σ H xs us Q I r h
  obtain ⟨x, o, rfl, hx, q⟩ := h
  obtain ⟨u, rfl, ru⟩ := vals1 r
  cases o with
  | none =>
    have hx : x = .non := hx
    subst hx
    cases ru
    exact PySem.P.repr_of_none ⟨.str _, H, I.tok _, ⟨_, rfl⟩, q⟩
  | some w =>
    obtain ⟨a, b⟩ := w
    obtain ⟨ha, hb, p, rfl, ht⟩ := hx
    cases ru
    obtain ⟨its, rv, ⟨ob, ho, hcl, n, hd⟩, _⟩ := I.tuple (xs := [a, b].map V.str) ht
    have hc : ∀ y ∈ [a, b], ∀ c ∈ y.cps.toList, c < 16 ^ 8 := fun y hy => by
      rcases List.mem_cons.mp hy with e | e
      · rw [e]; exact ha.2
      · rw [List.mem_singleton.mp e]; exact hb.2
    have hp := PySem.fmt_piled [a, b] hc
    have htx := PySem.fmt_text ([a, b].map reprText)
    have hcost : PySem.fmtCost [a, b] = 10 * a.length + 4 + (10 * b.length + 4 + 0) := rfl
    have l1 := ha.1
    have l2 := hb.1
    have hu := hr.units
    have hsz : (tupleText ([a, b].map reprText)).length ≤ sizeLine := sz_of (by omega)
    refine call_repr_slot (T := "tuple") (idr := "tuple.__repr__") (by omega) ⟨ob, ho, hcl⟩ F.slot_tuple_repr ?_
    refine call_tuple_repr (ts := [a, b].map reprText) (g := []) ⟨ob, ho, hcl⟩ hg (fun c hc => absurd hc (by simp)) ho hd (repr_all rv fun y hy => ?_) (fun u tk => ⟨_, u, rfl, .str _, H, I.tok _, ⟨_, rfl⟩, q⟩) hsz
    have h1 := StrLaws.reprText_len y (hc y hy)
    have : y.length ≤ 100 := by
      rcases List.mem_cons.mp hy with e | e
      · rw [e]; exact l1
      · rw [List.mem_singleton.mp e]; exact l2
    exact sz_of (by omega)
end EL
set_option maxHeartbeats 4000000
namespace EL
open PySem PySem.Spec PyProof.Rows L2 Evl
/-! ### the text by places -/
def top (i : Nat) : Stmt := PySem.Challenge.pw_endlist_k50_clashes_by_definition.main.body.getD i (.Pass ⟨0, 0, 0, 0⟩)
abbrev s__wall : Stmt := top 0
abbrev s_is_printable : Stmt := top 17
abbrev s_is_text : Stmt := top 18
abbrev s_is_name : Stmt := top 19
abbrev s_is_comment : Stmt := top 20
abbrev s_is_number : Stmt := top 23
abbrev s_is_bytes : Stmt := top 24
abbrev s_need_bytes : Stmt := top 25
abbrev s_forward : Stmt := top 29
abbrev s_check : Stmt := top 30
abbrev s_days_in : Stmt := top 36
abbrev s_is_time : Stmt := top 37
abbrev s_are_entries : Stmt := top 44
abbrev s_need_state : Stmt := top 47
abbrev s_is_folder : Stmt := top 49
abbrev s_parts_of : Stmt := top 50
abbrev s_bad_part : Stmt := top 51
abbrev s_do_clash : Stmt := top 52
abbrev s_first_clash : Stmt := top 53
abbrev s_clash : Stmt := top 54
abbrev s_need_tree : Stmt := top 55
abbrev s_lay : Stmt := top 56
abbrev s_tree_of : Stmt := top 57
abbrev s_tree : Stmt := top 58
abbrev s_unpacked : Stmt := top 59
abbrev s__law_begun : Stmt := top 61
abbrev s__law_next : Stmt := top 62
abbrev s__law_pick : Stmt := top 63
abbrev s__law_shuffled : Stmt := top 64
abbrev s__law_signs : Stmt := top 65
abbrev s__law_note : Stmt := top 66
abbrev s__law_moment : Stmt := top 67
abbrev s__law_some : Stmt := top 68
abbrev s__law_entry : Stmt := top 69
abbrev s__law_made : Stmt := top 70
abbrev s__law_state : Stmt := top 71
abbrev s__law_paths : Stmt := top 72
abbrev s__law_path_entries : Stmt := top 73
abbrev s__law_split : Stmt := top 74
abbrev s__law_do_clash : Stmt := top 75
abbrev s__law_due : Stmt := top 76
abbrev s__law_is_refused : Stmt := top 77
abbrev s_law : Stmt := top 78
abbrev s_NoEntry___init__ : Stmt := inClass (top 9) 0
abbrev s_NoTree___init__ : Stmt := inClass (top 10) 0
abbrev s_Entry___init__ : Stmt := inClass (top 41) 0
abbrev s_Entry_data : Stmt := inClass (top 41) 1
abbrev s_Entry_size : Stmt := inClass (top 41) 2
abbrev s_Entry_check : Stmt := inClass (top 41) 3
abbrev s_Entry_renamed : Stmt := inClass (top 41) 4
abbrev s_Entry_described : Stmt := inClass (top 41) 5
abbrev s_Entry___eq__ : Stmt := inClass (top 41) 6
abbrev s_State___init__ : Stmt := inClass (top 45) 0
abbrev s_State___len__ : Stmt := inClass (top 45) 1
abbrev s_State___bool__ : Stmt := inClass (top 45) 2
abbrev s_State___contains__ : Stmt := inClass (top 45) 3
abbrev s_State___getitem__ : Stmt := inClass (top 45) 4
abbrev s_State___iter__ : Stmt := inClass (top 45) 5
abbrev s_State___eq__ : Stmt := inClass (top 45) 6
abbrev s_State_names : Stmt := inClass (top 45) 7
abbrev s_State_entries : Stmt := inClass (top 45) 8
abbrev s_State_place_of : Stmt := inClass (top 45) 9
abbrev s_State_with_rows : Stmt := inClass (top 45) 10
abbrev s_State_added : Stmt := inClass (top 45) 11
abbrev s_State_put : Stmt := inClass (top 45) 12
abbrev s_State_renamed : Stmt := inClass (top 45) 13
abbrev s_State_moved : Stmt := inClass (top 45) 14
abbrev s_State_removed : Stmt := inClass (top 45) 15
abbrev s_State_described : Stmt := inClass (top 45) 16
abbrev s_State_commented : Stmt := inClass (top 45) 17
/-! where things stand -/
structure Ads where
  emptyT : Addr
  C_ArchiveError : Addr
  C_NoBytes : Addr
  C_NoTime : Addr
  C_NoName : Addr
  C_NoComment : Addr
  C_NoData : Addr
  C_NoState : Addr
  C_NoEntry : Addr
  C_NoTree : Addr
  C_Entry : Addr
  C_State : Addr
  t_STEPS : Addr
  t_EARLIEST : Addr
  t_MONTHS : Addr
  t_FIRST_TIME : Addr
  p_Entry_data : Addr
  f_Entry_data : Addr
  p_Entry_size : Addr
  f_Entry_size : Addr
  p_Entry_check : Addr
  f_Entry_check : Addr
  i_Entry : Addr
  i_State : Addr
/-! what the top has written -/
structure Txt (K : PySem.W.Frag) (mg : Str → Option Value) (A : Ads) : Prop where
  d__wall : Dfn K mg "_wall" s__wall
  d_is_printable : Dfn K mg "is_printable" s_is_printable
  d_is_text : Dfn K mg "is_text" s_is_text
  d_is_name : Dfn K mg "is_name" s_is_name
  d_is_comment : Dfn K mg "is_comment" s_is_comment
  d_is_number : Dfn K mg "is_number" s_is_number
  d_is_bytes : Dfn K mg "is_bytes" s_is_bytes
  d_need_bytes : Dfn K mg "need_bytes" s_need_bytes
  d_forward : Dfn K mg "forward" s_forward
  d_check : Dfn K mg "check" s_check
  d_days_in : Dfn K mg "days_in" s_days_in
  d_is_time : Dfn K mg "is_time" s_is_time
  d_are_entries : Dfn K mg "are_entries" s_are_entries
  d_need_state : Dfn K mg "need_state" s_need_state
  d_is_folder : Dfn K mg "is_folder" s_is_folder
  d_parts_of : Dfn K mg "parts_of" s_parts_of
  d_bad_part : Dfn K mg "bad_part" s_bad_part
  d_do_clash : Dfn K mg "do_clash" s_do_clash
  d_first_clash : Dfn K mg "first_clash" s_first_clash
  d_clash : Dfn K mg "clash" s_clash
  d_need_tree : Dfn K mg "need_tree" s_need_tree
  d_lay : Dfn K mg "lay" s_lay
  d_tree_of : Dfn K mg "tree_of" s_tree_of
  d_tree : Dfn K mg "tree" s_tree
  d_unpacked : Dfn K mg "unpacked" s_unpacked
  d__law_begun : Dfn K mg "_law_begun" s__law_begun
  d__law_next : Dfn K mg "_law_next" s__law_next
  d__law_pick : Dfn K mg "_law_pick" s__law_pick
  d__law_shuffled : Dfn K mg "_law_shuffled" s__law_shuffled
  d__law_signs : Dfn K mg "_law_signs" s__law_signs
  d__law_note : Dfn K mg "_law_note" s__law_note
  d__law_moment : Dfn K mg "_law_moment" s__law_moment
  d__law_some : Dfn K mg "_law_some" s__law_some
  d__law_entry : Dfn K mg "_law_entry" s__law_entry
  d__law_made : Dfn K mg "_law_made" s__law_made
  d__law_state : Dfn K mg "_law_state" s__law_state
  d__law_paths : Dfn K mg "_law_paths" s__law_paths
  d__law_path_entries : Dfn K mg "_law_path_entries" s__law_path_entries
  d__law_split : Dfn K mg "_law_split" s__law_split
  d__law_do_clash : Dfn K mg "_law_do_clash" s__law_do_clash
  d__law_due : Dfn K mg "_law_due" s__law_due
  d__law_is_refused : Dfn K mg "_law_is_refused" s__law_is_refused
  d_law : Dfn K mg "law" s_law
  a_check_checks : mg "check_checks" = mg "check"
  g_LONGEST_NAME : GI mg "LONGEST_NAME" 24
  g_LONGEST_COMMENT : GI mg "LONGEST_COMMENT" 40
  g_FIRST_SIGN : GI mg "FIRST_SIGN" 32
  g_LAST_SIGN : GI mg "LAST_SIGN" 126
  g_PERCENT : GI mg "PERCENT" 37
  g_GREATEST_BYTE : GI mg "GREATEST_BYTE" 255
  g_GREATEST_CHECK : GI mg "GREATEST_CHECK" 4294967295
  g_STEPS : GTu K mg "STEPS" A.t_STEPS [vn 0, vn 498536548, vn 997073096, vn 651767980, vn 1994146192, vn 1802195444, vn 1303535960, vn 1342533948, vn 3988292384, vn 4027552580, vn 3604390888, vn 3412177804, vn 2607071920, vn 2262029012, vn 2685067896, vn 3183342108]
  g_EARLIEST : GTu K mg "EARLIEST" A.t_EARLIEST [vn 1980, vn 1, vn 1, vn 0, vn 0, vn 0]
  g_LATEST_YEAR : GI mg "LATEST_YEAR" 2107
  g_MONTHS : GTu K mg "MONTHS" A.t_MONTHS [vn 31, vn 28, vn 31, vn 30, vn 31, vn 30, vn 31, vn 31, vn 30, vn 31, vn 30, vn 31]
  g_MOST_DATA : GI mg "MOST_DATA" 1500
  g_FIRST_TIME : GTu K mg "FIRST_TIME" A.t_FIRST_TIME [vn 1980, vn 1, vn 1, vn 0, vn 0, vn 0]
  g_MOST : GI mg "MOST" 20
  k_ArchiveError : GKl K mg "ArchiveError" A.C_ArchiveError
  k_NoBytes : GKl K mg "NoBytes" A.C_NoBytes
  k_NoTime : GKl K mg "NoTime" A.C_NoTime
  k_NoName : GKl K mg "NoName" A.C_NoName
  k_NoComment : GKl K mg "NoComment" A.C_NoComment
  k_NoData : GKl K mg "NoData" A.C_NoData
  k_NoState : GKl K mg "NoState" A.C_NoState
  k_NoEntry : GKl K mg "NoEntry" A.C_NoEntry
  k_NoTree : GKl K mg "NoTree" A.C_NoTree
  k_Entry : GKl K mg "Entry" A.C_Entry
  k_State : GKl K mg "State" A.C_State
  cl_Entry : Cls K A.C_Entry
  ic_Entry : C8.InsC K A.C_Entry
  na_Entry_name : NoAttr K A.C_Entry "name"
  na_Entry_own_data : NoAttr K A.C_Entry "own_data"
  na_Entry_time : NoAttr K A.C_Entry "time"
  na_Entry_comment : NoAttr K A.C_Entry "comment"
  na_Entry_own_check : NoAttr K A.C_Entry "own_check"
  mk_Entry : Mk K A.C_Entry A.i_Entry
  in_Entry : ∃ fd, FunD K "__init__" "Entry.__init__" (defArgs s_Entry___init__) (defBody s_Entry___init__) (defScope s_Entry___init__) [] [("time", .ref A.t_FIRST_TIME), ("comment", .str "")] A.i_Entry fd
  pr_Entry_data : PropOf K A.C_Entry "data" A.p_Entry_data A.f_Entry_data
  pf_Entry_data : ∃ fd, FunD K "data" "Entry.data" (defArgs s_Entry_data) (defBody s_Entry_data) (defScope s_Entry_data) [] [] A.f_Entry_data fd
  pr_Entry_size : PropOf K A.C_Entry "size" A.p_Entry_size A.f_Entry_size
  pf_Entry_size : ∃ fd, FunD K "size" "Entry.size" (defArgs s_Entry_size) (defBody s_Entry_size) (defScope s_Entry_size) [] [] A.f_Entry_size fd
  pr_Entry_check : PropOf K A.C_Entry "check" A.p_Entry_check A.f_Entry_check
  pf_Entry_check : ∃ fd, FunD K "check" "Entry.check" (defArgs s_Entry_check) (defBody s_Entry_check) (defScope s_Entry_check) [] [] A.f_Entry_check fd
  m_Entry_renamed : Mth K A.C_Entry "renamed" "Entry.renamed" s_Entry_renamed
  m_Entry_described : Mth K A.C_Entry "described" "Entry.described" s_Entry_described
  m_Entry___eq__ : Mth K A.C_Entry "__eq__" "Entry.__eq__" s_Entry___eq__
  cl_State : Cls K A.C_State
  ic_State : C8.InsC K A.C_State
  na_State_rows : NoAttr K A.C_State "rows"
  na_State_comment : NoAttr K A.C_State "comment"
  mk_State : Mk K A.C_State A.i_State
  in_State : ∃ fd, FunD K "__init__" "State.__init__" (defArgs s_State___init__) (defBody s_State___init__) (defScope s_State___init__) [.ref A.emptyT] [("comment", .str "")] A.i_State fd
  m_State___len__ : Mth K A.C_State "__len__" "State.__len__" s_State___len__
  m_State___bool__ : Mth K A.C_State "__bool__" "State.__bool__" s_State___bool__
  m_State___contains__ : Mth K A.C_State "__contains__" "State.__contains__" s_State___contains__
  m_State___getitem__ : Mth K A.C_State "__getitem__" "State.__getitem__" s_State___getitem__
  m_State___iter__ : Mth K A.C_State "__iter__" "State.__iter__" s_State___iter__
  m_State___eq__ : Mth K A.C_State "__eq__" "State.__eq__" s_State___eq__
  m_State_names : Mth K A.C_State "names" "State.names" s_State_names
  m_State_entries : Mth K A.C_State "entries" "State.entries" s_State_entries
  m_State_place_of : Mth K A.C_State "place_of" "State.place_of" s_State_place_of
  m_State_with_rows : Mth K A.C_State "with_rows" "State.with_rows" s_State_with_rows
  m_State_put : Mth K A.C_State "put" "State.put" s_State_put
  m_State_renamed : Mth K A.C_State "renamed" "State.renamed" s_State_renamed
  m_State_moved : Mth K A.C_State "moved" "State.moved" s_State_moved
  m_State_removed : Mth K A.C_State "removed" "State.removed" s_State_removed
  m_State_described : Mth K A.C_State "described" "State.described" s_State_described
  m_State_commented : Mth K A.C_State "commented" "State.commented" s_State_commented
  b_ValueError : mg "ValueError" = none
  b_abs : mg "abs" = none
  b_all : mg "all" = none
  b_any : mg "any" = none
  b_bool : mg "bool" = none
  b_enumerate : mg "enumerate" = none
  b_int : mg "int" = none
  b_isinstance : mg "isinstance" = none
  b_len : mg "len" = none
  b_list : mg "list" = none
  b_ord : mg "ord" = none
  b_range : mg "range" = none
  b_repr : mg "repr" = none
  b_sorted : mg "sorted" = none
  b_str : mg "str" = none
  b_tuple : mg "tuple" = none
end EL
set_option maxHeartbeats 4000000
/-! ### D1: names, octets, checks, times -/
namespace EL
open PySem PySem.Spec PyProof.Rows L2 Evl
/-! the mirrors -/
def prN (n : Nat) : Bool := decide (32 ≤ n) && decide (n ≤ 126) && !decide (n = 37)
def txtOk (w : Str) : Bool := w.cps.toList.all prN
def nameOk (w : Str) : Bool := txtOk w && (decide (1 ≤ w.length) && decide (w.length ≤ 24))
def comOk (w : Str) : Bool := txtOk w && decide (w.length ≤ 40)
def byteOk (b : Nat) : Bool := decide (0 ≤ b) && decide (b ≤ 255)
def bytesOk (bs : List Nat) : Bool := bs.all byteOk
def steps : List Nat := [0, 498536548, 997073096, 651767980, 1994146192, 1802195444, 1303535960, 1342533948, 3988292384, 4027552580, 3604390888, 3412177804, 2607071920, 2262029012, 2685067896, 3183342108]
def stp (c : Nat) : Nat := (c >>> 4) ^^^ steps.getD (c &&& 15) 0
def fwd1 (c b : Nat) : Nat := stp (stp (c ^^^ b))
def fwd (c : Nat) (bs : List Nat) : Nat := bs.foldl fwd1 c
def crc (bs : List Nat) : Nat := fwd 4294967295 bs ^^^ 4294967295
/-! the promises -/
def sp_is_printable : Sp := fun vs H Q _ => ∃ n : Nat, vs = [vn n] ∧ RetV (.bl (prN n)) H Q
def sp_is_text : Sp := fun vs H Q _ => ∃ w : Str, vs = [.str w] ∧ w.length ≤ 100000 ∧ RetV (.bl (txtOk w)) H Q
def sp_is_name : Sp := fun vs H Q _ => ∃ w : Str, vs = [.str w] ∧ w.length ≤ 100000 ∧ RetV (.bl (nameOk w)) H Q
def sp_is_comment : Sp := fun vs H Q _ => ∃ w : Str, vs = [.str w] ∧ w.length ≤ 100000 ∧ RetV (.bl (comOk w)) H Q
def sp_is_number : Sp := fun vs H Q _ => ∃ n lo hi : Nat, vs = [vn n, vn lo, vn hi] ∧ RetV (.bl (decide (lo ≤ n) && decide (n ≤ hi))) H Q
def sp_is_bytes (K : PySem.W.Frag) : Sp := fun vs H Q _ => ∃ (a : Addr) (bs : List Nat), vs = [.ref a] ∧ SqL K H a (vns bs) ∧ bs.length ≤ 100000 ∧ RetV (.bl (bytesOk bs)) H Q
def sp_need_bytes (K : PySem.W.Frag) : Sp := fun vs H Q _ => ∃ (a : Addr) (bs : List Nat), vs = [.ref a] ∧ SqL K H a (vns bs) ∧ bs.length ≤ 100000 ∧ bytesOk bs = true ∧ RetV .non H Q
def sp_forward (K : PySem.W.Frag) : Sp := fun vs H Q _ => ∃ (c : Nat) (a : Addr) (bs : List Nat), vs = [vn c, .ref a] ∧ SqL K H a (vns bs) ∧ RetV (vn (fwd c bs)) H Q
def sp_check (K : PySem.W.Frag) : Sp := fun vs H Q _ => ∃ (a : Addr) (bs : List Nat), vs = [.ref a] ∧ SqL K H a (vns bs) ∧ bs.length ≤ 100000 ∧ bytesOk bs = true ∧ RetV (vn (crc bs)) H Q
section
variable {K : PySem.W.Frag} {F : Hp} {a : Addr} {bs : List Nat}
theorem spv_is_printable {n : Nat} : SpV sp_is_printable [vn n] F (.bl (prN n)) := fun H1 e Q q E => ⟨n, rfl, q⟩
theorem spv_is_text {w : Str} (h : w.length ≤ 100000) : SpV sp_is_text [.str w] F (.bl (txtOk w)) := fun H1 e Q q E => ⟨w, rfl, h, q⟩
theorem spv_is_name {w : Str} (h : w.length ≤ 100000) : SpV sp_is_name [.str w] F (.bl (nameOk w)) := fun H1 e Q q E => ⟨w, rfl, h, q⟩
theorem spv_is_comment {w : Str} (h : w.length ≤ 100000) : SpV sp_is_comment [.str w] F (.bl (comOk w)) := fun H1 e Q q E => ⟨w, rfl, h, q⟩
theorem spv_is_number {n lo hi : Nat} : SpV sp_is_number [vn n, vn lo, vn hi] F (.bl (decide (lo ≤ n) && decide (n ≤ hi))) := fun H1 e Q q E => ⟨n, lo, hi, rfl, q⟩
theorem spv_is_bytes (h : SqL K F a (vns bs)) (hl : bs.length ≤ 100000) : SpV (sp_is_bytes K) [.ref a] F (.bl (bytesOk bs)) := fun H1 e Q q E => ⟨a, bs, rfl, ex_l e h, hl, q⟩
theorem spv_need_bytes (h : SqL K F a (vns bs)) (hl : bs.length ≤ 100000) (hb : bytesOk bs = true) : SpV (sp_need_bytes K) [.ref a] F .non := fun H1 e Q q E => ⟨a, bs, rfl, ex_l e h, hl, hb, q⟩
theorem spv_forward {c : Nat} (h : SqL K F a (vns bs)) : SpV (sp_forward K) [vn c, .ref a] F (vn (fwd c bs)) := fun H1 e Q q E => ⟨c, a, bs, rfl, ex_l e h, q⟩
theorem spv_check (h : SqL K F a (vns bs)) (hl : bs.length ≤ 100000) (hb : bytesOk bs = true) : SpV (sp_check K) [.ref a] F (vn (crc bs)) := fun H1 e Q q E => ⟨a, bs, rfl, ex_l e h, hl, hb, q⟩
end
section
variable {P : Program} {w : World} {K : PySem.W.Frag} {mg : Str → Option Value} {base : Heap} {A : Ads}
theorem sc_is_printable : FnScope ["number"] ["number"] (defScope s_is_printable) := C8.fnScope_by (by decide +kernel)
theorem c_is_printable (T : Txt K mg A) : C8.Cal P w K mg base 1 "is_printable" sp_is_printable [] := by
  refine cal_of T.d_is_printable sc_is_printable (fun _ _ _ _ _ _ us hl => match us, hl with | [_], _ => rfl) (fun vs H Q E h => ?_) (fun f cdv A0 outer s H vs Q E hr h => ?_)
  · obtain ⟨n, rfl, _⟩ := h; rfl
  · obtain ⟨n, rfl, k⟩ := h
    have sc := sc_is_printable
    refine ⟨_, pss_one (ps_ret (pe_and (pe_chain op_le op_le (pe_gi T.g_FIRST_SIGN) (pv 0) (pe_gi T.g_LAST_SIGN)) (pe_one (pe_cmpR op_ne (pv 0) (pe_gi T.g_PERCENT) (nomark _))))), ?_⟩
    exact z_ret (Ex.refl H) (ev_andV (ev_chain ev_c (ev_var rfl) rvn_le ev_c rvn_le) fun _ => (ev_op (ev_var rfl) ev_c rvn_ne)) fun H1 e1 => k H1 e1
theorem sc_is_text : FnScope ["thing", "sign"] ["thing"] (defScope s_is_text) := C8.fnScope_by (by decide +kernel)
theorem c_is_text (T : Txt K mg A) : C8.Cal P w K mg base 2 "is_text" sp_is_text [] := by
  have c_is_printable : C8.Cal P w K mg base 1 _ _ _ := c_is_printable T
  refine cal_of T.d_is_text sc_is_text (fun _ _ _ _ _ _ us hl => match us, hl with | [_], _ => rfl) (fun vs H Q E h => ?_) (fun f cdv A0 outer s H vs Q E hr h => ?_)
  · obtain ⟨n, rfl, _⟩ := h; rfl
  · obtain ⟨n, rfl, hl, k⟩ := h
    have sc := sc_is_text
    refine ⟨_, pss_one (ps_ret (pe_and (pe_callB call_isi (by rfl) T.b_isinstance (by decide +kernel) (pa_cons (pv 0) (pa_cons (pe_bltn (v := .ty "str") (by rfl) T.b_str boot_str rfl) pa_nil))) (pe_one (pe_callB (cr_all rfl) (by rfl) T.b_all (by decide +kernel) (pa_cons (pe_lc (own := [("sign", 1)]) (g := gName 1) rfl sc.nd (pi_str (pv 0)) (blkOk_by (N := ["thing", "sign"]) (sc := defScope s_is_text) (by decide +kernel)) (fun _ _ _ _ _ => pg_name (i := 1) sc.nd rfl (Or.inl rfl)) (fun _ _ _ _ _ => pts_nil) (fun _ _ _ _ _ => (C8.pe_c c_is_printable hr (by decide) (by rfl) (pa_cons (pe_callB call_ord (by rfl) T.b_ord (by decide +kernel) (pa_cons (pv 1) pa_nil)) pa_nil)))) pa_nil))))), ?_⟩
    refine z_ret (Ex.refl H) (ev_andV (ev_isi (ea_cons (ev_var rfl) (ea_cons ev_c ea_nil)) (.ty _) (fun _ _ => ty_str) (kit_ty (r := true) (by decide +kernel))) fun _ => (ev_allm (el_map _ _ _ (ei_str (ev_var rfl)) (by simpa [Str.length] using hl) (by intro _; rfl) (fun _ _ _ _ => (ev_call (ea_cons (ev_ord (ev_var rfl)) ea_nil) spv_is_printable))))) fun H1 e1 => k H1 e1
theorem sc_is_name : FnScope ["thing"] ["thing"] (defScope s_is_name) := C8.fnScope_by (by decide +kernel)
theorem c_is_name (T : Txt K mg A) : C8.Cal P w K mg base 3 "is_name" sp_is_name [] := by
  have c_is_text : C8.Cal P w K mg base 2 _ _ _ := c_is_text T
  refine cal_of T.d_is_name sc_is_name (fun _ _ _ _ _ _ us hl => match us, hl with | [_], _ => rfl) (fun vs H Q E h => ?_) (fun f cdv A0 outer s H vs Q E hr h => ?_)
  · obtain ⟨n, rfl, _⟩ := h; rfl
  · obtain ⟨n, rfl, hl, k⟩ := h
    refine ⟨_, pss_one (ps_ret (pe_and (C8.pe_c c_is_text hr (by decide) (by rfl) (pa_cons (pv 0) pa_nil)) (pe_one (pe_chain op_le op_le (pe_n 1) (pe_callB call_len_str (by rfl) T.b_len boot_len (pa_cons (pv 0) pa_nil)) (pe_gi T.g_LONGEST_NAME))))), ?_⟩
    exact z_ret (Ex.refl H) (ev_andV (ev_call (ea_cons (ev_var rfl) ea_nil) (spv_is_text hl)) fun _ => (ev_chain ev_c (ev_lenS (ev_var rfl) hl) rvn_le ev_c rvn_le)) fun H1 e1 => k H1 e1
theorem sc_is_comment : FnScope ["thing"] ["thing"] (defScope s_is_comment) := C8.fnScope_by (by decide +kernel)
theorem c_is_comment (T : Txt K mg A) : C8.Cal P w K mg base 3 "is_comment" sp_is_comment [] := by
  have c_is_text : C8.Cal P w K mg base 2 _ _ _ := c_is_text T
  refine cal_of T.d_is_comment sc_is_comment (fun _ _ _ _ _ _ us hl => match us, hl with | [_], _ => rfl) (fun vs H Q E h => ?_) (fun f cdv A0 outer s H vs Q E hr h => ?_)
  · obtain ⟨n, rfl, _⟩ := h; rfl
  · obtain ⟨n, rfl, hl, k⟩ := h
    refine ⟨_, pss_one (ps_ret (pe_and (C8.pe_c c_is_text hr (by decide) (by rfl) (pa_cons (pv 0) pa_nil)) (pe_one (pe_cmpR op_le (pe_callB call_len_str (by rfl) T.b_len boot_len (pa_cons (pv 0) pa_nil)) (pe_gi T.g_LONGEST_COMMENT) (nomark _))))), ?_⟩
    exact z_ret (Ex.refl H) (ev_andV (ev_call (ea_cons (ev_var rfl) ea_nil) (spv_is_text hl)) fun _ => (ev_op (ev_lenS (ev_var rfl) hl) ev_c rvn_le)) fun H1 e1 => k H1 e1
theorem sc_is_number : FnScope ["thing", "low", "high"] ["thing", "low", "high"] (defScope s_is_number) := C8.fnScope_by (by decide +kernel)
theorem c_is_number (T : Txt K mg A) : C8.Cal P w K mg base 1 "is_number" sp_is_number [] := by
  refine cal_of T.d_is_number sc_is_number (fun _ _ _ _ _ _ us hl => match us, hl with | [_, _, _], _ => rfl) (fun vs H Q E h => ?_) (fun f cdv A0 outer s H vs Q E hr h => ?_)
  · obtain ⟨n, lo, hi, rfl, _⟩ := h; rfl
  · obtain ⟨n, lo, hi, rfl, k⟩ := h
    refine ⟨_, pss_one (ps_ret (pe_and (pe_callB call_isi (by rfl) T.b_isinstance (by decide +kernel) (pa_cons (pv 0) (pa_cons (pe_bltn (v := .ty "int") (by rfl) T.b_int boot_int rfl) pa_nil))) (pe_and (pe_not (pe_callB call_isi (by rfl) T.b_isinstance (by decide +kernel) (pa_cons (pv 0) (pa_cons (pe_bltn (v := .ty "bool") (by rfl) T.b_bool boot_bool rfl) pa_nil)))) (pe_one (pe_chain op_le op_le (pv 1) (pv 0) (pv 2)))))), ?_⟩
    exact z_ret (Ex.refl H) (ev_andV (ev_isi (ea_cons (ev_var rfl) (ea_cons ev_c ea_nil)) (.ty _) (fun _ _ => ty_int) (kit_ty (r := true) (by decide +kernel))) fun _ => (ev_andV (ev_notV (ev_isi (ea_cons (ev_var rfl) (ea_cons ev_c ea_nil)) (.ty _) (fun _ _ => ty_int) (kit_ty (r := false) (by decide +kernel)))) fun _ => (ev_chain (ev_var rfl) (ev_var rfl) rvn_le (ev_var rfl) rvn_le))) fun H1 e1 => k H1 e1
theorem sc_forward : FnScope ["crc", "some", "one"] ["crc", "some"] (defScope s_forward) := C8.fnScope_by (by decide +kernel)
theorem step_at (c : Nat) : atI (vns steps) ((c &&& 15 : Nat) : Int) = some (vn (steps.getD (c &&& 15) 0)) := by
  refine atI_nat ?_
  have h : c &&& 15 < 16 := by rw [Nat.and_two_pow_sub_one_eq_mod c 4]; omega
  generalize c &&& 15 = i at h ⊢
  unfold vns
  rw [List.getElem?_map, List.getD_eq_getElem?_getD, List.getElem?_eq_getElem (by show i < 16; exact h)]
  rfl
theorem fwd_take {bs : List Nat} {c : Nat} {i b : Nat} (h : bs[i]? = some b) : fwd c (bs.take (i + 1)) = fwd1 (fwd c (bs.take i)) b := by
  unfold fwd
  rw [List.take_add_one, h, Option.toList_some, List.foldl_append] <;> rfl
theorem c_forward (T : Txt K mg A) : C8.Cal P w K mg base 1 "forward" (sp_forward K) [] := by
  refine cal_of T.d_forward sc_forward (fun _ _ _ _ _ _ us hl => match us, hl with | [_, _], _ => rfl) (fun vs H Q E h => ?_) (fun f cdv A0 outer s H vs Q E hr h => ?_)
  · obtain ⟨c, a, bs, rfl, _⟩ := h; rfl
  · obtain ⟨c, a, bs, rfl, hs, k⟩ := h
    have sc := sc_forward
    have st : ∀ F, SqT K F A.t_STEPS (vns steps) := T.g_STEPS.tup
    refine ⟨_, (pss_cons (ps_for PassesOwn.never rfl (pi_list (pv 1)) (pg_name (i := 2) sc.nd rfl (by first | exact Or.inl rfl | exact Or.inr rfl))
        (pss_cons (ps_set (i := 0) sc.nd rfl (by first | exact Or.inl rfl | exact Or.inr rfl) (pe_op op_xor (pv 0) (pv 2)))
          (pss_cons (ps_set (i := 0) sc.nd rfl (by first | exact Or.inl rfl | exact Or.inr rfl) (pe_op op_xor (pe_op op_shr (pv 0) (pe_n 4)) (pe_ix ix_tup (pe_gt T.g_STEPS) (pe_op op_and (pv 0) (pe_n 15)) (fun _ _ => rfl))))
          (pss_one (ps_set (i := 0) sc.nd rfl (by first | exact Or.inl rfl | exact Or.inr rfl) (pe_op op_xor (pe_op op_shr (pv 0) (pe_n 4)) (pe_ix ix_tup (pe_gt T.g_STEPS) (pe_op op_and (pv 0) (pe_n 15)) (fun _ _ => rfl))))))))
      (pss_one (ps_ret (pv 0)))), ?_⟩
    refine zs_for (F := H) (Ex.refl H) (ei_list (ev_var rfl) hs) (fun i σ H' => ∃ v, σ = [some (vn (fwd c (bs.take i))), some (.ref a), v] ∧ Ex H H') (fun H1 e1 => ⟨none, rfl, e1⟩) (fun i σ H' p => p.choose_spec.2) ?_ ?_
    · rintro i x σ H' hx ⟨v, rfl, e⟩
      rw [List.getElem?_map] at hx
      cases hb : bs[i]? with
      | none => rw [hb] at hx; cases hx
      | some b =>
        rw [hb] at hx
        have hx' := Option.some.inj hx
        subst hx'
        refine zq_asg e (ev_op (ev_var rfl) (ev_var rfl) rvn_xor) fun H1 e1 => ?_
        refine zq_asg (e.trans e1) (ev_op (ev_op (ev_var rfl) ev_c rvn_shr) (ev_op ev_c (ev_op (ev_var rfl) ev_c rvn_and) (rv_ixT (st _) (step_at _))) rvn_xor) fun H2 e2 => ?_
        refine z_asg ((e.trans e1).trans e2) (ev_op (ev_op (ev_var rfl) ev_c rvn_shr) (ev_op ev_c (ev_op (ev_var rfl) ev_c rvn_and) (rv_ixT (st _) (step_at _))) rvn_xor) fun H3 e3 => ?_
        refine ⟨some (vn b), ?_, ((e.trans e1).trans e2).trans e3⟩
        rw [fwd_take hb]
        rfl
    · rintro σ H' ⟨v, rfl, e⟩
      refine z_ret e (ev_var rfl) fun H1 e1 => ?_
      have q := k H1 (e.trans e1)
      rw [List.length_map, List.take_length]
      exact q
end
end EL
set_option maxHeartbeats 4000000
/-! ### D2: bytes, check values, times, entries -/
namespace EL
open PySem PySem.Spec PyProof.Rows L2 Evl
/-! the mirrors -/
structure Tm where
  y : Nat
  mo : Nat
  d : Nat
  h : Nat
  mi : Nat
  s : Nat
  deriving DecidableEq
def Tm.ns (t : Tm) : List Nat := [t.y, t.mo, t.d, t.h, t.mi, t.s]
abbrev Tm.vs (t : Tm) : List V := vns t.ns
def monthsN : List Nat := [31, 28, 31, 30, 31, 30, 31, 31, 30, 31, 30, 31]
def leapN (y : Nat) : Bool := decide (y % 4 = 0) && (!decide (y % 100 = 0) || decide (y % 400 = 0))
def daysIn (y m : Nat) : Nat := monthsN.getD (m - 1) 0 + b2n (decide (m = 2) && leapN y)
def inR (lo hi n : Nat) : Bool := decide (lo ≤ n) && decide (n ≤ hi)
def tmOk (t : Tm) : Bool := (inR 1980 2107 t.y && inR 1 12 t.mo) && ((inR 1 (daysIn t.y t.mo) t.d && inR 0 23 t.h) && (inR 0 59 t.mi && (inR 0 59 t.s && decide (t.s % 2 = 0))))
structure Ent where
  name : Str
  data : List Nat
  time : Tm
  com : Str
  deriving DecidableEq
structure Ent.Ok (e : Ent) : Prop where
  nm : nameOk e.name = true
  dt : bytesOk e.data = true
  ln : e.data.length ≤ 1500
  tm : tmOk e.time = true
  cm : comOk e.com = true
theorem nameOk_len {w : Str} (h : nameOk w = true) : w.length ≤ 24 := by
  unfold nameOk at h
  rw [Bool.and_eq_true, Bool.and_eq_true, decide_eq_true_eq, decide_eq_true_eq] at h
  exact h.2.2
theorem comOk_len {w : Str} (h : comOk w = true) : w.length ≤ 40 := by
  unfold comOk at h
  rw [Bool.and_eq_true, decide_eq_true_eq] at h
  exact h.2
/-- an entry's attributes: its data at l, its time at t -/
def entF (e : Ent) (l t : Addr) : List (Str × V) := [("name", .str e.name), ("own_data", .ref l), ("time", .ref t), ("comment", .str e.com), ("own_check", vn (crc e.data))]
section
variable {e : Ent} {l t : Addr}
theorem entF_name : (entF e l t).lookup ("name" : Str) = some (.str e.name) := rfl
theorem entF_data : (entF e l t).lookup ("own_data" : Str) = some (.ref l) := rfl
theorem entF_time : (entF e l t).lookup ("time" : Str) = some (.ref t) := rfl
theorem entF_com : (entF e l t).lookup ("comment" : Str) = some (.str e.com) := rfl
theorem entF_check : (entF e l t).lookup ("own_check" : Str) = some (vn (crc e.data)) := rfl
theorem entF_put : putF "own_check" (vn (crc e.data)) (putF "comment" (.str e.com) (putF "time" (.ref t) (putF "own_data" (.ref l) (putF "name" (.str e.name) [])))) = entF e l t := rfl
end
/-- an entry stands at a -/
def IsEnt (K : PySem.W.Frag) (C : Addr) (H : Hp) (a : Addr) (e : Ent) : Prop := ∃ dx l t, H a = some (.ins C dx (entF e l t)) ∧ SqL K H l (vns e.data) ∧ SqT K H t e.time.vs
theorem IsEnt.mono {K : PySem.W.Frag} {C a : Addr} {H H' : Hp} {e : Ent} (h : IsEnt K C H a e) (x : Ex H H') : IsEnt K C H' a e := by
  obtain ⟨dx, l, t, h1, h2, h3⟩ := h
  exact ⟨dx, l, t, x _ _ h1, ex_l x h2, ex_t x h3⟩
/-! the promises -/
def sp_days_in : Sp := fun vs H Q _ => ∃ y m : Nat, vs = [vn y, vn m] ∧ inR 1 12 m = true ∧ RetV (vn (daysIn y m)) H Q
def sp_is_time (K : PySem.W.Frag) : Sp := fun vs H Q _ => ∃ (a : Addr) (t : Tm), vs = [.ref a] ∧ SqT K H a t.vs ∧ RetV (.bl (tmOk t)) H Q
def sp_Entry_init (K : PySem.W.Frag) (C : Addr) : Sp := fun vs H Q _ => ∃ (F : Hp) (p dx d t : Addr) (e : Ent), vs = [.ref p, .str e.name, .ref d, .ref t, .str e.com] ∧ Ex F H ∧ F p = none ∧ H p = some (.ins C dx []) ∧
  SqL K F d (vns e.data) ∧ SqT K F t e.time.vs ∧ e.Ok ∧ ∀ H' l, Keep p H H' → H l = none → H' p = some (.ins C dx (entF e l t)) → H' l = some (.lst (vns e.data)) → Q .non H'
def sp_Entry_data (K : PySem.W.Frag) (C : Addr) : Sp := fun vs H Q _ => ∃ (a : Addr) (e : Ent), vs = [.ref a] ∧ IsEnt K C H a e ∧ RetL (vns e.data) H Q
def sp_Entry_size (K : PySem.W.Frag) (C : Addr) : Sp := fun vs H Q _ => ∃ (a : Addr) (e : Ent), vs = [.ref a] ∧ IsEnt K C H a e ∧ RetV (vn e.data.length) H Q
def sp_Entry_check (K : PySem.W.Frag) (C : Addr) : Sp := fun vs H Q _ => ∃ (a : Addr) (e : Ent), vs = [.ref a] ∧ IsEnt K C H a e ∧ RetV (vn (crc e.data)) H Q
section
variable {K : PySem.W.Frag} {F : Hp} {a C : Addr} {e : Ent}
theorem spv_days_in {y m : Nat} (h : inR 1 12 m = true) : SpV sp_days_in [vn y, vn m] F (vn (daysIn y m)) := fun H1 e Q q E => ⟨y, m, rfl, h, q⟩
theorem spv_is_time {t : Tm} (h : SqT K F a t.vs) : SpV (sp_is_time K) [.ref a] F (.bl (tmOk t)) := fun H1 e Q q E => ⟨a, t, rfl, ex_t e h, q⟩
theorem spl_Entry_data (h : IsEnt K C F a e) : SpL (sp_Entry_data K C) [.ref a] F (vns e.data) := fun H1 x Q q E => ⟨a, e, rfl, h.mono x, q⟩
theorem spv_Entry_size (h : IsEnt K C F a e) : SpV (sp_Entry_size K C) [.ref a] F (vn e.data.length) := fun H1 x Q q E => ⟨a, e, rfl, h.mono x, q⟩
theorem spv_Entry_check (h : IsEnt K C F a e) : SpV (sp_Entry_check K C) [.ref a] F (vn (crc e.data)) := fun H1 x Q q E => ⟨a, e, rfl, h.mono x, q⟩
end
section
variable {P : Program} {w : World} {K : PySem.W.Frag} {mg : Str → Option Value} {base : Heap} {A : Ads}
theorem sc_is_bytes : FnScope ["thing", "one"] ["thing"] (defScope s_is_bytes) := C8.fnScope_by (by decide +kernel)
theorem c_is_bytes (T : Txt K mg A) : C8.Cal P w K mg base 2 "is_bytes" (sp_is_bytes K) [] := by
  have c_is_number : C8.Cal P w K mg base 1 _ _ _ := c_is_number T
  refine cal_of T.d_is_bytes sc_is_bytes (fun _ _ _ _ _ _ us hl => match us, hl with | [_], _ => rfl) (fun vs H Q E h => ?_) (fun f cdv A0 outer s H vs Q E hr h => ?_)
  · obtain ⟨a, bs, rfl, _⟩ := h; rfl
  · obtain ⟨a, bs, rfl, hs, hl, k⟩ := h
    have sc := sc_is_bytes
    refine ⟨_, (pss_one (ps_ret (pe_and (pe_callB call_isiT (by rfl) T.b_isinstance (by decide +kernel) (pa_cons (pv 0) (pa_cons (pe_tup (pa_cons (pe_bltn (v := .ty "list") (by rfl) T.b_list boot_list rfl) (pa_cons (pe_bltn (v := .ty "tuple") (by rfl) T.b_tuple boot_tuple rfl) pa_nil))) pa_nil))) (pe_one (pe_callB (cr_all rfl) (by rfl) T.b_all (by decide +kernel) (pa_cons (pe_lc (own := [("one", 1)]) (g := gName 1) rfl sc.nd (pi_list (pv 0)) (blkOk_by (N := ["thing", "one"]) (sc := defScope s_is_bytes) (by decide +kernel)) (fun _ _ _ _ _ => pg_name (i := 1) sc.nd rfl (Or.inl rfl)) (fun _ _ _ _ _ => pts_nil) (fun _ _ _ _ _ => (C8.pe_c c_is_number hr (by decide) (by rfl) (pa_cons (pv 1) (pa_cons (pe_n 0) (pa_cons (pe_gi T.g_GREATEST_BYTE) pa_nil)))))) pa_nil)))))), ?_⟩
    exact z_ret (Ex.refl H) (ev_andV (ev_isiT (ev_var rfl) (eu_tup (ea_cons ev_c (ea_cons ev_c ea_nil)) (by decide)) cls_lt (fun H1 e1 => ty_lst (ex_l e1 hs)) kit_list) fun _ => (ev_allm (el_map _ _ _ (ei_list (ev_var rfl) hs) hl (by intro _; rfl) (fun _ _ _ _ => (ev_call (ea_cons (ev_var rfl) (ea_cons ev_c (ea_cons ev_c ea_nil))) spv_is_number))))) fun H1 e1 => k H1 e1
theorem sc_need_bytes : FnScope ["thing"] ["thing"] (defScope s_need_bytes) := C8.fnScope_by (by decide +kernel)
theorem c_need_bytes (T : Txt K mg A) : C8.Cal P w K mg base 3 "need_bytes" (sp_need_bytes K) [] := by
  have c_is_bytes : C8.Cal P w K mg base 2 _ _ _ := c_is_bytes T
  refine cal_of T.d_need_bytes sc_need_bytes (fun _ _ _ _ _ _ us hl => match us, hl with | [_], _ => rfl) (fun vs H Q E h => ?_) (fun f cdv A0 outer s H vs Q E hr h => ?_)
  · obtain ⟨a, bs, rfl, _⟩ := h; rfl
  · obtain ⟨a, bs, rfl, hs, hl, hb, k⟩ := h
    refine ⟨_, (pss_one (ps_if (pt_not (pt_val (C8.pe_c c_is_bytes hr (by decide) (by rfl) (pa_cons (pv 0) pa_nil)))) (pss_one ps_never) pss_nil)), ?_⟩
    exact z_not (Ex.refl H) (et_is (et_not (et_B (ev_call (ea_cons (ev_var rfl) ea_nil) (spv_is_bytes hs hl)))) (by rw [hb] <;> rfl)) fun H1 e1 => k H1 e1
theorem sc_check : FnScope ["data"] ["data"] (defScope s_check) := C8.fnScope_by (by decide +kernel)
theorem c_check (T : Txt K mg A) : C8.Cal P w K mg base 4 "check" (sp_check K) [] := by
  have c_need_bytes : C8.Cal P w K mg base 3 _ _ _ := c_need_bytes T
  have c_forward : C8.Cal P w K mg base 1 _ _ _ := c_forward T
  refine cal_of T.d_check sc_check (fun _ _ _ _ _ _ us hl => match us, hl with | [_], _ => rfl) (fun vs H Q E h => ?_) (fun f cdv A0 outer s H vs Q E hr h => ?_)
  · obtain ⟨a, bs, rfl, _⟩ := h; rfl
  · obtain ⟨a, bs, rfl, hs, hl, hb, k⟩ := h
    refine ⟨_, (pss_cons (ps_expr (C8.pe_c c_need_bytes hr (by decide) (by rfl) (pa_cons (pv 0) pa_nil)))
      (pss_one (ps_ret (pe_op op_xor (C8.pe_c c_forward hr (by decide) (by rfl) (pa_cons (pe_gi T.g_GREATEST_CHECK) (pa_cons (pv 0) pa_nil))) (pe_gi T.g_GREATEST_CHECK))))), ?_⟩
    refine zq_drop (Ex.refl H) (ev_call (ea_cons (ev_var rfl) ea_nil) (spv_need_bytes hs hl hb)) fun H1 e1 => ?_
    exact z_ret e1 (ev_op (ev_call (ea_cons ev_c (ea_cons (ev_var rfl) ea_nil)) (spv_forward hs)) ev_c rvn_xor) fun H2 e2 => k H2 (e1.trans e2)
theorem c_check_checks (T : Txt K mg A) : C8.Cal P w K mg base 4 "check_checks" (sp_check K) [] := by
  obtain ⟨f, fd, ps, ds, F, hm, kp, b, d⟩ := (c_check (P := P) (w := w) (base := base) T).ex
  exact ⟨f, fd, ps, ds, F, by rw [T.a_check_checks]; exact hm, kp, b, d⟩
theorem sc_days_in : FnScope ["year", "month", "leap"] ["year", "month"] (defScope s_days_in) := C8.fnScope_by (by decide +kernel)
theorem inR_iff {lo hi n : Nat} : inR lo hi n = true ↔ lo ≤ n ∧ n ≤ hi := by
  unfold inR
  rw [Bool.and_eq_true, decide_eq_true_eq, decide_eq_true_eq]
theorem month_at {m : Nat} (h : inR 1 12 m = true) : atI (vns monthsN) ((m - 1 : Nat) : Int) = some (vn (monthsN.getD (m - 1) 0)) := by
  have h' := inR_iff.mp h
  refine atI_nat ?_
  have hl : m - 1 < monthsN.length := by show m - 1 < 12; omega
  unfold vns
  rw [List.getElem?_map, List.getD_eq_getElem?_getD, List.getElem?_eq_getElem hl]
  rfl
theorem c_days_in (T : Txt K mg A) : C8.Cal P w K mg base 1 "days_in" sp_days_in [] := by
  refine cal_of T.d_days_in sc_days_in (fun _ _ _ _ _ _ us hl => match us, hl with | [_, _], _ => rfl) (fun vs H Q E h => ?_) (fun f cdv A0 outer s H vs Q E hr h => ?_)
  · obtain ⟨y, m, rfl, _⟩ := h; rfl
  · obtain ⟨y, m, rfl, hm, k⟩ := h
    have sc := sc_days_in
    have st : ∀ F, SqT K F A.t_MONTHS (vns monthsN) := T.g_MONTHS.tup
    have hm' := inR_iff.mp hm
    refine ⟨_, (pss_cons (ps_set (i := 2) sc.nd rfl (by first | exact Or.inl rfl | exact Or.inr rfl) (pe_and (pe_cmpR op_eq (pe_op op_mod (pv 0) (pe_n 4)) (pe_n 0) (nomark _)) (pe_one (pe_or (pe_cmpR op_ne (pe_op op_mod (pv 0) (pe_n 100)) (pe_n 0) (nomark _)) (pe_one (pe_cmpR op_eq (pe_op op_mod (pv 0) (pe_n 400)) (pe_n 0) (nomark _)))))))
      (pss_one (ps_ret (pe_op op_add (pe_ix ix_tup (pe_gt T.g_MONTHS) (pe_op op_sub (pv 1) (pe_n 1)) (fun _ _ => rfl)) (pe_callTy call_int1 (by rfl) T.b_int boot_int (pa_cons (pe_and (pe_cmpR op_eq (pv 1) (pe_n 2) (nomark _)) (pe_one (pv 2))) pa_nil)))))), ?_⟩
    refine zq_asg (Ex.refl H) (ev_andV (ev_op (ev_op (ev_var rfl) ev_c (rvn_mod (by decide))) ev_c rvn_eq) fun _ => (ev_orV (ev_op (ev_op (ev_var rfl) ev_c (rvn_mod (by decide))) ev_c rvn_ne) fun _ => (ev_op (ev_op (ev_var rfl) ev_c (rvn_mod (by decide))) ev_c rvn_eq))) fun H1 e1 => ?_
    exact z_ret e1 (ev_op (ev_op ev_c (ev_op (ev_var rfl) ev_c (rvn_sub hm'.1)) (rv_ixT (st _) (month_at hm))) (ev_intb (ev_andV (ev_op (ev_var rfl) ev_c rvn_eq) fun _ => (ev_var rfl))) rvn_add) fun H2 e2 => k H2 (e1.trans e2)
theorem sc_is_time : FnScope ["thing", "year", "month", "day", "hour", "minute", "second"] ["thing"] (defScope s_is_time) := C8.fnScope_by (by decide +kernel)
theorem c_is_time (T : Txt K mg A) : C8.Cal P w K mg base 2 "is_time" (sp_is_time K) [] := by
  have c_is_number : C8.Cal P w K mg base 1 _ _ _ := c_is_number T
  have c_days_in : C8.Cal P w K mg base 1 _ _ _ := c_days_in T
  refine cal_of T.d_is_time sc_is_time (fun _ _ _ _ _ _ us hl => match us, hl with | [_], _ => rfl) (fun vs H Q E h => ?_) (fun f cdv A0 outer s H vs Q E hr h => ?_)
  · obtain ⟨a, t, rfl, _⟩ := h; rfl
  · obtain ⟨a, t, rfl, hs, k⟩ := h
    have sc := sc_is_time
    have st : ∀ F, SqT K F A.t_EARLIEST [vn 1980, vn 1, vn 1, vn 0, vn 0, vn 0] := T.g_EARLIEST.tup
    refine ⟨_, (pss_cons (ps_if (PW.pt (pw_or (pt_not (pt_val (pe_callB call_isi (by rfl) T.b_isinstance (by decide +kernel) (pa_cons (pv 0) (pa_cons (pe_bltn (v := .ty "tuple") (by rfl) T.b_tuple boot_tuple rfl) pa_nil))))) (pw_or1 (pt_cmpR op_ne (pe_callB (r := rLenS K) call_len_seq (by rfl) T.b_len boot_len (pa_cons (pv 0) pa_nil)) (pe_n 6) (nomark _))))) (pss_one (ps_ret pe_bl)) pss_nil)
      (pss_cons (ps_asg (pv 0) (pg_tup (by rfl) (pgs_cons (pg_name (i := 1) sc.nd rfl (by first | exact Or.inl rfl | exact Or.inr rfl)) (pgs_cons (pg_name (i := 2) sc.nd rfl (by first | exact Or.inl rfl | exact Or.inr rfl)) (pgs_cons (pg_name (i := 3) sc.nd rfl (by first | exact Or.inl rfl | exact Or.inr rfl)) (pgs_cons (pg_name (i := 4) sc.nd rfl (by first | exact Or.inl rfl | exact Or.inr rfl)) (pgs_cons (pg_name (i := 5) sc.nd rfl (by first | exact Or.inl rfl | exact Or.inr rfl)) (pgs_cons (pg_name (i := 6) sc.nd rfl (by first | exact Or.inl rfl | exact Or.inr rfl)) pgs_nil))))))))
      (pss_cons (ps_if (PW.pt (pw_or (pt_not (pt_val (C8.pe_c c_is_number hr (by decide) (by rfl) (pa_cons (pv 1) (pa_cons (pe_ix ix_tup (pe_gt T.g_EARLIEST) (pe_n 0) (fun _ _ => rfl)) (pa_cons (pe_gi T.g_LATEST_YEAR) pa_nil)))))) (pw_or1 (pt_not (pt_val (C8.pe_c c_is_number hr (by decide) (by rfl) (pa_cons (pv 2) (pa_cons (pe_n 1) (pa_cons (pe_n 12) pa_nil))))))))) (pss_one (ps_ret pe_bl)) pss_nil)
      (pss_cons (ps_if (PW.pt (pw_or (pt_not (pt_val (C8.pe_c c_is_number hr (by decide) (by rfl) (pa_cons (pv 3) (pa_cons (pe_n 1) (pa_cons (C8.pe_c c_days_in hr (by decide) (by rfl) (pa_cons (pv 1) (pa_cons (pv 2) pa_nil))) pa_nil)))))) (pw_or1 (pt_not (pt_val (C8.pe_c c_is_number hr (by decide) (by rfl) (pa_cons (pv 4) (pa_cons (pe_n 0) (pa_cons (pe_n 23) pa_nil))))))))) (pss_one (ps_ret pe_bl)) pss_nil)
      (pss_one (ps_ret (pe_and (C8.pe_c c_is_number hr (by decide) (by rfl) (pa_cons (pv 5) (pa_cons (pe_n 0) (pa_cons (pe_n 59) pa_nil)))) (pe_and (C8.pe_c c_is_number hr (by decide) (by rfl) (pa_cons (pv 6) (pa_cons (pe_n 0) (pa_cons (pe_n 59) pa_nil)))) (pe_one (pe_cmpR op_eq (pe_op op_mod (pv 6) (pe_n 2)) (pe_n 0) (nomark _))))))))))), ?_⟩
    refine zq_not (Ex.refl H) (et_is (et_or (et_not (et_B (ev_isi (ea_cons (ev_var rfl) (ea_cons ev_c ea_nil)) (.ty _) (fun H1 e1 => ty_tup (ex_t e1 hs)) (kit_ty (r := true) (by decide +kernel))))) fun _ => (et_test (ev_op (ev_lenT (ev_var rfl) hs) ev_c rvn_ne))) rfl) fun H1 e1 => ?_
    refine zq_unpack e1 (ev_var rfl) hs rfl fun H2 e2 => ?_
    refine ⟨_, _, rfl, _, _, rfl, _, _, rfl, _, _, rfl, _, _, rfl, _, _, rfl, rfl, ?_⟩
    have e02 := e1.trans e2
    refine zq_when e02 (et_or (et_not (et_B (ev_call (ea_cons (ev_var rfl) (ea_cons (ev_op ev_c ev_c (rv_ixT (st _) (atI_nat (j := 0) rfl))) (ea_cons ev_c ea_nil))) spv_is_number))) fun _ => (et_not (et_B (ev_call (ea_cons (ev_var rfl) (ea_cons ev_c (ea_cons ev_c ea_nil))) spv_is_number)))) (fun hb H3 e3 => ?_) (fun hb H3 e3 => ?_)
    · refine z_ret (e02.trans e3) ev_c fun H4 e4 => ?_
      have q := k H4 ((e02.trans e3).trans e4)
      have : tmOk t = false := by
        unfold tmOk
        cases h1 : inR 1980 2107 t.y <;> cases h2 : inR 1 12 t.mo <;> first | rfl | (unfold inR at h1 h2; rw [h1, h2] at hb; cases hb)
      rw [this] at q
      exact q
    have h12 : inR 1980 2107 t.y = true ∧ inR 1 12 t.mo = true := by
      cases h1 : inR 1980 2107 t.y <;> cases h2 : inR 1 12 t.mo <;> first | exact ⟨rfl, rfl⟩ | (unfold inR at h1 h2; rw [h1] at hb; cases hb; done) | (unfold inR at h1 h2; rw [h1, h2] at hb; cases hb)
    have e03 := e02.trans e3
    refine zq_when e03 (et_or (et_not (et_B (ev_call (ea_cons (ev_var rfl) (ea_cons ev_c (ea_cons (ev_call (ea_cons (ev_var rfl) (ea_cons (ev_var rfl) ea_nil)) (spv_days_in h12.2)) ea_nil))) spv_is_number))) fun _ => (et_not (et_B (ev_call (ea_cons (ev_var rfl) (ea_cons ev_c (ea_cons ev_c ea_nil))) spv_is_number)))) (fun hb2 H4 e4 => ?_) (fun hb2 H4 e4 => ?_)
    · refine z_ret (e03.trans e4) ev_c fun H5 e5 => ?_
      have q := k H5 ((e03.trans e4).trans e5)
      have : tmOk t = false := by
        unfold tmOk
        cases h1 : inR 1 (daysIn t.y t.mo) t.d <;> cases h2 : inR 0 23 t.h <;> first | (simp; done) | (unfold inR at h1 h2; rw [h1, h2] at hb2; cases hb2)
      rw [this] at q
      exact q
    have h34 : inR 1 (daysIn t.y t.mo) t.d = true ∧ inR 0 23 t.h = true := by
      cases h1 : inR 1 (daysIn t.y t.mo) t.d <;> cases h2 : inR 0 23 t.h <;> first | exact ⟨rfl, rfl⟩ | (unfold inR at h1 h2; rw [h1] at hb2; cases hb2; done) | (unfold inR at h1 h2; rw [h1, h2] at hb2; cases hb2)
    refine z_ret (e03.trans e4) (ev_andV (ev_call (ea_cons (ev_var rfl) (ea_cons ev_c (ea_cons ev_c ea_nil))) spv_is_number) fun _ => (ev_andV (ev_call (ea_cons (ev_var rfl) (ea_cons ev_c (ea_cons ev_c ea_nil))) spv_is_number) fun _ => (ev_op (ev_op (ev_var rfl) ev_c (rvn_mod (by decide))) ev_c rvn_eq))) fun H5 e5 => ?_
    have q := k H5 ((e03.trans e4).trans e5)
    unfold tmOk at q
    rw [h12.1, h12.2, h34.1, h34.2] at q
    exact q
end
end EL
set_option maxHeartbeats 4000000
/-! ### D3: entries made, their properties; states -/
namespace EL
open PySem PySem.Spec PyProof.Rows L2 Evl
/-- a class that may be made by its name, with keywords named ks, n positional values: sp its __init__ -/
structure MakK (P : Program) (w : World) (K : PySem.W.Frag) (mg : Str → Option Value) (base : Heap) (k : Nat) (x : Str) (C : Addr) (n : Nat) (ks : List Str) (gV : List V → List V → List V) (sp : Sp) : Prop where
  ex : ∃ (f : Addr) (fd : FuncData) (ps : List Str) (g : List Value → List Value → List Value), Mk K C f ∧ FnOk P w K mg base C8.CX0 k f fd ps sp ∧ mg x = some (.ref C) ∧ KBn K fd ps (n + 1) ks g gV
theorem pe_mkK {X : Cx} {k j n : Nat} {C : Addr} {x : Str} {ks : List Str} {gV : List V → List V → List V} {sp : Sp} {p pos : Pos} {e : Expr} {es : List Expr} {kws : List Keyword} {t tk : TA} (c : MakK X.prog X.w X.K X.mg X.base k x C n ks gV sp) (hr : Room j X.A) (hk : k + 1 ≤ j) (hg : Gl X x)
    (ha : PA X (e :: es) t) (hkw : PK X kws tk) (hall : (backToKw pos (keywordEach kws X.env)).all (·.1.isSome) = true := by rfl) (hks : (backToKw pos (keywordEach kws X.env)).filterMap (·.1) = ks := by rfl) (hdb : (x == ("__debug__" : Str)) = false := by decide)
    (he : starEach (e :: es) X.env = (false, eval e X.env) :: starEach es X.env := by rfl) (hpl : ((backTo pos (starEach (e :: es) X.env)).any (·.1) || (backToKw pos (keywordEach kws X.env)).any (·.1.isNone)) = false := by rfl) :
    PE X (.Call (.Name x p) (e :: es) kws pos) (tMakeK C n ks.length sp gV C8.E0 t tk) := by
  obtain ⟨f, fd, ps, g, M, F, hm, hb⟩ := c.ex
  exact pe_makeK M F (hr.mono hk) hg hm hb C8.pass0 ha hkw hall hks hdb he hpl
section
variable {P : Program} {w : World} {K : PySem.W.Frag} {mg : Str → Option Value} {base : Heap} {A : Ads}
theorem sc_Entry_init : FnScope ["self", "name", "data", "time", "comment"] ["self", "name", "data", "time", "comment"] (defScope s_Entry___init__) := C8.fnScope_by (by decide +kernel)
theorem f_Entry_init (T : Txt K mg A) {fd : FuncData} (F : FunD K "__init__" "Entry.__init__" (defArgs s_Entry___init__) (defBody s_Entry___init__) (defScope s_Entry___init__) [] [("time", .ref A.t_FIRST_TIME), ("comment", .str "")] A.i_Entry fd) :
    FnOk P w K mg base C8.CX0 5 A.i_Entry fd ["self", "name", "data", "time", "comment"] (sp_Entry_init K A.C_Entry) := by
  have c_is_name : C8.Cal P w K mg base 3 _ _ _ := c_is_name T
  have c_is_bytes : C8.Cal P w K mg base 2 _ _ _ := c_is_bytes T
  have c_is_time : C8.Cal P w K mg base 2 _ _ _ := c_is_time T
  have c_is_comment : C8.Cal P w K mg base 3 _ _ _ := c_is_comment T
  have c_check_checks : C8.Cal P w K mg base 4 _ _ _ := c_check_checks T
  refine F.ok sc_Entry_init (fun vs H Q E h => ?_) (fun cdv A0 outer s H vs Q E hr h => ?_)
  · obtain ⟨_, p, dx, d, t, e, rfl, _⟩ := h; rfl
  · obtain ⟨F, p, dx, d, t, e, rfl, eF, hFp, hp, hd, ht, ok, k⟩ := h
    have sc := sc_Entry_init
    have hnl := nameOk_len ok.nm
    have hcl := comOk_len ok.cm
    have hdl := ok.ln
    refine ⟨_, PSs.nox (pss_cons (ps_if (pt_not (pt_val (C8.pe_c c_is_name hr (by decide) (by rfl) (pa_cons (pv 1) pa_nil)))) (pss_one ps_never) pss_nil)
      (pss_cons (ps_if (PW.pt (pw_or (pt_not (pt_val (C8.pe_c c_is_bytes hr (by decide) (by rfl) (pa_cons (pv 2) pa_nil)))) (pw_or1 (pt_cmpR op_gt (pe_callB (r := rLenS K) call_len_seq (by rfl) T.b_len boot_len (pa_cons (pv 2) pa_nil)) (pe_gi T.g_MOST_DATA) (nomark _))))) (pss_one ps_never) pss_nil)
      (pss_cons (ps_if (pt_not (pt_val (C8.pe_c c_is_time hr (by decide) (by rfl) (pa_cons (pv 3) pa_nil)))) (pss_one ps_never) pss_nil)
      (pss_cons (ps_if (pt_not (pt_val (C8.pe_c c_is_comment hr (by decide) (by rfl) (pa_cons (pv 4) pa_nil)))) (pss_one ps_never) pss_nil)
      (pss_cons (ps_fld (pv 0) (pv 1) rfl)
      (pss_cons (ps_fld (pv 0) (pe_callTy (r := rListS K) call_list_of (by rfl) T.b_list (by decide +kernel) (pa_cons (pv 2) pa_nil)) rfl)
      (pss_cons (ps_fld (pv 0) (pv 3) rfl)
      (pss_cons (ps_fld (pv 0) (pv 4) rfl)
      (pss_one (ps_fld (pv 0) (C8.pe_c c_check_checks hr (by decide) (by rfl) (pa_cons (pe_fld (pv 0) rfl) pa_nil)) rfl)))))))))), ?_⟩
    refine zq_not eF (et_is (et_not (et_B (ev_call (ea_cons (ev_var rfl) ea_nil) (spv_is_name (by omega))))) (by rw [ok.nm] <;> rfl)) fun H1 e1 => ?_
    have E1 := eF.trans e1
    refine zq_not E1 (et_is (et_or (et_not (et_B (ev_call (ea_cons (ev_var rfl) ea_nil) (spv_is_bytes hd (by omega))))) fun _ => (et_test (ev_op (ev_len (ev_var rfl) hd) ev_c rvn_gt))) (by rw [ok.dt, List.length_map, decide_eq_false (by omega)] <;> rfl)) fun H2 e2 => ?_
    have E2 := E1.trans e2
    refine zq_not E2 (et_is (et_not (et_B (ev_call (ea_cons (ev_var rfl) ea_nil) (spv_is_time ht)))) (by rw [ok.tm] <;> rfl)) fun H3 e3 => ?_
    have E3 := E2.trans e3
    refine zq_not E3 (et_is (et_not (et_B (ev_call (ea_cons (ev_var rfl) ea_nil) (spv_is_comment (by omega))))) (by rw [ok.cm] <;> rfl)) fun H4 e4 => ?_
    have E4 := E3.trans e4
    have x4 := ((e1.trans e2).trans e3).trans e4
    refine zq_fld E4 (ev_var rfl) (fun _ _ => ev_var rfl) (x4 _ _ hp) T.cl_Entry T.na_Entry_name (by show 0 < 1000; decide) fun H5 e5 => ?_
    have E5 : Ex F (upd H5 p (.ins A.C_Entry dx (putF "name" (.str e.name) []))) := Ex.mut (E4.trans e5) hFp
    refine zq_fldL E5 (el_list (ev_var rfl) hd) (fun _ _ => ev_var rfl) upd_same T.cl_Entry T.na_Entry_own_data (by show 1 < 1000; decide) fun l H6 hl e6 h6 => ?_
    have nlp : l ≠ p := fun q => by rw [q, upd_same] at hl; cases hl
    have hl5 : H5 l = none := by rw [upd_ne nlp] at hl; exact hl
    have hl0 : H l = none := fresh_back (x4.trans e5) hl5
    have E6 : Ex F (upd H6 p (.ins A.C_Entry dx (putF "own_data" (.ref l) (putF "name" (.str e.name) [])))) := Ex.mut (E5.trans e6) hFp
    refine zq_fld E6 (ev_var rfl) (fun _ _ => ev_var rfl) upd_same T.cl_Entry T.na_Entry_time (by show 2 < 1000; decide) fun H7 e7 => ?_
    have E7 := Ex.mut (E6.trans e7) hFp (o := .ins A.C_Entry dx (putF "time" (.ref t) (putF "own_data" (.ref l) (putF "name" (.str e.name) []))))
    refine zq_fld E7 (ev_var rfl) (fun _ _ => ev_var rfl) upd_same T.cl_Entry T.na_Entry_comment (by show 3 < 1000; decide) fun H8 e8 => ?_
    generalize hfs : putF "comment" (V.str e.com) (putF "time" (.ref t) (putF "own_data" (.ref l) (putF "name" (.str e.name) []))) = fs4
    have hl7 : upd H7 p (.ins A.C_Entry dx (putF "time" (.ref t) (putF "own_data" (.ref l) (putF "name" (.str e.name) [])))) l = some (.lst (vns e.data)) := by
      rw [upd_ne nlp]
      exact e7 _ _ (by rw [upd_ne nlp]; exact h6)
    have hl8 : upd H8 p (.ins A.C_Entry dx fs4) l = some (.lst (vns e.data)) := by
      rw [upd_ne nlp]
      exact e8 _ _ hl7
    have hlk : fs4.lookup ("own_data" : Str) = some (.ref l) := by rw [← hfs] <;> rfl
    refine z_fld (F := upd H8 p (.ins A.C_Entry dx fs4)) (Ex.refl _) (ev_call (ea_cons (ev_fld (ev_var rfl) upd_same T.cl_Entry T.na_Entry_own_data hlk) ea_nil) (spv_check (SqL.of hl8) (by omega) ok.dt)) (fun _ _ => ev_var rfl) upd_same T.cl_Entry T.na_Entry_own_check (by rw [← hfs]; show 4 < 1000; decide) fun H9 e9 => ?_
    refine k _ l (fun b o hb q => ?_) hl0 ?_ ?_
    · rw [upd_ne hb]
      refine e9 _ _ ?_
      rw [upd_ne hb]
      refine e8 _ _ ?_
      rw [upd_ne hb]
      refine e7 _ _ ?_
      rw [upd_ne hb]
      refine e6 _ _ ?_
      rw [upd_ne hb]
      exact e5 _ _ (x4 _ _ q)
    · rw [← hfs, upd_same]
      exact congrArg (fun z => some (HO.ins A.C_Entry dx z)) entF_put
    · rw [upd_ne nlp]
      exact e9 _ _ hl8
/-- Entry(name, data, time=.., comment=..) -/
theorem c_Entry (T : Txt K mg A) : MakK P w K mg base 5 "Entry" A.C_Entry 2 ["time", "comment"] (fun vs zs => vs ++ zs) (sp_Entry_init K A.C_Entry) := by
  obtain ⟨fd, F⟩ := T.in_Entry
  obtain ⟨mv, hb⟩ := FunD.kbinds0 (ps := ["self", "name", "data", "time", "comment"]) F 3 ["time", "comment"] [] (fun us _ ws => us ++ ws) (by simp) (by simp) (fun r1 _ r3 => r1.append r3)
    (fun D doc pm an cdv ct us mv ws h1 h2 h3 => match us, mv, ws, h1, h2, h3 with | [_, _, _], [], [_, _], _, _, _ => rfl)
  exact ⟨_, fd, _, _, T.mk_Entry, f_Entry_init T F, T.k_Entry.mgx, hb⟩
/-- what a new entry leaves -/
theorem new_entry {H1 : Hp} {C : Addr} {F : Hp} {d t : Addr} {e : Ent} {Q : VK} (eF : Ex F H1) (hd : SqL K F d (vns e.data)) (ht : SqT K F t e.time.vs) (ok : e.Ok)
    (k : ∀ (x : Addr) (H3 : Hp), H1 x = none → Ex H1 H3 → IsEnt K C (grow F H1 H3) x e → Q (.ref x) H3) :
    ∀ x dx, H1 x = none → H1 dx = none → dx ≠ x → ∀ E, sp_Entry_init K C [.ref x, .str e.name, .ref d, .ref t, .str e.com] (upd (upd H1 dx (.own x)) x (.ins C dx [])) (fun v H3 => v = .non ∧ Q (.ref x) H3) E := fun x dx hx hdx hne E => by
  refine ⟨F, x, dx, d, t, e, rfl, ?_, fresh_back eF hx, upd_same, hd, ht, ok, fun H' l kp hl h1 h2 => ⟨rfl, ?_⟩⟩
  · exact Ex.mut (Ex.mut eF (fresh_back eF hdx)) (fresh_back eF hx)
  · have hl1 : l ≠ x := fun q => by rw [q, upd_same] at hl; cases hl
    have hl2 : l ≠ dx := fun q => by rw [q, upd_ne hne, upd_same] at hl; cases hl
    have hl0 : H1 l = none := by rw [upd_ne hl1, upd_ne hl2] at hl; exact hl
    have ex : Ex H1 H' := fun b o q => kp b o (ne_of_none q hx) (by rw [upd_ne (ne_of_none q hx), upd_ne (ne_of_none q hdx)]; exact q)
    refine k x H' hx ex ⟨dx, l, t, grow_new eF hx h1, .inl (.inl (grow_new eF hl0 h2)), ex_t grow_old ht⟩
theorem sc_Entry_data : FnScope ["self"] ["self"] (defScope s_Entry_data) := C8.fnScope_by (by decide +kernel)
theorem c_Entry_data (T : Txt K mg A) : Prp P w K mg base 1 A.C_Entry "data" (sp_Entry_data K A.C_Entry) := by
  refine prp_of T.cl_Entry T.pr_Entry_data T.pf_Entry_data sc_Entry_data (fun _ _ _ _ _ _ us hl => match us, hl with | [_], _ => rfl) (fun vs H Q E h => ?_) (fun f cdv A0 outer s H vs Q E hr h => ?_)
  · obtain ⟨a, e, rfl, _⟩ := h; rfl
  · obtain ⟨a, e, rfl, ⟨dx, l, t, h1, h2, h3⟩, k⟩ := h
    refine ⟨_, (pss_one (ps_ret (pe_callTy (r := rListS K) call_list_of (by rfl) T.b_list (by decide +kernel) (pa_cons (pe_fld (pv 0) rfl) pa_nil)))), ?_⟩
    exact z_retL (Ex.refl H) (el_list (ev_fld (ev_var rfl) h1 T.cl_Entry T.na_Entry_own_data entF_data) h2) fun p H1 hp e1 h1 => k p H1 hp e1 h1
theorem sc_Entry_size : FnScope ["self"] ["self"] (defScope s_Entry_size) := C8.fnScope_by (by decide +kernel)
theorem c_Entry_size (T : Txt K mg A) : Prp P w K mg base 1 A.C_Entry "size" (sp_Entry_size K A.C_Entry) := by
  refine prp_of T.cl_Entry T.pr_Entry_size T.pf_Entry_size sc_Entry_size (fun _ _ _ _ _ _ us hl => match us, hl with | [_], _ => rfl) (fun vs H Q E h => ?_) (fun f cdv A0 outer s H vs Q E hr h => ?_)
  · obtain ⟨a, e, rfl, _⟩ := h; rfl
  · obtain ⟨a, e, rfl, ⟨dx, l, t, h1, h2, h3⟩, k⟩ := h
    refine ⟨_, (pss_one (ps_ret (pe_callB (r := rLenS K) call_len_seq (by rfl) T.b_len boot_len (pa_cons (pe_fld (pv 0) rfl) pa_nil)))), ?_⟩
    refine z_ret (Ex.refl H) (ev_len (ev_fld (ev_var rfl) h1 T.cl_Entry T.na_Entry_own_data entF_data) h2) fun H1 e1 => ?_
    rw [List.length_map]
    exact k H1 e1
theorem sc_Entry_check : FnScope ["self"] ["self"] (defScope s_Entry_check) := C8.fnScope_by (by decide +kernel)
theorem c_Entry_check (T : Txt K mg A) : Prp P w K mg base 1 A.C_Entry "check" (sp_Entry_check K A.C_Entry) := by
  refine prp_of T.cl_Entry T.pr_Entry_check T.pf_Entry_check sc_Entry_check (fun _ _ _ _ _ _ us hl => match us, hl with | [_], _ => rfl) (fun vs H Q E h => ?_) (fun f cdv A0 outer s H vs Q E hr h => ?_)
  · obtain ⟨a, e, rfl, _⟩ := h; rfl
  · obtain ⟨a, e, rfl, ⟨dx, l, t, h1, h2, h3⟩, k⟩ := h
    refine ⟨_, (pss_one (ps_ret (pe_fld (pv 0) rfl))), ?_⟩
    exact z_ret (Ex.refl H) (ev_fld (ev_var rfl) h1 T.cl_Entry T.na_Entry_own_check entF_check) fun H1 e1 => k H1 e1
end
end EL
set_option maxHeartbeats 4000000
/-! ### D4: states -/
namespace EL
open PySem PySem.Spec PyProof.Rows L2 Evl
/-- an entry with its place -/
abbrev PE1 := Addr × Ent
abbrev rf (z : PE1) : V := .ref z.1
abbrev enm (z : PE1) : Str := z.2.name
def staF (l : Addr) (c : Str) : List (Str × V) := putF "comment" (.str c) (putF "rows" (.ref l) [])
theorem staF_rows {l : Addr} {c : Str} : (staF l c).lookup ("rows" : Str) = some (.ref l) := rfl
theorem staF_com {l : Addr} {c : Str} : (staF l c).lookup ("comment" : Str) = some (.str c) := rfl
def AllEnt (K : PySem.W.Frag) (CE : Addr) (H : Hp) (zs : List PE1) : Prop := ∀ z ∈ zs, IsEnt K CE H z.1 z.2
theorem AllEnt.mono {K : PySem.W.Frag} {CE : Addr} {H H' : Hp} {zs : List PE1} (h : AllEnt K CE H zs) (x : Ex H H') : AllEnt K CE H' zs := fun z hz => (h z hz).mono x
/-- the rows zs are those of a state -/
structure RowsOk (zs : List PE1) : Prop where
  ln : zs.length ≤ 20
  nd : (zs.map enm).Nodup
def IsSta (K : PySem.W.Frag) (A : Ads) (H : Hp) (a : Addr) (zs : List PE1) (c : Str) : Prop := ∃ dx l, H a = some (.ins A.C_State dx (staF l c)) ∧ SqL K H l (zs.map rf) ∧ AllEnt K A.C_Entry H zs
theorem IsSta.mono {K : PySem.W.Frag} {A : Ads} {a : Addr} {H H' : Hp} {zs : List PE1} {c : Str} (h : IsSta K A H a zs c) (x : Ex H H') : IsSta K A H' a zs c := by
  obtain ⟨dx, l, h1, h2, h3⟩ := h
  exact ⟨dx, l, x _ _ h1, ex_l x h2, h3.mono x⟩
def sp_are_entries (K : PySem.W.Frag) (A : Ads) : Sp := fun vs H Q _ => ∃ (a : Addr) (zs : List PE1), vs = [.ref a] ∧ SqL K H a (zs.map rf) ∧ AllEnt K A.C_Entry H zs ∧ RowsOk zs ∧ RetV (.bl true) H Q
def sp_State_init (K : PySem.W.Frag) (A : Ads) : Sp := fun vs H Q _ => ∃ (F : Hp) (p dx d : Addr) (zs : List PE1) (c : Str), vs = [.ref p, .ref d, .str c] ∧ Ex F H ∧ F p = none ∧ H p = some (.ins A.C_State dx []) ∧
  SqL K F d (zs.map rf) ∧ AllEnt K A.C_Entry F zs ∧ RowsOk zs ∧ comOk c = true ∧ ∀ H' l, Keep p H H' → H l = none → H' p = some (.ins A.C_State dx (staF l c)) → H' l = some (.lst (zs.map rf)) → Q .non H'
def sp_State_names (K : PySem.W.Frag) (A : Ads) : Sp := fun vs H Q _ => ∃ (a : Addr) (zs : List PE1) (c : Str), vs = [.ref a] ∧ IsSta K A H a zs c ∧ zs.length ≤ 20 ∧ RetL (zs.map fun z => .str (enm z)) H Q
section
variable {K : PySem.W.Frag} {A : Ads} {F : Hp} {a : Addr} {zs : List PE1} {c : Str}
theorem spv_are_entries (h : SqL K F a (zs.map rf)) (h2 : AllEnt K A.C_Entry F zs) (h3 : RowsOk zs) : SpV (sp_are_entries K A) [.ref a] F (.bl true) := fun H1 e Q q E => ⟨a, zs, rfl, ex_l e h, h2.mono e, h3, q⟩
theorem spl_State_names (h : IsSta K A F a zs c) (hl : zs.length ≤ 20) : SpL (sp_State_names K A) [.ref a] F (zs.map fun z => .str (enm z)) := fun H1 e Q q E => ⟨a, zs, c, rfl, h.mono e, hl, q⟩
end
theorem pe_fldK {X : Cx} {e : Expr} {f : Str} {pos : Pos} {ta : TE} (K : PySem.W.Frag) (hK : X.K = K) (he : PE X e ta) (hb : attributeBase e f X.env (eval e X.env) = eval e X.env) : PE X (.Attribute e f pos) (tFld K ta f) := hK ▸ pe_fld he hb
def rIsC (C : Addr) : List V → Hp → VK → Prop := fun xs H Q => ∃ a dx fs, xs = [.ref a, .ref C] ∧ H a = some (.ins C dx fs) ∧ Q (.bl true) H
section
variable {K : PySem.W.Frag} {σ : HSt} {F : Hp} {ta tb : TE} {a C dx : Addr} {fs : List (Str × V)}
theorem call_isCr {X : Cx} (c : C8.InsC X.K C) : CallR X (.builtin "isinstance") (rIsC C) := C8.call_isC c
theorem ev_isC (h1 : Ev ta σ F (.ref a)) (h2 : Ev tb σ F (.ref C)) (ho : F a = some (.ins C dx fs)) : Ev (tCB (rIsC C) (tCons ta (tCons tb tNil))) σ F (.bl true) := fun H1 e Q q =>
  h1 H1 e _ fun H2 e2 => h2 H2 (e.trans e2) _ fun H3 e3 => ⟨a, dx, fs, rfl, ((e.trans e2).trans e3) _ _ ho, q H3 (e2.trans e3)⟩
end
section
variable {P : Program} {w : World} {K : PySem.W.Frag} {mg : Str → Option Value} {base : Heap} {A : Ads}
theorem sc_are_entries : FnScope ["thing", "entry"] ["thing"] (defScope s_are_entries) := C8.fnScope_by (by decide +kernel)
theorem c_are_entries (T : Txt K mg A) : C8.Cal P w K mg base 1 "are_entries" (sp_are_entries K A) [] := by
  refine cal_of T.d_are_entries sc_are_entries (fun _ _ _ _ _ _ us hl => match us, hl with | [_], _ => rfl) (fun vs H Q E h => ?_) (fun f cdv A0 outer s H vs Q E hr h => ?_)
  · obtain ⟨a, zs, rfl, _⟩ := h; rfl
  · obtain ⟨a, zs, rfl, hs, he, ok, k⟩ := h
    have sc := sc_are_entries
    have hln := ok.ln
    refine ⟨_, (pss_cons (ps_if (PW.pt (pw_or (pt_not (pt_val (pe_callB call_isiT (by rfl) T.b_isinstance (by decide +kernel) (pa_cons (pv 0) (pa_cons (pe_tup (pa_cons (pe_bltn (v := .ty "list") (by rfl) T.b_list boot_list rfl) (pa_cons (pe_bltn (v := .ty "tuple") (by rfl) T.b_tuple boot_tuple rfl) pa_nil))) pa_nil))))) (pw_or1 (pt_cmpR op_gt (pe_callB (r := rLenS K) call_len_seq (by rfl) T.b_len boot_len (pa_cons (pv 0) pa_nil)) (pe_gi T.g_MOST) (nomark _))))) (pss_one (ps_ret pe_bl)) pss_nil)
      (pss_cons (ps_if (pt_not (pt_val (pe_callB (cr_all rfl) (by rfl) T.b_all (by decide +kernel) (pa_cons (pe_lc (own := [("entry", 1)]) (g := gName 1) rfl sc.nd (pi_list (pv 0)) (blkOk_by (N := ["thing", "entry"]) (sc := defScope s_are_entries) (by decide +kernel)) (fun _ _ _ _ _ => pg_name (i := 1) sc.nd rfl (Or.inl rfl)) (fun _ _ _ _ _ => pts_nil) (fun _ _ _ _ _ => (pe_callB (r := rIsC A.C_Entry) (call_isCr T.ic_Entry) (by rfl) T.b_isinstance (by decide +kernel) (pa_cons (pv 1) (pa_cons (pe_gk T.k_Entry) pa_nil))))) pa_nil)))) (pss_one (ps_ret pe_bl)) pss_nil)
      (pss_one (ps_ret (pe_cmpR op_eq (pe_callB call_lenK (by rfl) T.b_len boot_len (pa_cons (pe_sk (own := [("entry", 1)]) (g := gName 1) rfl sc.nd (pi_list (pv 0)) (blkOk_by (N := ["thing", "entry"]) (sc := defScope s_are_entries) (by decide +kernel)) (fun _ _ _ _ _ => pg_name (i := 1) sc.nd rfl (Or.inl rfl)) (fun _ _ _ _ _ => (pe_fldK K rfl (pv 1) rfl))) pa_nil)) (pe_callB (r := rLenS K) call_len_seq (by rfl) T.b_len boot_len (pa_cons (pv 0) pa_nil)) (nomark _)))))), ?_⟩
    refine zq_not (Ex.refl H) (et_is (et_or (et_not (et_B (ev_isiT (ev_var rfl) (eu_tup (ea_cons ev_c (ea_cons ev_c ea_nil)) (by decide)) cls_lt (fun H1 e1 => ty_lst (ex_l e1 hs)) kit_list))) fun _ => (et_test (ev_op (ev_len (ev_var rfl) hs) ev_c rvn_gt))) (by rw [List.length_map, decide_eq_false (by omega)] <;> rfl)) fun H1 e1 => ?_
    refine zq_not e1 (et_is (et_not (et_B (ev_allm (f := fun _ : PE1 => true) (el_map zs rf _ (ei_list (ev_var rfl) hs) (by omega) (by intro _; rfl) (fun z hz F1 e2 => (let ⟨_, _, _, ho, _, _⟩ := (he z hz).mono e2; ev_isC (ev_var rfl) ev_c ho)))))) (by rw [List.all_eq_true.mpr (fun _ _ => rfl)] <;> rfl)) fun H2 e2 => ?_
    have E2 := e1.trans e2
    refine z_ret E2 (ev_op (ev_lenSk zs rf enm (ei_list (ev_var rfl) hs) (by omega) (by intro _; rfl) (fun z hz F1 e3 => (let ⟨_, _, _, ho, _, _⟩ := (he z hz).mono e3; ev_fld (ev_var rfl) ho T.cl_Entry T.na_Entry_name entF_name)) ok.nd) (ev_len (ev_var rfl) hs) rvn_eq) fun H3 e3 => ?_
    have q := k H3 (E2.trans e3)
    rw [List.length_map, decide_eq_true rfl]
    exact q
theorem sc_State_init : FnScope ["self", "entries", "comment"] ["self", "entries", "comment"] (defScope s_State___init__) := C8.fnScope_by (by decide +kernel)
theorem f_State_init (T : Txt K mg A) {ds kds} {fd : FuncData} (F : FunD K "__init__" "State.__init__" (defArgs s_State___init__) (defBody s_State___init__) (defScope s_State___init__) ds kds A.i_State fd) :
    FnOk P w K mg base C8.CX0 4 A.i_State fd ["self", "entries", "comment"] (sp_State_init K A) := by
  have c_are_entries : C8.Cal P w K mg base 1 _ _ _ := c_are_entries T
  have c_is_comment : C8.Cal P w K mg base 3 _ _ _ := c_is_comment T
  refine F.ok sc_State_init (fun vs H Q E h => ?_) (fun cdv A0 outer s H vs Q E hr h => ?_)
  · obtain ⟨_, p, dx, d, t, e, rfl, _⟩ := h; rfl
  · obtain ⟨F, p, dx, d, zs, c, rfl, eF, hFp, hp, hd, he, ok, hc, k⟩ := h
    have sc := sc_State_init
    have hcl := comOk_len hc
    refine ⟨_, PSs.nox (pss_cons (ps_if (pt_not (pt_val (C8.pe_c c_are_entries hr (by decide) (by rfl) (pa_cons (pv 1) pa_nil)))) (pss_one ps_never) pss_nil)
      (pss_cons (ps_if (pt_not (pt_val (C8.pe_c c_is_comment hr (by decide) (by rfl) (pa_cons (pv 2) pa_nil)))) (pss_one ps_never) pss_nil)
      (pss_cons (ps_fld (pv 0) (pe_callTy (r := rListS K) call_list_of (by rfl) T.b_list (by decide +kernel) (pa_cons (pv 1) pa_nil)) rfl)
      (pss_one (ps_fld (pv 0) (pv 2) rfl))))), ?_⟩
    refine zq_not eF (et_is (et_not (et_B (ev_call (ea_cons (ev_var rfl) ea_nil) (spv_are_entries hd he ok)))) rfl) fun H1 e1 => ?_
    have E1 := eF.trans e1
    refine zq_not E1 (et_is (et_not (et_B (ev_call (ea_cons (ev_var rfl) ea_nil) (spv_is_comment (by omega))))) (by rw [hc] <;> rfl)) fun H2 e2 => ?_
    have E2 := E1.trans e2
    have x2 := e1.trans e2
    refine zq_fldL E2 (el_list (ev_var rfl) hd) (fun _ _ => ev_var rfl) (x2 _ _ hp) T.cl_State T.na_State_rows (by show 0 < 1000; decide) fun l H3 hl e3 h3 => ?_
    have hl0 : H l = none := fresh_back x2 hl
    have nlp : l ≠ p := fun q => by rw [q, hp] at hl0; cases hl0
    have E3 : Ex F (upd H3 p (.ins A.C_State dx (putF "rows" (.ref l) []))) := Ex.mut (E2.trans e3) hFp
    refine z_fld E3 (ev_var rfl) (fun _ _ => ev_var rfl) upd_same T.cl_State T.na_State_comment (by show 1 < 1000; decide) fun H4 e4 => ?_
    refine k _ l (fun b o hb q => ?_) hl0 upd_same ?_
    · rw [upd_ne hb]
      refine e4 _ _ ?_
      rw [upd_ne hb]
      exact e3 _ _ (x2 _ _ q)
    · rw [upd_ne nlp]
      refine e4 _ _ ?_
      rw [upd_ne nlp]
      exact h3
/-- State(entries, comment=..) -/
theorem c_State (T : Txt K mg A) : MakK P w K mg base 4 "State" A.C_State 1 ["comment"] (fun vs zs => vs ++ zs) (sp_State_init K A) := by
  obtain ⟨fd, F⟩ := T.in_State
  obtain ⟨its, mv, hb⟩ := FunD.kbinds (ps := ["self", "entries", "comment"]) F 2 ["comment"] [] (fun us _ _ ws => us ++ ws) (by simp) (by simp) (by simp) (fun r1 _ _ r3 => r1.append r3)
    (fun T D doc pm an cdv ct us its mv ws h1 h2 h3 h4 => match us, its, mv, ws, h1, h2, h3, h4 with | [_, _], [_], [], [_], _, _, _, _ => ⟨_, rfl, rfl⟩)
  exact ⟨_, fd, _, _, T.mk_State, f_State_init T F, T.k_State.mgx, hb⟩
theorem new_state {H1 : Hp} {F : Hp} {d : Addr} {zs : List PE1} {c : Str} {Q : VK} (eF : Ex F H1) (hd : SqL K F d (zs.map rf)) (he : AllEnt K A.C_Entry F zs) (ok : RowsOk zs) (hc : comOk c = true)
    (k : ∀ (x : Addr) (H3 : Hp), H1 x = none → Ex H1 H3 → IsSta K A (grow F H1 H3) x zs c → Q (.ref x) H3) :
    ∀ x dx, H1 x = none → H1 dx = none → dx ≠ x → ∀ E, sp_State_init K A [.ref x, .ref d, .str c] (upd (upd H1 dx (.own x)) x (.ins A.C_State dx [])) (fun v H3 => v = .non ∧ Q (.ref x) H3) E := fun x dx hx hdx hne E => by
  refine ⟨F, x, dx, d, zs, c, rfl, ?_, fresh_back eF hx, upd_same, hd, he, ok, hc, fun H' l kp hl h1 h2 => ⟨rfl, ?_⟩⟩
  · exact Ex.mut (Ex.mut eF (fresh_back eF hdx)) (fresh_back eF hx)
  · have hl1 : l ≠ x := fun q => by rw [q, upd_same] at hl; cases hl
    have hl2 : l ≠ dx := fun q => by rw [q, upd_ne hne, upd_same] at hl; cases hl
    have hl0 : H1 l = none := by rw [upd_ne hl1, upd_ne hl2] at hl; exact hl
    have ex : Ex H1 H' := fun b o q => kp b o (ne_of_none q hx) (by rw [upd_ne (ne_of_none q hx), upd_ne (ne_of_none q hdx)]; exact q)
    exact k x H' hx ex ⟨dx, l, grow_new eF hx h1, .inl (.inl (grow_new eF hl0 h2)), he.mono grow_old⟩
theorem sc_State_names : FnScope ["self", "entry"] ["self"] (defScope s_State_names) := C8.fnScope_by (by decide +kernel)
theorem c_State_names (T : Txt K mg A) : C8.Met P w K mg base 1 A.C_State "names" (sp_State_names K A) [] := by
  refine met_of T.cl_State T.m_State_names sc_State_names (fun _ _ _ _ _ _ us hl => match us, hl with | [_], _ => rfl) (fun vs H Q E h => ?_) (fun f cdv A0 outer s H vs Q E hr h => ?_)
  · obtain ⟨a, zs, c, rfl, _⟩ := h; rfl
  · obtain ⟨a, zs, c, rfl, ⟨dx, l, h1, h2, h3⟩, hl, k⟩ := h
    have sc := sc_State_names
    refine ⟨_, (pss_one (ps_ret (pe_lc (own := [("entry", 1)]) (g := gName 1) rfl sc.nd (pi_list (pe_fld (pv 0) rfl)) (blkOk_by (N := ["self", "entry"]) (sc := defScope s_State_names) (by decide +kernel)) (fun _ _ _ _ _ => pg_name (i := 1) sc.nd rfl (Or.inl rfl)) (fun _ _ _ _ _ => pts_nil) (fun _ _ _ _ _ => (pe_fldK K rfl (pv 1) rfl))))), ?_⟩
    exact z_retL (Ex.refl H) (el_map zs rf _ (ei_list (ev_fld (ev_var rfl) h1 T.cl_State T.na_State_rows staF_rows) h2) (by omega) (by intro _; rfl) (fun z hz F1 e1 => (let ⟨_, _, _, ho, _, _⟩ := (h3 z hz).mono e1; ev_fld (ev_var rfl) ho T.cl_Entry T.na_Entry_name entF_name))) fun p H1 hp e1 h1 => k p H1 hp e1 h1
end
end EL
set_option maxHeartbeats 4000000
/-! ### D5: trees: names and clashes -/
namespace EL
open PySem PySem.Spec PyProof.Rows L2 Evl
def isF (w : Str) : Bool := Txt.endswith w "/"
def stem (w : Str) : Str := if isF w = true then Txt.slice w none (some (-1)) else w
def pts (w : Str) : List Str := Txt.split (stem w) "/"
def doCl (a b : Str) : Bool := if pts a = pts b then true else if (!isF a && decide ((pts b).take (pts a).length = pts a)) = true then true else !isF b && decide ((pts a).take (pts b).length = pts b)
/-- the first clash of the names, the least later one, of these the least earlier one -/
def fcl (ns : List Str) : Nat → Option (Str × Str)
  | 0 => none
  | n + 1 => match fcl ns n with
    | some r => some r
    | none => match ns[n]? with
      | none => none
      | some y => ((ns.take n).find? fun x => doCl x y).map fun x => (x, y)
def RetFc (r : Option (Str × Str)) (H : Hp) (Q : VK) : Prop := match r with
  | none => RetV .non H Q
  | some (x, y) => ∀ p H2, H p = none → Ex H H2 → H2 p = some (.tup [.str x, .str y]) → Q (.ref p) H2
theorem RetFc.go {r : Option (Str × Str)} {H H' : Hp} {Q : VK} (k : RetFc r H Q) (e : Ex H H') : RetFc r H' Q := by
  cases r with
  | none => exact fun H2 e2 => k H2 (e.trans e2)
  | some w => exact fun p H2 hp e2 h => k p H2 (fresh_back e hp) (e.trans e2) h
theorem slice_len (w : Str) (lo hi : Option Int) : (Txt.slice w lo hi).length ≤ w.length := by
  rw [← C8.cutS_slice]
  unfold cutS
  simp [Str.length]
  try omega
def sp_is_folder : Sp := fun vs H Q _ => ∃ w : Str, vs = [.str w] ∧ RetV (.bl (isF w)) H Q
def sp_parts_of : Sp := fun vs H Q _ => ∃ w : Str, vs = [.str w] ∧ w.length ≤ 1000 ∧ RetL ((pts w).map V.str) H Q
def sp_do_clash : Sp := fun vs H Q _ => ∃ a b : Str, vs = [.str a, .str b] ∧ a.length ≤ 1000 ∧ b.length ≤ 1000 ∧ RetV (.bl (doCl a b)) H Q
def sp_first_clash (K : PySem.W.Frag) : Sp := fun vs H Q _ => ∃ (a : Addr) (ns : List Str), vs = [.ref a] ∧ SqL K H a (ns.map V.str) ∧ (∀ w ∈ ns, w.length ≤ 1000) ∧ RetFc (fcl ns ns.length) H Q
def sp_need_state (A : Ads) : Sp := fun vs H Q _ => ∃ (a dx : Addr) (fs : List (Str × V)), vs = [.ref a] ∧ H a = some (.ins A.C_State dx fs) ∧ RetV .non H Q
def sp_clash (K : PySem.W.Frag) (A : Ads) : Sp := fun vs H Q _ => ∃ (a : Addr) (zs : List PE1) (c : Str), vs = [.ref a] ∧ IsSta K A H a zs c ∧ zs.length ≤ 20 ∧ (∀ z ∈ zs, (enm z).length ≤ 1000) ∧ RetFc (fcl (zs.map enm) zs.length) H Q
section
variable {K : PySem.W.Frag} {A : Ads} {F : Hp} {a : Addr} {w x y : Str}
theorem spv_is_folder : SpV sp_is_folder [.str w] F (.bl (isF w)) := fun H1 e Q q E => ⟨w, rfl, q⟩
theorem spl_parts_of (h : w.length ≤ 1000) : SpL sp_parts_of [.str w] F ((pts w).map V.str) := fun H1 e Q q E => ⟨w, rfl, h, q⟩
theorem spv_do_clash (h1 : x.length ≤ 1000) (h2 : y.length ≤ 1000) : SpV sp_do_clash [.str x, .str y] F (.bl (doCl x y)) := fun H1 e Q q E => ⟨x, y, rfl, h1, h2, q⟩
theorem spv_need_state {dx fs} (h : F a = some (.ins A.C_State dx fs)) : SpV (sp_need_state A) [.ref a] F .non := fun H1 e Q q E => ⟨a, dx, fs, rfl, e _ _ h, q⟩
end
/-! two new lists at once -/
section
variable {K : PySem.W.Frag} {σ : HSt} {F H : Hp} {ta tb : TE} {xs ys : List V} {x y : V} {D : Ends} {tz : TS} {i j : Nat}
theorem zq_parLL (e : Ex F H) (h1 : EvL ta σ F xs) (h2 : EvL tb σ F ys) (k : ∀ p q H1, H p = none → H q = none → p ≠ q → Ex H H1 → H1 p = some (.lst xs) → H1 q = some (.lst ys) → tz D ((σ.set i (some (.ref p))).set j (some (.ref q))) H1) :
    tSeq (tPar i j (tCons ta (tCons tb tNil))) tz D σ H :=
  h1 H e _ fun p H1 hp e1 hp1 => h2 H1 (e.trans e1) _ fun q H2 hq e2 hq2 => ⟨_, _, rfl, k p q H2 hp (fresh_back e1 hq) (fun z => by rw [← z, hp1] at hq; cases hq) (e1.trans e2) (e2 _ _ hp1) hq2⟩
theorem zq_par (e : Ex F H) (h1 : Ev ta σ F x) (h2 : Ev tb σ F y) (k : ∀ H1, Ex H H1 → tz D ((σ.set i (some x)).set j (some y)) H1) : tSeq (tPar i j (tCons ta (tCons tb tNil))) tz D σ H :=
  h1 H e _ fun H1 e1 => h2 H1 (e.trans e1) _ fun H2 e2 => ⟨_, _, rfl, k H2 (e1.trans e2)⟩
theorem zq_parLV (e : Ex F H) (h1 : EvL ta σ F xs) (h2 : Ev tb σ F y) (k : ∀ p H1, H p = none → Ex H H1 → H1 p = some (.lst xs) → tz D ((σ.set i (some (.ref p))).set j (some y)) H1) : tSeq (tPar i j (tCons ta (tCons tb tNil))) tz D σ H :=
  h1 H e _ fun p H1 hp e1 hp1 => h2 H1 (e.trans e1) _ fun H2 e2 => ⟨_, _, rfl, k p H2 hp (e1.trans e2) (e2 _ _ hp1)⟩
theorem zq_parVL (e : Ex F H) (h1 : Ev ta σ F x) (h2 : EvL tb σ F ys) (k : ∀ p H1, H p = none → Ex H H1 → H1 p = some (.lst ys) → tz D ((σ.set i (some x)).set j (some (.ref p))) H1) : tSeq (tPar i j (tCons ta (tCons tb tNil))) tz D σ H :=
  h1 H e _ fun H1 e1 => h2 H1 (e.trans e1) _ fun p H2 hp e2 hp2 => ⟨_, _, rfl, k p H2 (fresh_back e1 hp) (e1.trans e2) hp2⟩
/-- for i, x in enumerate(list) -/
theorem zs_forE {a : Addr} {g : TG} {tu : TS} (e : Ex F H) (h : Ev ta σ F (.ref a)) (hs : SqL K F a xs) (Pv : Nat → HSt → Hp → Prop) (h0 : ∀ H1, Ex H H1 → Pv 0 σ H1) (hE : ∀ i σ' H', Pv i σ' H' → Ex F H')
    (st : ∀ i x σ' H' T, xs[i]? = some x → Pv i σ' H' → H' T = none → g (.ref T) σ' (upd H' T (.tup [vn i, x])) fun σ2 H2 => tu { D with nx := Pv (i + 1), ct := Pv (i + 1), bk := tz D } σ2 H2) (hd : ∀ σ' H', Pv xs.length σ' H' → tz D σ' H') :
    tSeq (tFor (iEnum K (tCons ta tNil)) g tu) tz D σ H := h H e _ fun H1 e1 => by
  refine ⟨a, xs, rfl, ex_l (e.trans e1) hs, fun i m σ H => m = xs.length - i ∧ i ≤ xs.length ∧ Pv i σ H, ⟨_, rfl, Nat.zero_le _, h0 H1 e1⟩, ?_⟩
  rintro i m σ' H' ⟨rfl, hi, p⟩
  have hl := ex_l (hE _ _ _ p) hs
  by_cases hlt : i < xs.length
  · have hx : xs[i]? = some xs[i] := List.getElem?_eq_getElem hlt
    refine .inr ⟨⟨xs, _, hl, hx⟩, Pv (i + 1), fun σ' H' p' => ⟨_, by omega, rfl, hlt, p'⟩, fun y H2 q => ?_⟩
    obtain ⟨T, x, rfl, hT, rfl, hxx⟩ := q
    have ex := hxx xs hl
    exact st i x σ' H' T ex p hT
  · have ei : i = xs.length := by omega
    subst ei
    exact .inl ⟨⟨xs, hl, Nat.le_refl _⟩, hd σ' H' p⟩
end
theorem cutV_to {xs : List V} {n : Nat} : cutV xs none (some (n : Int)) = xs.take n := by
  unfold cutV
  rw [HT.sIx_none, HT.sIx_nat, List.drop_zero, Nat.sub_zero]
  by_cases h : n ≤ xs.length
  · rw [Nat.min_eq_left h]
  · rw [Nat.min_eq_right (by omega), List.take_of_length_le (Nat.le_refl _), List.take_of_length_le (by omega)]
theorem EvL.is {te : TE} {σ : HSt} {F : Hp} {xs ys : List V} (h : EvL te σ F xs) (e : xs = ys) : EvL te σ F ys := e ▸ h
section
variable {P : Program} {w : World} {K : PySem.W.Frag} {mg : Str → Option Value} {base : Heap} {A : Ads}
theorem sc_is_folder : FnScope ["name"] ["name"] (defScope s_is_folder) := C8.fnScope_by (by decide +kernel)
theorem c_is_folder (T : Txt K mg A) : C8.Cal P w K mg base 1 "is_folder" sp_is_folder [] := by
  refine cal_of T.d_is_folder sc_is_folder (fun _ _ _ _ _ _ us hl => match us, hl with | [_], _ => rfl) (fun vs H Q E h => ?_) (fun f cdv A0 outer s H vs Q E hr h => ?_)
  · obtain ⟨w, rfl, _⟩ := h; rfl
  · obtain ⟨w, rfl, k⟩ := h
    refine ⟨_, (pss_one (ps_ret (pe_m1 PySem.F.slot_str_endswith PySem.F.type_str_endswith mt_endswith (pv 0) pe_str))), ?_⟩
    exact z_ret (Ex.refl H) (ev_ends (ev_var rfl) ev_c) fun H1 e1 => k H1 e1
theorem sc_parts_of : FnScope ["name"] ["name"] (defScope s_parts_of) := C8.fnScope_by (by decide +kernel)
theorem c_parts_of (T : Txt K mg A) : C8.Cal P w K mg base 2 "parts_of" sp_parts_of [] := by
  have c_is_folder : C8.Cal P w K mg base 1 _ _ _ := c_is_folder T
  refine cal_of T.d_parts_of sc_parts_of (fun _ _ _ _ _ _ us hl => match us, hl with | [_], _ => rfl) (fun vs H Q E h => ?_) (fun f cdv A0 outer s H vs Q E hr h => ?_)
  · obtain ⟨w, rfl, _⟩ := h; rfl
  · obtain ⟨w, rfl, hl, k⟩ := h
    have hsl := slice_len w none (some (-1))
    refine ⟨_, (pss_one (ps_ret (pe_split (pe_ifExp (pt_val (C8.pe_c c_is_folder hr (by decide) (by rfl) (pa_cons (pv 0) pa_nil))) (pe_slice C8.sl_txt (pv 0) po_none (po_some (pe_un un_neg (pe_n 1)))) (pv 0)) pe_str))), ?_⟩
    refine z_retL (Ex.refl H) (el_split (x := stem w) (ev_if (et_B (ev_call (ea_cons (ev_var rfl) ea_nil) spv_is_folder)) (fun hb => ?_) fun hb => ?_) ev_c (by decide) (by unfold stem; split <;> omega)) fun p H1 hp e1 h1 => k p H1 hp e1 h1
    · unfold stem
      rw [if_pos hb]
      exact (ev_slS (ev_var rfl) eo_none (eo_some (ev_un ev_c ru_neg)) (by omega))
    · unfold stem
      rw [if_neg (by rw [hb]; decide)]
      exact ev_var rfl
theorem sc_do_clash : FnScope ["one", "other", "left", "right"] ["one", "other"] (defScope s_do_clash) := C8.fnScope_by (by decide +kernel)
theorem c_do_clash (T : Txt K mg A) : C8.Cal P w K mg base 3 "do_clash" sp_do_clash [] := by
  have c_is_folder : C8.Cal P w K mg base 1 _ _ _ := c_is_folder T
  have c_parts_of : C8.Cal P w K mg base 2 _ _ _ := c_parts_of T
  refine cal_of T.d_do_clash sc_do_clash (fun _ _ _ _ _ _ us hl => match us, hl with | [_, _], _ => rfl) (fun vs H Q E h => ?_) (fun f cdv A0 outer s H vs Q E hr h => ?_)
  · obtain ⟨a, b, rfl, _⟩ := h; rfl
  · obtain ⟨a, b, rfl, ha, hb, k⟩ := h
    have sc := sc_do_clash
    refine ⟨_, (pss_cons (ps_par (i := 2) (j := 3) (by rfl) sc.nd rfl rfl (by decide) rfl rfl (pa_cons (C8.pe_c c_parts_of hr (by decide) (by rfl) (pa_cons (pv 0) pa_nil)) (pa_cons (C8.pe_c c_parts_of hr (by decide) (by rfl) (pa_cons (pv 1) pa_nil)) pa_nil)) (by rfl))
      (pss_cons (ps_if (pt_cmpR (op_eqSs (hu0 hr)) (pv 2) (pv 3) (nomark _)) (pss_one (ps_ret pe_bl)) pss_nil)
      (pss_cons (ps_if (PW.pt (pw_and (pt_not (pt_val (C8.pe_c c_is_folder hr (by decide) (by rfl) (pa_cons (pv 0) pa_nil)))) (pw_and1 (pt_cmpR (op_eqSs (hu0 hr)) (pe_slice sl_list (pv 3) po_none (po_some (pe_callB (r := rLenS K) call_len_seq (by rfl) T.b_len boot_len (pa_cons (pv 2) pa_nil)))) (pv 2) (nomark _))))) (pss_one (ps_ret pe_bl)) pss_nil)
      (pss_one (ps_ret (pe_and (pe_not (C8.pe_c c_is_folder hr (by decide) (by rfl) (pa_cons (pv 1) pa_nil))) (pe_one (pe_cmpR (op_eqSs (hu0 hr)) (pe_slice sl_list (pv 2) po_none (po_some (pe_callB (r := rLenS K) call_len_seq (by rfl) T.b_len boot_len (pa_cons (pv 3) pa_nil)))) (pv 3) (nomark _))))))))), ?_⟩
    refine zq_parLL (Ex.refl H) (el_call (ea_cons (ev_var rfl) ea_nil) (spl_parts_of ha)) (el_call (ea_cons (ev_var rfl) ea_nil) (spl_parts_of hb)) fun p q H1 hp hq npq e1 hp1 hq1 => ?_
    have sp : SqL K H1 p ((pts a).map V.str) := sq_of hp1
    have sq : SqL K H1 q ((pts b).map V.str) := sq_of hq1
    refine zq_when (Ex.refl H1) (et_test (ev_op (ev_var rfl) (ev_var rfl) (rv_eqSs sp sq))) (fun h0 H2 e2 => ?_) (fun h0 H2 e2 => ?_)
    · refine z_ret (Ex.refl H2) ev_c fun H3 e3 => ?_
      have z := k H3 ((e1.trans e2).trans e3)
      unfold doCl at z
      rw [if_pos (of_decide_eq_true h0)] at z
      exact z
    refine zq_when e2 (et_and (et_not (et_B (ev_call (ea_cons (ev_var rfl) ea_nil) spv_is_folder))) fun _ => (et_test (ev_opL1 (el_sl (ev_var rfl) eo_none (eo_some (ev_len (ev_var rfl) sp)) sq) (fun _ _ => ev_var rfl) (fun p2 H4 h4 e4 => rv_eqSs (xs := (pts b).take (pts a).length) (sq_of (by rw [h4, List.length_map, cutV_to, List.map_take])) (ex_l e4 sp))))) (fun h1 H3 e3 => ?_) (fun h1 H3 e3 => ?_)
    · refine z_ret (Ex.refl H3) ev_c fun H4 e4 => ?_
      have z := k H4 (((e1.trans e2).trans e3).trans e4)
      unfold doCl at z
      rw [if_neg (of_decide_eq_false h0), if_pos h1] at z
      exact z
    have E3 := e2.trans e3
    refine z_ret E3 (ev_andV (ev_notV (ev_call (ea_cons (ev_var rfl) ea_nil) spv_is_folder)) fun _ => (ev_opL1 (el_sl (ev_var rfl) eo_none (eo_some (ev_len (ev_var rfl) sq)) sp) (fun _ _ => ev_var rfl) (fun p2 H4 h4 e4 => rv_eqSs (xs := (pts a).take (pts b).length) (sq_of (by rw [h4, List.length_map, cutV_to, List.map_take])) (ex_l e4 sq)))) fun H4 e4 => ?_
    have z := k H4 ((e1.trans E3).trans e4)
    unfold doCl at z
    rw [if_neg (of_decide_eq_false h0), if_neg (by rw [h1]; decide)] at z
    exact z
theorem sc_first_clash : FnScope ["names", "at", "later", "earlier"] ["names"] (defScope s_first_clash) := C8.fnScope_by (by decide +kernel)
theorem c_first_clash (T : Txt K mg A) : C8.Cal P w K mg base 4 "first_clash" (sp_first_clash K) [] := by
  have c_do_clash : C8.Cal P w K mg base 3 _ _ _ := c_do_clash T
  refine cal_of T.d_first_clash sc_first_clash (fun _ _ _ _ _ _ us hl => match us, hl with | [_], _ => rfl) (fun vs H Q E h => ?_) (fun f cdv A0 outer s H vs Q E hr h => ?_)
  · obtain ⟨a, ns, rfl, _⟩ := h; rfl
  · obtain ⟨a, ns, rfl, hs, hl, k⟩ := h
    have sc := sc_first_clash
    refine ⟨_, (pss_cons (ps_for PassesOwn.never rfl (pi_enum (by rfl) T.b_enumerate (pa_cons (pv 0) pa_nil)) (pg_tup (by rfl) (pgs_cons (pg_name (i := 1) sc.nd rfl (by first | exact Or.inl rfl | exact Or.inr rfl)) (pgs_cons (pg_name (i := 2) sc.nd rfl (by first | exact Or.inl rfl | exact Or.inr rfl)) pgs_nil)))
        (pss_one (ps_for PassesOwn.never rfl (pi_list (pe_slice sl_list (pv 0) po_none (po_some (pv 1)))) (pg_name (i := 3) sc.nd rfl (by first | exact Or.inl rfl | exact Or.inr rfl))
            (pss_one (ps_if (pt_val (C8.pe_c c_do_clash hr (by decide) (by rfl) (pa_cons (pv 3) (pa_cons (pv 2) pa_nil)))) (pss_one (ps_ret (pe_tup (pa_cons (pv 3) (pa_cons (pv 2) pa_nil))))) pss_nil)))))
      (pss_one (ps_ret pe_non))), ?_⟩
    have mono : ∀ n, n ≤ ns.length → ∀ r, fcl ns n = some r → fcl ns ns.length = some r := by
      intro n hn r hr
      obtain ⟨m, hm⟩ := Nat.le.dest hn
      rw [← hm]
      clear hm hn
      induction m with
      | zero => exact hr
      | succ m ih =>
        show fcl ns ((n + m) + 1) = some r
        unfold fcl
        rw [ih]
    refine zs_forE (xs := ns.map V.str) (Ex.refl H) (ev_var rfl) hs (fun i σ' H' => Ex H H' ∧ fcl ns i = none ∧ ∃ u v w, σ' = [some (.ref a), u, v, w]) (fun H1 e1 => ⟨e1, rfl, _, _, _, rfl⟩) (fun i σ' H' p => p.1) (fun i x σ' H' T0 hx p hT => ?_) (fun σ' H' p => ?_)
    · obtain ⟨e1, hn, u, v, w', rfl⟩ := p
      rw [List.getElem?_map] at hx
      cases hy : ns[i]? with
      | none => rw [hy] at hx; cases hx
      | some y =>
        rw [hy] at hx
        cases hx
        obtain ⟨hil, hiy⟩ := List.getElem?_eq_some_iff.mp hy
        have hyl : y.length ≤ 1000 := hl y (by rw [← hiy]; exact List.getElem_mem hil)
        refine ⟨T0, _, rfl, st_of upd_same, rfl, ⟨_, _, rfl, _, _, rfl, rfl, ?_⟩⟩
        have e2 := e1.trans (Ex.new (o := .tup [vn i, V.str y]) hT)
        have step : fcl ns (i + 1) = ((ns.take i).find? fun x => doCl x y).map fun x => (x, y) := by
          rw [fcl, hn]
          show (match ns[i]? with | none => none | some y => ((ns.take i).find? fun x => doCl x y).map fun x => (x, y)) = _
          rw [hy]
        refine z_forN (xs := (ns.take i).map V.str) e2 (ein_list (EvL.is (el_sl (ev_var rfl) eo_none (eo_some (ev_var rfl)) hs) (by rw [cutV_to, List.map_take]))) (fun p j σ' H' => Ex (upd H p (.lst ((ns.take i).map V.str))) H' ∧ Ex H H' ∧ (∀ z ∈ (ns.take i).take j, doCl z y = false) ∧ ∃ w, σ' = [some (.ref a), some (vn i), some (.str y), w]) (fun p H1 hp e3 h3 => ?_) (fun p j σ' H' q => q.1) (fun p j x σ' H' hx q => ?_) (fun p σ' H' q => ?_)
        · refine ⟨fun b o hb => ?_, e2.trans e3, fun z hz => absurd hz (by simp), _, rfl⟩
          by_cases hbp : b = p
          · subst hbp
            rw [upd_same] at hb
            rw [h3]
            exact hb
          · rw [upd_ne hbp] at hb
            exact (e2.trans e3) _ _ hb
        · obtain ⟨q1, q2, q3, w2, rfl⟩ := q
          rw [List.getElem?_map] at hx
          cases hz : (ns.take i)[j]? with
          | none => rw [hz] at hx; cases hx
          | some z =>
            rw [hz] at hx
            cases hx
            obtain ⟨hjl, hjz⟩ := List.getElem?_eq_some_iff.mp hz
            have hzm : z ∈ ns := List.mem_of_mem_take (by rw [← hjz]; exact List.getElem_mem hjl)
            have htk : (ns.take i).take (j + 1) = (ns.take i).take j ++ [z] := by rw [List.take_add_one, hz] <;> rfl
            show tIfS _ _ _ _ _ _
            refine z_if (b := doCl z y) q2 (et_B (ev_call (ea_cons (ev_var rfl) (ea_cons (ev_var rfl) ea_nil)) (spv_do_clash (hl z hzm) hyl))) (fun hb H3 e3 => ?_) (fun hb H3 e3 => ?_)
            · refine z_retU (Ex.refl H3) (eu_tup (ea_cons (ev_var rfl) (ea_cons (ev_var rfl) ea_nil)) (by show 2 ≤ 100000; decide)) fun p2 H4 hp2 e4 h4 => ?_
              have hf : (ns.take i).find? (fun x => doCl x y) = some z := by
                rw [← List.take_append_drop (j + 1) (ns.take i), htk, List.append_assoc, List.find?_append, List.find?_eq_none.mpr (fun x hx => by rw [q3 x hx]; decide)]
                rw [Option.none_or, List.singleton_append, List.find?_cons, hb]
              have hfc := mono (i + 1) hil _ (by rw [step, hf] <;> rfl)
              rw [hfc] at k
              exact k p2 H4 (fresh_back (q2.trans e3) hp2) ((q2.trans e3).trans e4) h4
            · refine ⟨q1.trans e3, q2.trans e3, fun x hx => ?_, _, rfl⟩
              rw [htk] at hx
              rcases List.mem_append.mp hx with h | h
              · exact q3 x h
              · rw [List.mem_singleton.mp h]
                exact hb
        · obtain ⟨q1, q2, q3, w2, rfl⟩ := q
          refine ⟨q2, ?_, _, _, _, rfl⟩
          rw [step]
          have : (ns.take i).find? (fun x => doCl x y) = none := List.find?_eq_none.mpr (fun x hx => by
            have := q3 x (by rw [List.length_map, List.take_length]; exact hx)
            rw [this]; decide)
          rw [this]
          rfl
    · obtain ⟨e1, hn, u, v, w', rfl⟩ := p
      rw [List.length_map] at hn
      rw [hn] at k
      exact z_ret (Ex.refl H') ev_c fun H1 e2 => k H1 (e1.trans e2)
theorem sc_need_state : FnScope ["state"] ["state"] (defScope s_need_state) := C8.fnScope_by (by decide +kernel)
theorem c_need_state (T : Txt K mg A) : C8.Cal P w K mg base 1 "need_state" (sp_need_state A) [] := by
  refine cal_of T.d_need_state sc_need_state (fun _ _ _ _ _ _ us hl => match us, hl with | [_], _ => rfl) (fun vs H Q E h => ?_) (fun f cdv A0 outer s H vs Q E hr h => ?_)
  · obtain ⟨a, dx, fs, rfl, _⟩ := h; rfl
  · obtain ⟨a, dx, fs, rfl, ha, k⟩ := h
    refine ⟨_, (pss_one (ps_if (pt_not (pt_val (pe_callB (r := rIsC A.C_State) (call_isCr T.ic_State) (by rfl) T.b_isinstance (by decide +kernel) (pa_cons (pv 0) (pa_cons (pe_gk T.k_State) pa_nil))))) (pss_one ps_never) pss_nil)), ?_⟩
    exact z_not (Ex.refl H) (et_is (et_not (et_B (ev_isC (ev_var rfl) ev_c ha))) rfl) fun H1 e1 => k H1 e1
theorem sc_clash : FnScope ["state"] ["state"] (defScope s_clash) := C8.fnScope_by (by decide +kernel)
theorem d_clash (T : Txt K mg A) : DefOk P w K mg base 5 "clash" s_clash ["state"] (sp_clash K A) := by
  have c_need_state : C8.Cal P w K mg base 1 _ _ _ := c_need_state T
  have c_first_clash : C8.Cal P w K mg base 4 _ _ _ := c_first_clash T
  have c_State_names : C8.Met P w K mg base 1 _ _ _ _ := c_State_names T
  refine def_of T.d_clash sc_clash (fun vs H Q E h => ?_) (fun f cdv A0 outer s H vs Q E hr h => ?_)
  · obtain ⟨a, zs, c, rfl, _⟩ := h; rfl
  · obtain ⟨a, zs, c, rfl, hs, hl, hn, k⟩ := h
    obtain ⟨dx, l, h1, h2, h3⟩ := id hs
    refine ⟨_, (pss_cons (ps_expr (C8.pe_c c_need_state hr (by decide) (by rfl) (pa_cons (pv 0) pa_nil)))
      (pss_one (ps_ret (C8.pe_c c_first_clash hr (by decide) (by rfl) (pa_cons (C8.pe_mt0 c_State_names hr (by decide) (pv 0)) pa_nil))))), ?_⟩
    refine zq_drop (Ex.refl H) (ev_call (ea_cons (ev_var rfl) ea_nil) (spv_need_state h1)) fun H1 e1 => ?_
    refine el_mt0 (ev_var rfl) h1 rfl (spl_State_names hs hl) H1 e1 _ fun p H2 hp e2 hp2 => ?_
    refine ⟨p, zs.map enm, rfl, sq_of (by rw [hp2, List.map_map] <;> rfl), fun w hw => ?_, ?_⟩
    · obtain ⟨z, hz, rfl⟩ := List.mem_map.mp hw
      exact hn z hz
    · rw [List.length_map]
      exact k.go (e1.trans e2)
theorem c_clash (T : Txt K mg A) : C8.Cal P w K mg base 5 "clash" (sp_clash K A) [] := cal_ofD (d_clash T) (fun _ _ _ _ _ _ us hl => match us, hl with | [_], _ => rfl)
theorem k_clash (T : Txt K mg A) : CalK P w K mg base 5 "clash" 0 ["state"] (fun vs zs => vs ++ zs) (sp_clash K A) := calK_of (g := fun us ws => us ++ ws) (d_clash T) (fun r1 r2 => r1.append r2) (fun _ _ _ _ _ _ us ws h1 h2 => match us, ws, h1, h2 with | [], [_], _, _ => rfl)
end
end EL
set_option maxHeartbeats 4000000
/-! ### L1: the source of draws -/
namespace EL
open PySem PySem.Spec PyProof.Rows L2 Evl
/-- a promise with at most c draws: A tells which arguments, how many, what comes -/
def spD (A : Dp → Nat → List V → Hp → (V → Hp → Prop) → Prop) : Sp := fun vs H Q _ => ∃ (D : Dp) (F : Hp) (n c : Nat) (R : V → Hp → Prop), A D c vs F R ∧ Dw D n F H ∧ n + c ≤ (1099511627776 : Nat) ∧ ∀ v F2 H2, Go D (n + c) F H F2 H2 → R v F2 → Q v H2
theorem spd_of {A : Dp → Nat → List V → Hp → (V → Hp → Prop) → Prop} {D : Dp} {c : Nat} {vs : List V} {F : Hp} {R : V → Hp → Prop} (h : A D c vs F R) : SpD D c (spD A) vs F R := fun n H1 w hn Q q E => ⟨D, F, n, c, R, h, w, hn, q⟩
def A_next : Dp → Nat → List V → Hp → (V → Hp → Prop) → Prop := fun D c vs F R => ∃ m : Nat, vs = [.ref D.d, vn m] ∧ 0 < m ∧ m < 1073741824 ∧ c = 1 ∧ R = fun v _ => ∃ r : Nat, r < m ∧ v = vn r
def A_pick (K : PySem.W.Frag) : Dp → Nat → List V → Hp → (V → Hp → Prop) → Prop := fun D c vs F R => c = 1 ∧ ((∃ (a : Addr) (xs : List V), vs = [.ref D.d, .ref a] ∧ SqL K F a xs ∧ 0 < xs.length ∧ xs.length ≤ 100000 ∧ R = fun v _ => v ∈ xs) ∨
  ∃ w : Str, vs = [.ref D.d, .str w] ∧ 0 < w.length ∧ w.length ≤ 1000 ∧ R = fun v _ => ∃ c ∈ w.cps.toList, v = sgn c)
theorem spd_next {D : Dp} {F : Hp} {m : Nat} (h : 0 < m) (h2 : m < 1073741824) : SpD D 1 (spD A_next) [.ref D.d, vn m] F (fun v _ => ∃ r : Nat, r < m ∧ v = vn r) := spd_of ⟨m, rfl, h, h2, rfl, rfl⟩
theorem spd_pickL {K : PySem.W.Frag} {D : Dp} {F : Hp} {a : Addr} {xs : List V} (h : SqL K F a xs) (h0 : 0 < xs.length) (h1 : xs.length ≤ 100000) : SpD D 1 (spD (A_pick K)) [.ref D.d, .ref a] F (fun v _ => v ∈ xs) := spd_of ⟨rfl, .inl ⟨a, xs, rfl, h, h0, h1, rfl⟩⟩
theorem spd_pickS {K : PySem.W.Frag} {D : Dp} {F : Hp} {w : Str} (h0 : 0 < w.length) (h1 : w.length ≤ 1000) : SpD D 1 (spD (A_pick K)) [.ref D.d, .str w] F (fun v _ => ∃ c ∈ w.cps.toList, v = sgn c) := spd_of ⟨rfl, .inr ⟨w, rfl, h0, h1, rfl⟩⟩
/-- what begun leaves: a new dict of draws -/
def sp_begun (K : PySem.W.Frag) : Sp := fun vs H Q _ => ∃ (a : Addr) (ns : List Int), vs = [.ref a] ∧ SqL K H a (ns.map V.int) ∧ ns.length ≤ 1000 ∧ ∀ D H2, Ex H H2 → Dw D 0 H H2 → Q (.ref D.d) H2
theorem merge_dr {g l : Addr} : mergeK [] [(kDg, vn 0), (kGr, V.ref g), (kLu, V.ref l), (kTu, vn 0)] = drK 0 0 g l := by
  have h1 : ¬ kDg = kGr := of_decide_eq_false k_dg_gr
  have h2 : ¬ kDg = kLu := of_decide_eq_false k_dg_lu
  have h3 : ¬ kGr = kLu := of_decide_eq_false k_gr_lu
  have h4 : ¬ kDg = kTu := of_decide_eq_false k_dg_tu
  have h5 : ¬ kGr = kTu := of_decide_eq_false k_gr_tu
  have h6 : ¬ kLu = kTu := of_decide_eq_false k_lu_tu
  unfold mergeK drK
  simp only [List.foldl_cons, List.foldl_nil, putK, List.any_cons, List.any_nil, decide_eq_false h1, decide_eq_false h2, decide_eq_false h3, decide_eq_false h4, decide_eq_false h5, decide_eq_false h6, Bool.or_self, List.nil_append, List.cons_append, if_neg Bool.false_ne_true]
section
variable {K : PySem.W.Frag} {σ : HSt} {F : Hp} {ta : TE} {m n : Nat}
theorem ev_abs {i : Int} (h : Ev ta σ F (.int i)) : Ev (tCB (fun xs H Q => ∃ i, xs = [.int i] ∧ Q (.int (if i < 0 then -i else i)) H) (tCons ta tNil)) σ F (vn i.natAbs) := fun H1 e Q q => h H1 e _ fun H2 e2 => ⟨i, rfl, by
  have : (if i < 0 then -i else i) = ((i.natAbs : Nat) : Int) := by split <;> omega
  rw [this]
  exact q H2 e2⟩
theorem rvn_divW (h : 0 < n ∧ n < 2 ^ 64) : RV (rI CDivW fun i j => .int (i / j)) (vn m) (vn n) F (vn (m / n)) := RV.is (rv_I ⟨by omega, by
  rw [Int.natAbs_natCast]
  exact Nat.lt_trans ((Nat.log2_lt (by omega)).mpr h.2) (show 64 < 9000 by decide)⟩) (congrArg V.int (Int.natCast_ediv m n).symm)
end
/-- the heap within a draw -/
def InN (D : Dp) (H : Hp) (t dg : Nat) (gs : List Nat) (H' : Hp) : Prop := (∀ b o, b ≠ D.d → b ≠ D.g → H b = some o → H' b = some o) ∧ H' D.d = some (.dK (drK dg t D.g D.l)) ∧ H' D.g = some (.lst (vns gs)) ∧ gs.length ≤ 1000
theorem InN.up {D : Dp} {H H1 H2 : Hp} {t dg : Nat} {gs : List Nat} (s : InN D H t dg gs H1) (e : Ex H1 H2) : InN D H t dg gs H2 := ⟨fun x o h1 h2 h => e _ _ (s.1 x o h1 h2 h), e _ _ s.2.1, e _ _ s.2.2.1, s.2.2.2⟩
section
variable {P : Program} {w : World} {K : PySem.W.Frag} {mg : Str → Option Value} {base : Heap} {A : Ads}
theorem sc__law_begun : FnScope ["_law_script", "_law_great", "_law_lump"] ["_law_script"] (defScope s__law_begun) := C8.fnScope_by (by decide +kernel)
theorem c__law_begun (T : Txt K mg A) : C8.Cal P w K mg base 1 "_law_begun" (sp_begun K) [] := by
  refine cal_of T.d__law_begun sc__law_begun (fun _ _ _ _ _ _ us hl => match us, hl with | [_], _ => rfl) (fun vs H Q E h => ?_) (fun f cdv A0 outer s H vs Q E hr h => ?_)
  · obtain ⟨a, ns, rfl, _⟩ := h; rfl
  · obtain ⟨a, ns, rfl, hs, hl, k⟩ := h
    have sc := sc__law_begun
    refine ⟨_, (pss_cons (ps_setLc (i := 1) (own := [("_law_lump", 2)]) (g := gName 2) rfl sc.nd rfl rfl (sw_true rfl rfl rfl (by decide +kernel)) (pi_list (pv 0)) (blkOk_by (N := ["_law_script", "_law_great", "_law_lump"]) (sc := defScope s__law_begun) (by decide +kernel)) (fun _ _ _ _ _ => pg_name (i := 2) sc.nd rfl (Or.inl rfl)) (fun _ _ _ _ _ => pts_one (pt_cmpR op_ge (pe_callB call_abs (by rfl) T.b_abs (by decide +kernel) (pa_cons (pv 2) pa_nil)) (pe_op op_pow (pe_n 10) (pe_n 18)) (nomark _))) (fun _ _ _ _ _ => (pe_op op_fdivW (pe_callB call_abs (by rfl) T.b_abs (by decide +kernel) (pa_cons (pv 2) pa_nil)) (pe_op op_pow (pe_n 10) (pe_n 18)))))
      (pss_one (ps_ret (pe_disp (pps_cons pe_str (pe_n 0) (pps_cons pe_str (pv 1) (pps_cons pe_str (pe_lc (own := [("_law_lump", 2)]) (g := gName 2) rfl sc.nd (pi_list (pv 0)) (blkOk_by (N := ["_law_script", "_law_great", "_law_lump"]) (sc := defScope s__law_begun) (by decide +kernel)) (fun _ _ _ _ _ => pg_name (i := 2) sc.nd rfl (Or.inl rfl)) (fun _ _ _ _ _ => pts_nil) (fun _ _ _ _ _ => (pe_op op_mod (pe_callB call_abs (by rfl) T.b_abs (by decide +kernel) (pa_cons (pv 2) pa_nil)) (pe_op op_pow (pe_n 10) (pe_n 18))))) (pps_cons pe_str (pe_n 0) pps_nil)))) rfl rfl (by simp) (by decide))))), ?_⟩
    refine zq_asgL (Ex.refl H) (el_comp ns V.int (fun i => decide (10 ^ 18 ≤ i.natAbs)) (fun i => vn (i.natAbs / 10 ^ 18)) (ei_list (ev_var rfl) hs) (by omega) (by intro _; rfl) (fun _ _ _ _ => (et_test (ev_op (ev_abs (ev_var rfl)) (ev_op ev_c ev_c (rvn_pow (by decide) (by decide))) rvn_ge))) (fun _ _ _ _ _ => (ev_op (ev_abs (ev_var rfl)) (ev_op ev_c ev_c (rvn_pow (by decide) (by decide))) (rvn_divW (by decide))))) fun g H1 hg e1 h1 => ?_
    intro p hp
    have e2 : Ex H (upd H1 p (.dK [])) := e1.trans (Ex.new hp)
    simp only [tPairs, tC, tVar]
    refine ⟨_, rfl, ?_⟩
    refine el_map ns V.int (fun i => vn (i.natAbs % 10 ^ 18)) (ei_list (ev_var rfl) hs) (by omega) (by intro _; rfl) (fun _ _ _ _ => (ev_op (ev_abs (ev_var rfl)) (ev_op ev_c ev_c (rvn_pow (by decide) (by decide))) (rvn_mod (by decide)))) _ e2 _ fun l H3 hl3 e3 h3 => ?_
    have hp3 : H3 p = some (.dK []) := e3 _ _ upd_same
    refine ⟨hp3, [(kDg, vn 0), (kGr, .ref g), (kLu, .ref l), (kTu, vn 0)], rfl, by show 4 ≤ 15; decide, ?_⟩
    rw [merge_dr]
    have npg : p ≠ g := fun z => by rw [← z, hp] at h1; cases h1
    have npl : p ≠ l := fun z => by rw [← z, upd_same] at hl3; cases hl3
    have nlg : l ≠ g := fun z => by rw [z, upd_ne (Ne.symm npg), h1] at hl3; cases hl3
    have eA : Ex H (upd H3 p (.dK (drK 0 0 g l))) := Ex.mut (e2.trans e3) (fresh_back e1 hp)
    refine k ⟨p, g, l, ns.map fun i => i.natAbs % 10 ^ 18⟩ _ eA ⟨eA, fresh_back e1 hp, hg, npg, nlg, ⟨0, 0, Nat.le_refl _, upd_same⟩, ⟨(ns.filter fun i => decide (10 ^ 18 ≤ i.natAbs)).map fun i => i.natAbs / 10 ^ 18, ?_, ?_⟩, ?_⟩
    · rw [List.length_map]
      exact Nat.le_trans (List.length_filter_le _ _) hl
    · show upd H3 p _ g = _
      rw [upd_ne (Ne.symm npg), e3 _ _ (by rw [upd_ne (Ne.symm npg)]; exact h1)]
      unfold vns
      rw [List.map_map] <;> rfl
    · show upd H3 p _ l = _
      rw [upd_ne (Ne.symm npl), h3]
      show some (HO.lst _) = some (HO.lst (List.map vn (List.map _ _)))
      rw [List.map_map] <;> rfl
theorem sc__law_next : FnScope ["_law_draw", "_law_many", "_law_found", "_law_turn", "_law_lump", "_law_mixed"] ["_law_draw", "_law_many"] (defScope s__law_next) := C8.fnScope_by (by decide +kernel)
theorem c__law_next (T : Txt K mg A) : C8.Cal P w K mg base 1 "_law_next" (spD A_next) [] := by
  refine cal_of T.d__law_next sc__law_next (fun _ _ _ _ _ _ us hl => match us, hl with | [_, _], _ => rfl) (fun vs H Q E h => ?_) (fun f cdv A0 outer s H vs Q E hr h => ?_)
  · obtain ⟨D, F, n, c, R, ⟨m, rfl, _⟩, _⟩ := h; rfl
  · obtain ⟨D, F, n, c, R, ⟨m, rfl, hm, hm2, rfl, rfl⟩, w0, hn, k⟩ := h
    have sc := sc__law_next
    refine ⟨_, (pss_cons (ps_while PassesOwn.never (PW.pt (pw_and (pt_cmpR op_eq (pe_dget (hu_of hr) (pv 0) pe_str (fun _ _ => rfl)) (pe_n 0) (nomark _)) (pw_and1 (pt_cmpR (op_neD (hu64 hr)) (pe_dget (hu_of hr) (pv 0) pe_str (fun _ _ => rfl)) (pe_lst pa_nil) (nomark _))))) (pss_one (ps_dput (hu_of hr) (pv 0) pe_str (pe_bm PySem.F.plainAttrs_list PySem.F.slot_list_pop PySem.F.type_list_pop mt_popAt (pe_dget (hu_of hr) (pv 0) pe_str (fun _ _ => rfl)) (pa_cons (pe_n 0) pa_nil)) rfl)))
      (pss_cons (ps_if (pt_cmpR op_gt (pe_dget (hu_of hr) (pv 0) pe_str (fun _ _ => rfl)) (pe_n 0) (nomark _)) (pss_cons (ps_set (i := 2) sc.nd rfl (by first | exact Or.inl rfl | exact Or.inr rfl) (pe_op op_mod (pe_dget (hu_of hr) (pv 0) pe_str (fun _ _ => rfl)) (pv 1)))
          (pss_cons (ps_dput (hu_of hr) (pv 0) pe_str (pe_op op_fdiv (pe_dget (hu_of hr) (pv 0) pe_str (fun _ _ => rfl)) (pv 1)) rfl)
          (pss_one (ps_ret (pv 2))))) pss_nil)
      (pss_cons (ps_daug (hu_of hr) (pv 0) pe_str (pe_n 1) in_add (fun _ _ _ => rfl))
      (pss_cons (ps_set (i := 3) sc.nd rfl (by first | exact Or.inl rfl | exact Or.inr rfl) (pe_dget (hu_of hr) (pv 0) pe_str (fun _ _ => rfl)))
      (pss_cons (ps_set (i := 4) sc.nd rfl (by first | exact Or.inl rfl | exact Or.inr rfl) (pe_n 0))
      (pss_cons (ps_if (pt_cmpR (op_neD (hu64 hr)) (pe_dget (hu_of hr) (pv 0) pe_str (fun _ _ => rfl)) (pe_lst pa_nil) (nomark _)) (pss_one (ps_set (i := 4) sc.nd rfl (by first | exact Or.inl rfl | exact Or.inr rfl) (pe_ix ix_list (pe_dget (hu_of hr) (pv 0) pe_str (fun _ _ => rfl)) (pe_op op_mod (pv 3) (pe_callB (r := rLenS K) call_len_seq (by rfl) T.b_len boot_len (pa_cons (pe_dget (hu_of hr) (pv 0) pe_str (fun _ _ => rfl)) pa_nil))) (fun _ _ => rfl)))) pss_nil)
      (pss_cons (ps_set (i := 5) sc.nd rfl (by first | exact Or.inl rfl | exact Or.inr rfl) (pe_op op_mod (pe_op op_pow (pe_op op_add (pe_op op_mod (pv 4) (pe_n 2147483629)) (pe_op op_mul (pe_n 40009) (pv 3))) (pe_n 3)) (pe_n 2147483647)))
      (pss_one (ps_ret (pe_op op_mod (pe_op op_fdiv (pe_op op_mod (pe_op op_pow (pe_op op_add (pv 5) (pe_op op_mul (pe_n 104729) (pv 3))) (pe_n 5)) (pe_n 2147483629)) (pe_n 11)) (pv 1))))))))))), ?_⟩
    obtain ⟨t0, dg0, ht0, hd0⟩ := w0.dr
    obtain ⟨gs0, hl0, hg0⟩ := w0.gr
    have nld := w0.nd
    have kp_l : ∀ {H2 : Hp}, (∀ b o, b ≠ D.d → b ≠ D.g → H b = some o → H2 b = some o) → H2 D.l = some (.lst (vns D.ls)) := fun kp => kp _ _ nld w0.nl w0.lm
    have fin : ∀ {t dg gs H2 r}, InN D H t dg gs H2 → t ≤ n + 1 → r < m → Q (vn r) H2 := fun {t dg gs H2 r} st ht hr => by
      obtain ⟨kp, hd, hg, hl⟩ := st
      refine k (vn r) F H2 ⟨Ex.refl F, fun b h _ => h, kp, ⟨fun b o h => kp b o (fun z => by rw [z, w0.fd] at h; cases h) (fun z => by rw [z, w0.fg] at h; cases h) (w0.ex _ _ h), w0.fd, w0.fg, w0.ne, w0.nl, ⟨t, dg, ht, hd⟩, ⟨gs, hl, hg⟩, kp_l kp⟩⟩ ⟨r, hr, rfl⟩
    refine q_while (fun mm σ' H' => ∃ dg gs, gs.length = mm ∧ InN D H t0 dg gs H' ∧ σ' = [some (.ref D.d), some (vn m), none, none, none, none]) gs0.length ⟨dg0, gs0, rfl, ⟨fun _ _ _ _ h => h, hd0, hg0, hl0⟩, rfl⟩ ?_
    rintro mm σ' H' ⟨dg, gs, hlen, st, rfl⟩
    have hd := st.2.1
    have hg := st.2.2.1
    refine ⟨_, et_and (et_test (ev_op (ev_dget (k := kDg) (ev_var rfl) ev_c hd dr_dg) ev_c rvn_eq)) fun _ => (et_test (ev_opL (ev_dget (k := kGr) (ev_var rfl) ev_c hd dr_gr) (el_lst ea_nil (by decide)) fun p H1 h1 e1 => rv_neLi (ys := []) (ex_l e1 (sq_of hg)) (sq_of h1))), fun hb H1 e1 => ?_, fun hb H1 e1 => ?_⟩
    · have st1 := InN.up st e1
      cases gs with
      | nil => rw [show decide (([] : List Nat) = []) = true from rfl, Bool.not_true, Bool.and_false] at hb; cases hb
      | cons x gs' =>
        refine ⟨fun σ2 H2 => ∃ dg, InN D H t0 dg gs' H2 ∧ σ2 = [some (.ref D.d), some (vn m), none, none, none, none], fun σ2 H2 ⟨dg, s2, e⟩ => ⟨gs'.length, by rw [← hlen]; exact Nat.lt_succ_self _, dg, gs', rfl, s2, e⟩, ?_⟩
        obtain ⟨kp1, hd1, hg1, hl1⟩ := id st1
        have hl1' : gs'.length + 1 ≤ 1000 := hl1
        refine pop_at (j := 0) (x := vn x) (ev_dget (k := kGr) (ev_var rfl) ev_c hd1 dr_gr) ev_c hg1 rfl (by rw [List.length_map]; show gs'.length + 1 ≤ _; omega) fun H2 e2 => ?_
        refine ⟨_, rfl, D.d, _, rfl, DPut.k (k := kDg) (kvs := drK dg t0 D.g D.l) (by rw [upd_ne w0.ne]; exact e2 _ _ hd1) drK_len, ?_⟩
        rw [put_dg]
        refine ⟨x, ⟨fun b o h1 h2 h => ?_, upd_same, ?_, by omega⟩, rfl⟩
        · rw [upd_ne h1, upd_ne h2]
          exact e2 _ _ (kp1 b o h1 h2 h)
        · rw [upd_ne (Ne.symm w0.ne)]
          exact upd_same
    have st1 := InN.up st e1
    clear hb st hd hg hlen
    have hd1 := st1.2.1
    refine zq_when (Ex.refl H1) (et_test (ev_op (ev_dget (k := kDg) (ev_var rfl) ev_c hd1 dr_dg) ev_c rvn_gt)) (fun hb H2 e2 => ?_) (fun hb H2 e2 => ?_)
    · refine zq_asg e2 (ev_op (ev_dget (k := kDg) (ev_var rfl) ev_c hd1 dr_dg) (ev_var rfl) (rvn_mod hm)) fun H3 e3 => ?_
      have e23 := e2.trans e3
      refine ev_op (ev_dget (k := kDg) (ev_var rfl) ev_c hd1 dr_dg) (ev_var rfl) (rvn_div ⟨hm, hm2⟩) H3 e23 _ fun H4 e4 => ?_
      obtain ⟨kp4, hd4, hg4, hl4⟩ := InN.up st1 (e23.trans e4)
      refine ⟨_, rfl, D.d, _, rfl, DPut.k (k := kDg) (kvs := drK dg t0 D.g D.l) hd4 drK_len, ?_⟩
      rw [put_dg]
      have st5 : InN D H t0 (dg / m) gs (upd H4 D.d (.dK (drK (dg / m) t0 D.g D.l))) := ⟨fun b o h1 h2 h => by rw [upd_ne h1]; exact kp4 b o h1 h2 h, upd_same, by rw [upd_ne (Ne.symm w0.ne)]; exact hg4, hl4⟩
      exact z_ret (Ex.refl _) (ev_var rfl) fun H5 e5 => fin (InN.up st5 e5) (by omega) (Nat.mod_lt _ hm)
    obtain ⟨kp2, hd2, hg2, hl2⟩ := InN.up st1 e2
    refine ⟨_, rfl, D.d, vn t0, rfl, by
      have z := DGet.k (k := kTu) hd2
      rw [dr_tu] at z
      exact z, ⟨_, _, rfl, rfl, _, DPut.k (k := kTu) hd2 drK_len, ?_⟩⟩
    have et : (V.int ((t0 : Int) + ((1 : Nat) : Int))) = vn (t0 + 1) := congrArg V.int (by rw [Int.natCast_add])
    rw [et, put_tu]
    have st3 : InN D H (t0 + 1) dg gs (upd H2 D.d (.dK (drK dg (t0 + 1) D.g D.l))) := ⟨fun b o h1 h2 h => by rw [upd_ne h1]; exact kp2 b o h1 h2 h, upd_same, by rw [upd_ne (Ne.symm w0.ne)]; exact hg2, hl2⟩
    generalize upd H2 D.d (.dK (drK dg (t0 + 1) D.g D.l)) = H3 at st3
    refine zq_asg (Ex.refl H3) (ev_dget (k := kTu) (ev_var rfl) ev_c st3.2.1 dr_tu) fun H4 e4 => ?_
    refine zq_asg e4 ev_c fun H5 e5 => ?_
    have st5 := InN.up (InN.up st3 e4) e5
    have hlm : H5 D.l = some (.lst (vns D.ls)) := kp_l st5.1
    have hm1 : t0 + 1 ≤ n + 1 := by omega
    refine zq_when (b := !decide (D.ls = [])) (Ex.refl H5) (et_test (ev_opL (ev_dget (k := kLu) (ev_var rfl) ev_c st5.2.1 dr_lu) (el_lst ea_nil (by decide)) fun p H6 h6 e6 => rv_neLi (ys := []) (ex_l e6 (sq_of hlm)) (sq_of h6))) (fun hb2 H6 e6 => ?_) (fun hb2 H6 e6 => ?_)
    · have hne : 0 < D.ls.length := by
        cases hls : D.ls with
        | nil => rw [hls] at hb2; cases hb2
        | cons _ _ => exact Nat.succ_pos _
      have hix : (t0 + 1) % D.ls.length < D.ls.length := Nat.mod_lt _ hne
      have st6 := InN.up st5 e6
      refine z_asg (Ex.refl H6) (ev_op (ev_dget (k := kLu) (ev_var rfl) ev_c st6.2.1 dr_lu) (ev_op (ev_var rfl) (ev_is (ev_len (ev_dget (k := kLu) (ev_var rfl) ev_c st6.2.1 dr_lu) (sq_of (e6 _ _ hlm))) (by rw [List.length_map])) (rvn_mod hne)) (rv_ixL (sq_of (e6 _ _ hlm)) (v := vn (D.ls.getD ((t0 + 1) % D.ls.length) 0)) (atI_nat (by unfold vns; rw [List.getElem?_map, List.getD_eq_getElem?_getD, List.getElem?_eq_getElem hix] <;> rfl)))) fun H7 e7 => ?_
      have st7 := InN.up st6 e7
      dsimp only
      refine zq_asg (Ex.refl _) (ev_op (ev_op (ev_op (ev_op (ev_var rfl) ev_c (rvn_mod (by decide))) (ev_op ev_c (ev_var rfl) (rvn_mul (by decide))) rvn_add) ev_c (rvn_pow (by omega) (by decide))) ev_c (rvn_mod (by decide))) fun H8 e8 => ?_
      exact z_ret e8 (ev_op (ev_op (ev_op (ev_op (ev_op (ev_var rfl) (ev_op ev_c (ev_var rfl) (rvn_mul (by decide))) rvn_add) ev_c (rvn_pow (by omega) (by decide))) ev_c (rvn_mod (by decide))) ev_c (rvn_div (by decide))) (ev_var rfl) (rvn_mod hm)) fun H9 e9 => fin (InN.up st7 (e8.trans e9)) hm1 (Nat.mod_lt _ hm)
    · have st7 := InN.up st5 e6
      refine zq_asg (Ex.refl _) (ev_op (ev_op (ev_op (ev_op (ev_var rfl) ev_c (rvn_mod (by decide))) (ev_op ev_c (ev_var rfl) (rvn_mul (by decide))) rvn_add) ev_c (rvn_pow (by omega) (by decide))) ev_c (rvn_mod (by decide))) fun H8 e8 => ?_
      exact z_ret e8 (ev_op (ev_op (ev_op (ev_op (ev_op (ev_var rfl) (ev_op ev_c (ev_var rfl) (rvn_mul (by decide))) rvn_add) ev_c (rvn_pow (by omega) (by decide))) ev_c (rvn_mod (by decide))) ev_c (rvn_div (by decide))) (ev_var rfl) (rvn_mod hm)) fun H9 e9 => fin (InN.up st7 (e8.trans e9)) hm1 (Nat.mod_lt _ hm)
end
end EL
set_option maxHeartbeats 4000000
/-! ### L2a: drawn texts, times, entries -/
namespace EL
open PySem PySem.Spec PyProof.Rows L2 Evl
def signsT : Str := ((((((" !" : Str) ++ ("\"" : Str)) ++ ("#$&'()*+,-./0123456789:;<=>?@ABCDEFGHIJKLMNOPQRSTUVWXYZ[" : Str)) ++ ("\\" : Str)) ++ ("]^_" : Str)) ++ ("`abcdefghijklmnopqrstuvwxyz{|}~" : Str))
theorem signs_ok : signsT.cps.toList.all prN = true := by decide +kernel
theorem signs_len : signsT.length = 94 := by decide +kernel
/-- a text of good signs -/
def A_note : Dp → Nat → List V → Hp → (V → Hp → Prop) → Prop := fun D c vs F R => vs = [.ref D.d] ∧ c = 41 ∧ R = fun v _ => ∃ w : Str, v = .str w ∧ comOk w = true
theorem spd_note {D : Dp} {F : Hp} : SpD D 41 (spD A_note) [.ref D.d] F (fun v _ => ∃ w : Str, v = .str w ∧ comOk w = true) := spd_of ⟨rfl, rfl, rfl⟩
/-- a time stands at v -/
def IsTm (K : PySem.W.Frag) (F : Hp) (v : V) (t : Tm) : Prop := ∃ p, v = .ref p ∧ SqT K F p t.vs
theorem IsTm.mono {K : PySem.W.Frag} {F F1 : Hp} {v : V} {t : Tm} (h : IsTm K F v t) (e : Ex F F1) : IsTm K F1 v t := let ⟨p, a, b⟩ := h; ⟨p, a, ex_t e b⟩
def A_moment (K : PySem.W.Frag) : Dp → Nat → List V → Hp → (V → Hp → Prop) → Prop := fun D c vs F R => vs = [.ref D.d] ∧ c = 7 ∧ R = fun v F2 => ∃ t, IsTm K F2 v t ∧ tmOk t = true
theorem spd_moment {K : PySem.W.Frag} {D : Dp} {F : Hp} : SpD D 7 (spD (A_moment K)) [.ref D.d] F (fun v F2 => ∃ t, IsTm K F2 v t ∧ tmOk t = true) := spd_of ⟨rfl, rfl, rfl⟩
/-- a list of bytes stands at v -/
def IsBs (K : PySem.W.Frag) (F : Hp) (v : V) (bs : List Nat) : Prop := ∃ p, v = .ref p ∧ SqL K F p (vns bs)
theorem IsBs.mono {K : PySem.W.Frag} {F F1 : Hp} {v : V} {bs : List Nat} (h : IsBs K F v bs) (e : Ex F F1) : IsBs K F1 v bs := let ⟨p, a, b⟩ := h; ⟨p, a, ex_l e b⟩
def A_some (K : PySem.W.Frag) : Dp → Nat → List V → Hp → (V → Hp → Prop) → Prop := fun D c vs F R => ∃ (m : Nat) (b : Bool), vs = [.ref D.d, vn m, .bl b] ∧ m ≤ 2000 ∧ c = 2 * m + 1 ∧ R = fun v F2 => ∃ bs, IsBs K F2 v bs ∧ bytesOk bs = true ∧ bs.length ≤ m
theorem spd_some {K : PySem.W.Frag} {D : Dp} {F : Hp} {m : Nat} {b : Bool} (h : m ≤ 2000) : SpD D (2 * m + 1) (spD (A_some K)) [.ref D.d, vn m, .bl b] F (fun v F2 => ∃ bs, IsBs K F2 v bs ∧ bytesOk bs = true ∧ bs.length ≤ m) := spd_of ⟨m, b, rfl, h, rfl, rfl⟩
/-- a law's entry: a tuple of name, data, time, comment -/
def LEnt (K : PySem.W.Frag) (F : Hp) (v : V) (e : Ent) : Prop := ∃ p d t, v = .ref p ∧ SqT K F p [.str e.name, d, t, .str e.com] ∧ IsBs K F d e.data ∧ IsTm K F t e.time
theorem LEnt.mono {K : PySem.W.Frag} {F F1 : Hp} {v : V} {e : Ent} (h : LEnt K F v e) (x : Ex F F1) : LEnt K F1 v e := let ⟨p, d, t, a, b, c, f⟩ := h; ⟨p, d, t, a, ex_t x b, c.mono x, f.mono x⟩
def A_entry (K : PySem.W.Frag) : Dp → Nat → List V → Hp → (V → Hp → Prop) → Prop := fun D c vs F R => ∃ (w : Str) (m : Nat), vs = [.ref D.d, .str w, vn m] ∧ m ≤ 2000 ∧ c = 2 * m + 50 ∧ R = fun v F2 => ∃ e : Ent, LEnt K F2 v e ∧ e.name = w ∧ bytesOk e.data = true ∧ e.data.length ≤ m ∧ tmOk e.time = true ∧ comOk e.com = true
theorem spd_entry {K : PySem.W.Frag} {D : Dp} {F : Hp} {w : Str} {m : Nat} (h : m ≤ 2000) : SpD D (2 * m + 50) (spD (A_entry K)) [.ref D.d, .str w, vn m] F (fun v F2 => ∃ e : Ent, LEnt K F2 v e ∧ e.name = w ∧ bytesOk e.data = true ∧ e.data.length ≤ m ∧ tmOk e.time = true ∧ comOk e.com = true) := spd_of ⟨w, m, rfl, h, rfl, rfl⟩
theorem byte_ok {bs : List Nat} (h : ∀ b ∈ bs, b < 256) : bytesOk bs = true := by
  unfold bytesOk
  rw [List.all_eq_true]
  intro b hb
  have := h b hb
  unfold byteOk
  rw [decide_eq_true (Nat.zero_le _), decide_eq_true (by omega)] <;> rfl
section
variable {P : Program} {w : World} {K : PySem.W.Frag} {mg : Str → Option Value} {base : Heap} {A : Ads}
theorem sc__law_pick : FnScope ["_law_draw", "_law_some_here"] ["_law_draw", "_law_some_here"] (defScope s__law_pick) := C8.fnScope_by (by decide +kernel)
theorem c__law_pick (T : Txt K mg A) : C8.Cal P w K mg base 2 "_law_pick" (spD (A_pick K)) [] := by
  have c__law_next : C8.Cal P w K mg base 1 _ _ _ := c__law_next T
  refine cal_of T.d__law_pick sc__law_pick (fun _ _ _ _ _ _ us hl => match us, hl with | [_, _], _ => rfl) (fun vs H Q E h => ?_) (fun f cdv A0 outer s H vs Q E hr h => ?_)
  · obtain ⟨D, F, n, c, R, ⟨_, ⟨a, xs, rfl, _⟩ | ⟨w, rfl, _⟩⟩, _⟩ := h <;> rfl
  · obtain ⟨D, F, n, c, R, hA, w0, hn, k⟩ := h
    refine ⟨_, (pss_one (ps_ret (pe_ix ix_seq (pv 1) (C8.pe_c c__law_next hr (by decide) (by rfl) (pa_cons (pv 0) (pa_cons (pe_callB (r := rLenV K) call_len (by rfl) T.b_len boot_len (pa_cons (pv 1) pa_nil)) pa_nil))) (fun _ _ => rfl)))), ?_⟩
    rcases hA with ⟨rfl, ⟨a, xs, rfl, hs, h0, h1, rfl⟩ | ⟨w, rfl, h0, h1, rfl⟩⟩
    · refine d_ret w0 (ed_op (c1 := 0) (c2 := 1) (ed_v (ev_var rfl)) (fun v1 F1 x1 r1 => ed_call (c1 := 0) (c2 := 1) (eda_v (ea_cons (ev_var rfl) (ea_cons (ev_lenVL (ev_var rfl) (ex_l x1 hs)) ea_nil))) (fun vs F2 x2 r2 => by rw [r2]; exact spd_next h0 (by omega))) (Rz := fun v _ => v ∈ xs) (fun v1 v2 F1 F2 x1 x2 r1 r2 => ?_)) hn fun v F2 H2 g r => k v F2 H2 g r
      obtain ⟨i, hi, rfl⟩ := r2
      subst r1
      exact ⟨xs[i], rv_ixAL (ex_l (x1.trans x2) hs) (atI_nat (List.getElem?_eq_getElem hi)), List.getElem_mem hi⟩
    · refine d_ret w0 (ed_op (c1 := 0) (c2 := 1) (ed_v (ev_var rfl)) (fun v1 F1 x1 r1 => ed_call (c1 := 0) (c2 := 1) (eda_v (ea_cons (ev_var rfl) (ea_cons (ev_lenVS (ev_var rfl) (by omega)) ea_nil))) (fun vs F2 x2 r2 => by rw [r2]; exact spd_next h0 (by omega))) (Rz := fun v _ => ∃ c ∈ w.cps.toList, v = sgn c) (fun v1 v2 F1 F2 x1 x2 r1 r2 => ?_)) hn fun v F2 H2 g r => k v F2 H2 g r
      obtain ⟨i, hi, rfl⟩ := r2
      subst r1
      have hi' : i < w.cps.toList.length := by simpa [Str.length] using hi
      exact ⟨_, rv_ixAS (by omega) (atI_nat (List.getElem?_eq_getElem hi')), _, List.getElem_mem hi', rfl⟩
theorem sc__law_signs : FnScope ["_law_signs_here"] [] (defScope s__law_signs) := C8.fnScope_by (by decide +kernel)
def sp_signs : Sp := fun vs H Q _ => vs = [] ∧ RetV (.str signsT) H Q
theorem spv_signs {F : Hp} : SpV sp_signs [] F (.str signsT) := fun H1 e Q q E => ⟨rfl, q⟩
theorem c__law_signs (T : Txt K mg A) : C8.Cal P w K mg base 1 "_law_signs" sp_signs [] := by
  refine cal_of T.d__law_signs sc__law_signs (fun _ _ _ _ _ _ us hl => match us, hl with | [], _ => rfl) (fun vs H Q E h => ?_) (fun f cdv A0 outer s H vs Q E hr h => ?_)
  · obtain ⟨rfl, _⟩ := h; rfl
  · obtain ⟨rfl, k⟩ := h
    have sc := sc__law_signs
    refine ⟨_, (pss_cons (ps_set (i := 0) sc.nd rfl (by first | exact Or.inl rfl | exact Or.inr rfl) (pe_op op_add_str (pe_op op_add_str (pe_op op_add_str (pe_op op_add_str pe_str pe_str) pe_str) pe_str) pe_str))
      (pss_one (ps_ret (pe_op op_add_str (pv 0) pe_str)))), ?_⟩
    refine zq_asg (Ex.refl H) (ev_op (ev_op (ev_op (ev_op ev_c ev_c (rv_adds (by decide +kernel))) ev_c (rv_adds (by decide +kernel))) ev_c (rv_adds (by decide +kernel))) ev_c (rv_adds (by decide +kernel))) fun H1 e1 => ?_
    exact z_ret e1 (ev_op (ev_var rfl) ev_c (rv_adds (by decide +kernel))) fun H2 e2 => k H2 (e1.trans e2)
theorem sc__law_note : FnScope ["_law_draw", "_law_signs_here", "_law_long", "_law_k"] ["_law_draw"] (defScope s__law_note) := C8.fnScope_by (by decide +kernel)
theorem c__law_note (T : Txt K mg A) : C8.Cal P w K mg base 3 "_law_note" (spD A_note) [] := by
  have c__law_pick : C8.Cal P w K mg base 2 _ _ _ := c__law_pick T
  have c__law_signs : C8.Cal P w K mg base 1 _ _ _ := c__law_signs T
  refine cal_of T.d__law_note sc__law_note (fun _ _ _ _ _ _ us hl => match us, hl with | [_], _ => rfl) (fun vs H Q E h => ?_) (fun f cdv A0 outer s H vs Q E hr h => ?_)
  · obtain ⟨D, F, n, c, R, ⟨rfl, _⟩, _⟩ := h; rfl
  · obtain ⟨D, F, n, c, R, ⟨rfl, rfl, rfl⟩, w0, hn, k⟩ := h
    have sc := sc__law_note
    refine ⟨_, (pss_cons (ps_asg (pe_tup (pa_cons (pe_c0 c__law_signs hr (by decide) (by rfl)) (pa_cons (C8.pe_c c__law_pick hr (by decide) (by rfl) (pa_cons (pv 0) (pa_cons (pe_lst (pa_cons (pe_n 0) (pa_cons (pe_n 0) (pa_cons (pe_n 0) (pa_cons (pe_n 1) (pa_cons (pe_n 2) (pa_cons (pe_n 5) (pa_cons (pe_n 40) pa_nil)))))))) pa_nil))) pa_nil))) (pg_tup (by rfl) (pgs_cons (pg_name (i := 1) sc.nd rfl (by first | exact Or.inl rfl | exact Or.inr rfl)) (pgs_cons (pg_name (i := 2) sc.nd rfl (by first | exact Or.inl rfl | exact Or.inr rfl)) pgs_nil))))
      (pss_one (ps_ret (pe_join pe_str (pe_lc (own := [("_law_k", 3)]) (g := gName 3) rfl sc.nd (pi_range1 (by rfl) T.b_range (pa_cons (pv 2) pa_nil)) (blkOk_by (N := ["_law_draw", "_law_signs_here", "_law_long", "_law_k"]) (sc := defScope s__law_note) (by decide +kernel)) (fun _ _ _ _ _ => pg_name (i := 3) sc.nd rfl (Or.inl rfl)) (fun _ _ _ _ _ => pts_nil) (fun _ _ _ _ _ => (C8.pe_c c__law_pick hr (by decide) (by rfl) (pa_cons (pv 0) (pa_cons (pv 1) pa_nil))))))))), ?_⟩
    refine dq_parT (c1 := 0) (c2 := 1) w0 (ed_v (ev_call ea_nil spv_signs)) (fun v1 F1 x1 r1 => ed_call (c1 := 0) (c2 := 1) (eda_cons (c1 := 0) (c2 := 0) (ed_v (ev_var rfl)) (fun v2 F2 x2 r2 => eda_cons (c1 := 0) (c2 := 0) (ed_l (el_lst (ea_cons ev_c (ea_cons ev_c (ea_cons ev_c (ea_cons ev_c (ea_cons ev_c (ea_cons ev_c (ea_cons ev_c ea_nil))))))) (by show 7 ≤ 100000; decide))) (fun _ _ _ _ => eda_nil) (Rz := fun vs F3 => ∃ p, vs = [.ref p] ∧ F3 p = some (.lst (vns [0, 0, 0, 1, 2, 5, 40]))) (fun v3 vs F3 F4 x3 x4 ⟨p, h1, h2⟩ h3 => ⟨p, by rw [h1, h3], x4 _ _ h2⟩)) (Rz := fun vs F3 => ∃ p, vs = [.ref D.d, .ref p] ∧ F3 p = some (.lst (vns [0, 0, 0, 1, 2, 5, 40]))) (fun v3 vs F3 F4 x3 x4 h1 ⟨p, h2, h3⟩ => ⟨p, by rw [h1, h2], h3⟩)) (fun vs F2 x2 ⟨p, h1, h2⟩ => by rw [h1]; exact spd_pickL (sq_of h2) (by decide) (by decide))) (by omega) fun v1 v2 F1 F2 H2 x12 g r1 r2 => ?_
    refine ⟨_, _, rfl, _, _, rfl, rfl, ?_⟩
    subst r1
    have hv : ∃ m, m ≤ 40 ∧ v2 = vn m := by
      simp only [vns, List.map_cons, List.map_nil, List.mem_cons, List.not_mem_nil, or_false] at r2
      rcases r2 with h | h | h | h | h | h | h <;> exact ⟨_, by decide, h⟩
    obtain ⟨m, hm, rfl⟩ := hv
    have hlen : (List.range m).length = m := List.length_range
    refine d_ret (c := 40) g.dw (ed_join (S := fun z : Str => ∃ c ∈ signsT.cps.toList, z = ⟨#[c]⟩) (B := 1) (C := 40) ev_c (fun F3 x3 => ED.mono (ed_comp (c := 1) (List.range m) vn (ei_rng1n (ea_cons (ev_var rfl) ea_nil) (by omega)) (by omega) (by intro _; rfl) (R := fun v _ => ∃ c ∈ signsT.cps.toList, v = sgn c) (fun _ _ _ _ h => h) (fun z hz F4 x4 => ed_call (c1 := 0) (c2 := 1) (eda_v (ea_cons (ev_var rfl) (ea_cons (ev_var rfl) ea_nil))) (fun vs F5 x5 h => by rw [h]; exact spd_pickS (by rw [signs_len]; decide) (by rw [signs_len]; decide)))) (by rw [hlen]; omega) (fun v F4 x4 ⟨p, xs, h1, h2, h3, h4⟩ => ⟨p, xs, h1, h2, by rw [h3, hlen]; exact hm, fun y hy => let ⟨c, hc, e⟩ := h4 y hy; ⟨⟨#[c]⟩, e, c, hc, rfl⟩⟩)) (fun z ⟨c, hc, e⟩ => by rw [e]; exact Nat.le_refl _) (by decide)) (by omega) fun v F3 H3 g3 ⟨ys, hv, hl, hy⟩ => ?_
    refine k v F3 H3 ((g.trans g3).more (by omega)) ⟨_, hv, ?_⟩
    unfold comOk txtOk
    rw [Bool.and_eq_true, List.all_eq_true, decide_eq_true_eq]
    refine ⟨fun c hc => ?_, ?_⟩
    · rcases join_mem hc with h | ⟨y, hym, h⟩
      · have e0 : ("" : Str).cps.toList = [] := by decide +kernel
        rw [e0] at h
        cases h
      · obtain ⟨c', hc', rfl⟩ := hy y hym
        have : c = c' := List.mem_singleton.mp h
        rw [this]
        exact List.all_eq_true.mp signs_ok c' hc'
    · have h1 := join_len (x := "") (ys := ys)
      have h2 := sum_len (B := 1) (ys := ys) (fun y hym => by obtain ⟨c', _, rfl⟩ := hy y hym; exact Nat.le_refl _)
      have h3 : ("" : Str).length = 0 := by decide +kernel
      rw [h3, Nat.mul_zero] at h1
      omega
end
end EL
set_option maxHeartbeats 4000000
/-! ### L2b: drawn times, bytes, entries; made entries and states -/
namespace EL
open PySem PySem.Spec PyProof.Rows L2 Evl
section
variable {K : PySem.W.Frag} {D : Dp} {σ : HSt} {F : Hp} {m : Nat} {td : TE}
/-- _law_next(draw, m) of a written m -/
theorem ed_next (hd : Ev td σ F (.ref D.d)) (h : 0 < m) (h2 : m < 1073741824) : ED D 1 (tCall (spD A_next) [] C8.E0 (tCons td (tCons (tC (vn m)) tNil))) σ F (fun v _ => ∃ r : Nat, r < m ∧ v = vn r) :=
  ed_call (c1 := 0) (c2 := 1) (eda_v (ea_cons hd (ea_cons ev_c ea_nil))) (fun vs F1 x1 r => by rw [r]; exact spd_next h h2)
/-- a + _law_next(draw, m) -/
theorem ed_addn {a : Nat} (hd : Ev td σ F (.ref D.d)) (h : 0 < m) (h2 : m < 1073741824) : ED D 1 (tOp (rI0 fun i j => .int (i + j)) (tC (vn a)) (tCall (spD A_next) [] C8.E0 (tCons td (tCons (tC (vn m)) tNil)))) σ F (fun v _ => ∃ r : Nat, r < m ∧ v = vn (a + r)) :=
  ed_op (c1 := 0) (c2 := 1) (ed_v ev_c) (fun v1 F1 x1 r1 => ed_next (hd.mono x1) h h2) (fun v1 v2 F1 F2 x1 x2 r1 ⟨r, hr, e⟩ => by subst r1; subst e; exact ⟨_, rvn_add, r, hr, rfl⟩)
theorem ed_muln {a : Nat} (ha : a < 2 ^ 64) (hd : Ev td σ F (.ref D.d)) (h : 0 < m) (h2 : m < 1073741824) : ED D 1 (tOp (rI CMul fun i j => .int (i * j)) (tC (vn a)) (tCall (spD A_next) [] C8.E0 (tCons td (tCons (tC (vn m)) tNil)))) σ F (fun v _ => ∃ r : Nat, r < m ∧ v = vn (a * r)) :=
  ed_op (c1 := 0) (c2 := 1) (ed_v ev_c) (fun v1 F1 x1 r1 => ed_next (hd.mono x1) h h2) (fun v1 v2 F1 F2 x1 x2 r1 ⟨r, hr, e⟩ => by subst r1; subst e; exact ⟨_, rvn_mul ha, r, hr, rfl⟩)
/-- _law_next(draw, m) == 0 -/
theorem ed_next0 (hd : Ev td σ F (.ref D.d)) (h : 0 < m) (h2 : m < 1073741824) : ED D 1 (tOp rEq (tCall (spD A_next) [] C8.E0 (tCons td (tCons (tC (vn m)) tNil))) (tC (vn 0))) σ F (fun v _ => ∃ b, v = .bl b ∧ True) :=
  ed_op (c1 := 1) (c2 := 0) (ed_next hd h h2) (fun v1 F1 x1 r1 => ed_v ev_c) (fun v1 v2 F1 F2 x1 x2 ⟨r, hr, e⟩ r2 => by subst r2; subst e; exact ⟨_, rvn_eq, _, rfl, trivial⟩)
/-- three drawn numbers -/
theorem eda3 {c1 c2 c3 : Nat} {t1 t2 t3 : TE} {P1 P2 P3 : Nat → Prop} (h1 : ED D c1 t1 σ F fun v _ => ∃ r, P1 r ∧ v = vn r) (h2 : ∀ F1, Ex F F1 → ED D c2 t2 σ F1 fun v _ => ∃ r, P2 r ∧ v = vn r) (h3 : ∀ F1, Ex F F1 → ED D c3 t3 σ F1 fun v _ => ∃ r, P3 r ∧ v = vn r) :
    EDA D (c1 + (c2 + c3)) (tCons t1 (tCons t2 (tCons t3 tNil))) σ F (fun vs _ => ∃ a b c, vs = vns [a, b, c] ∧ P1 a ∧ P2 b ∧ P3 c) :=
  eda_cons (c1 := c1) (c2 := c2 + c3) h1 (fun v1 F1 x1 r1 => eda_cons (c1 := c2) (c2 := c3) (h2 F1 x1) (fun v2 F2 x2 r2 => eda_cons (c1 := c3) (c2 := 0) (h3 F2 (x1.trans x2)) (fun _ _ _ _ => eda_nil) (Rz := fun vs _ => ∃ c, vs = vns [c] ∧ P3 c) (fun v3 vs F3 F4 x3 x4 ⟨r, h, e⟩ e2 => ⟨r, by rw [e, e2] <;> rfl, h⟩))
    (Rz := fun vs _ => ∃ b c, vs = vns [b, c] ∧ P2 b ∧ P3 c) (fun v3 vs F3 F4 x3 x4 ⟨r, h, e⟩ ⟨c, e2, h2⟩ => ⟨r, c, by rw [e, e2] <;> rfl, h, h2⟩)) (fun v3 vs F3 F4 x3 x4 ⟨r, h, e⟩ ⟨b, c, e2, h2⟩ => ⟨r, b, c, by rw [e, e2] <;> rfl, h, h2⟩)
end
theorem days_ge {y m : Nat} (h : 1 ≤ m ∧ m ≤ 12) : 28 ≤ daysIn y m := by
  have : ∀ k, k < 12 → 28 ≤ monthsN.getD k 0 := by decide
  have := this (m - 1) (by omega)
  unfold daysIn
  omega
theorem tm_good {y mo d h mi s : Nat} (h1 : 1980 ≤ y ∧ y ≤ 2107) (h2 : 1 ≤ mo ∧ mo ≤ 12) (h3 : 1 ≤ d ∧ d ≤ 28) (h4 : h ≤ 23) (h5 : mi ≤ 59) (h6 : s ≤ 59 ∧ s % 2 = 0) : tmOk ⟨y, mo, d, h, mi, s⟩ = true := by
  have hd := days_ge (y := y) h2
  unfold tmOk
  have a1 : inR 1980 2107 y = true := inR_iff.mpr h1
  have a2 : inR 1 12 mo = true := inR_iff.mpr h2
  have a3 : inR 1 (daysIn y mo) d = true := inR_iff.mpr ⟨h3.1, by omega⟩
  have a4 : inR 0 23 h = true := inR_iff.mpr ⟨by omega, h4⟩
  have a5 : inR 0 59 mi = true := inR_iff.mpr ⟨by omega, h5⟩
  have a6 : inR 0 59 s = true := inR_iff.mpr ⟨by omega, h6.1⟩
  simp only [a1, a2, a3, a4, a5, a6, h6.2, decide_true, Bool.and_self]
section
variable {P : Program} {w : World} {K : PySem.W.Frag} {mg : Str → Option Value} {base : Heap} {A : Ads}
theorem sc__law_moment : FnScope ["_law_draw", "_law_some_here", "_law_date"] ["_law_draw"] (defScope s__law_moment) := C8.fnScope_by (by decide +kernel)
theorem c__law_moment (T : Txt K mg A) : C8.Cal P w K mg base 3 "_law_moment" (spD (A_moment K)) [] := by
  have c__law_pick : C8.Cal P w K mg base 2 _ _ _ := c__law_pick T
  have c__law_next : C8.Cal P w K mg base 1 _ _ _ := c__law_next T
  refine cal_of T.d__law_moment sc__law_moment (fun _ _ _ _ _ _ us hl => match us, hl with | [_], _ => rfl) (fun vs H Q E h => ?_) (fun f cdv A0 outer s H vs Q E hr h => ?_)
  · obtain ⟨D, F, n, c, R, ⟨rfl, _⟩, _⟩ := h; rfl
  · obtain ⟨D, F, n, c, R, ⟨rfl, rfl, rfl⟩, w0, hn, k⟩ := h
    have sc := sc__law_moment
    refine ⟨_, (pss_cons (ps_if (pt_cmpR op_eq (C8.pe_c c__law_next hr (by decide) (by rfl) (pa_cons (pv 0) (pa_cons (pe_n 6) pa_nil))) (pe_n 0) (nomark _)) (pss_cons (ps_set (i := 1) sc.nd rfl (by first | exact Or.inl rfl | exact Or.inr rfl) (pe_lst (pa_cons (pe_tup (pa_cons (pe_n 2017) (pa_cons (pe_n 10) (pa_cons (pe_n 16) (pa_cons (pe_n 9) (pa_cons (pe_n 26) (pa_cons (pe_n 32) pa_nil))))))) (pa_cons (pe_tup (pa_cons (pe_n 1982) (pa_cons (pe_n 10) (pa_cons (pe_n 11) (pa_cons (pe_n 10) (pa_cons (pe_n 0) (pa_cons (pe_n 0) pa_nil))))))) (pa_cons (pe_tup (pa_cons (pe_n 2107) (pa_cons (pe_n 12) (pa_cons (pe_n 31) (pa_cons (pe_n 23) (pa_cons (pe_n 59) (pa_cons (pe_n 58) pa_nil))))))) pa_nil)))))
          (pss_one (ps_ret (C8.pe_c c__law_pick hr (by decide) (by rfl) (pa_cons (pv 0) (pa_cons (pv 1) pa_nil)))))) pss_nil)
      (pss_cons (ps_set (i := 2) sc.nd rfl (by first | exact Or.inl rfl | exact Or.inr rfl) (pe_tup (pa_cons (pe_op op_add (pe_n 1980) (C8.pe_c c__law_next hr (by decide) (by rfl) (pa_cons (pv 0) (pa_cons (pe_n 128) pa_nil)))) (pa_cons (pe_op op_add (pe_n 1) (C8.pe_c c__law_next hr (by decide) (by rfl) (pa_cons (pv 0) (pa_cons (pe_n 12) pa_nil)))) (pa_cons (pe_op op_add (pe_n 1) (C8.pe_c c__law_next hr (by decide) (by rfl) (pa_cons (pv 0) (pa_cons (pe_n 28) pa_nil)))) pa_nil)))))
      (pss_one (ps_ret (pe_op op_catT (pv 2) (pe_tup (pa_cons (C8.pe_c c__law_next hr (by decide) (by rfl) (pa_cons (pv 0) (pa_cons (pe_n 24) pa_nil))) (pa_cons (C8.pe_c c__law_next hr (by decide) (by rfl) (pa_cons (pv 0) (pa_cons (pe_n 60) pa_nil))) (pa_cons (pe_op op_mul (pe_n 2) (C8.pe_c c__law_next hr (by decide) (by rfl) (pa_cons (pv 0) (pa_cons (pe_n 30) pa_nil)))) pa_nil))))))))), ?_⟩
    refine dq_when (c := 1) w0 (edt_testR (ed_next0 (ev_var rfl) (by decide) (by decide))) (by omega) (fun F1 H1 g1 _ => ?_) (fun F1 H1 g1 _ => ?_)
    · -- one of three written ones
      have tup6 : ∀ {F : Hp} {a b c d e f : Nat} {σ : HSt}, ED D 0 (tTup (tCons (tC (vn a)) (tCons (tC (vn b)) (tCons (tC (vn c)) (tCons (tC (vn d)) (tCons (tC (vn e)) (tCons (tC (vn f)) tNil))))))) σ F (fun v F2 => IsTm K F2 v ⟨a, b, c, d, e, f⟩) := fun {F a b c d e f σ} =>
        ED.mono (ed_u (eu_tup (ea_cons ev_c (ea_cons ev_c (ea_cons ev_c (ea_cons ev_c (ea_cons ev_c (ea_cons ev_c ea_nil)))))) (by show 6 ≤ 100000; decide))) (Nat.le_refl _) fun v F2 x2 ⟨p, e1, e2⟩ => ⟨p, e1, st_of e2⟩
      refine dq_asg (c := 0) g1.dw (ed_lst (Rs := fun vs F2 => vs.length = 3 ∧ ∀ v ∈ vs, ∃ t, IsTm K F2 v t ∧ tmOk t = true) (Rt := fun vs F2 => vs.length = 3 ∧ ∀ v ∈ vs, ∃ t, IsTm K F2 v t ∧ tmOk t = true) (eda_cons (c1 := 0) (c2 := 0) tup6 (fun _ _ _ _ => eda_cons (c1 := 0) (c2 := 0) tup6 (fun _ _ _ _ => eda_cons (c1 := 0) (c2 := 0) tup6 (fun _ _ _ _ => eda_nil) (Rz := fun vs F2 => vs.length = 1 ∧ ∀ v ∈ vs, ∃ t, IsTm K F2 v t ∧ tmOk t = true) (fun v vs F1 F2 x1 x2 h e => ⟨by rw [e] <;> rfl, fun u hu => by
          rw [e] at hu
          rw [List.mem_singleton.mp hu]
          exact ⟨_, h.mono x2, by decide⟩⟩)) (Rz := fun vs F2 => vs.length = 2 ∧ ∀ v ∈ vs, ∃ t, IsTm K F2 v t ∧ tmOk t = true) (fun v vs F1 F2 x1 x2 h ⟨e, k⟩ => ⟨by rw [List.length_cons, e], fun u hu => by
          rcases List.mem_cons.mp hu with z | z
          · rw [z]; exact ⟨_, h.mono x2, by decide⟩
          · exact k u z⟩)) (fun v vs F1 F2 x1 x2 h ⟨e, k⟩ => ⟨by rw [List.length_cons, e], fun u hu => by
          rcases List.mem_cons.mp hu with z | z
          · rw [z]; exact ⟨_, h.mono x2, by decide⟩
          · exact k u z⟩)) (fun vs F1 h => by rw [h.1]; decide) (fun vs F1 F2 x h => ⟨h.1, fun v hv => let ⟨t, a, b⟩ := h.2 v hv; ⟨t, a.mono x, b⟩⟩)) (by omega) fun v F2 H2 g2 ⟨p, vs, hv, hp, hlen, hvs⟩ => ?_
      subst hv
      refine d_ret (c := 1) g2.dw (ed_call (c1 := 0) (c2 := 1) (eda_v (ea_cons (ev_var rfl) (ea_cons (ev_var rfl) ea_nil))) (fun vs F1 x1 r => by rw [r]; exact spd_pickL (ex_l x1 (sq_of hp)) (by omega) (by omega))) (by omega) fun v F3 H3 g3 r => ?_
      obtain ⟨t, h1, h2⟩ := hvs v r
      exact k v F3 H3 (((g1.trans g2).trans g3).more (by omega)) ⟨t, h1.mono g3.ex, h2⟩
    refine dq_asg (c := 3) g1.dw (ed_tup (Rt := fun vs _ => ∃ a b c, vs = vns [a, b, c] ∧ (1980 ≤ a ∧ a ≤ 2107) ∧ (1 ≤ b ∧ b ≤ 12) ∧ (1 ≤ c ∧ c ≤ 28)) (eda3 (c1 := 1) (c2 := 1) (c3 := 1) (P1 := fun a => 1980 ≤ a ∧ a ≤ 2107) (P2 := fun a => 1 ≤ a ∧ a ≤ 12) (P3 := fun a => 1 ≤ a ∧ a ≤ 28)
        (ED.mono (ed_addn (ev_var rfl) (by decide) (by decide)) (Nat.le_refl _) fun v F2 _ ⟨r, h, e⟩ => ⟨_, ⟨by omega, by omega⟩, e⟩) (fun F1 _ => ED.mono (ed_addn (ev_var rfl) (by decide) (by decide)) (Nat.le_refl _) fun v F2 _ ⟨r, h, e⟩ => ⟨_, ⟨by omega, by omega⟩, e⟩) (fun F1 _ => ED.mono (ed_addn (ev_var rfl) (by decide) (by decide)) (Nat.le_refl _) fun v F2 _ ⟨r, h, e⟩ => ⟨_, ⟨by omega, by omega⟩, e⟩))
        (fun vs F1 ⟨a, b, c, e, _⟩ => by rw [e]; show 3 ≤ 100000; decide) (fun _ _ _ _ h => h)) (by omega) fun v F2 H2 g2 ⟨p, vs, hv, hp, a, b, c, hvs, ha, hb, hc⟩ => ?_
    subst hv
    subst hvs
    refine d_ret (c := 3) g2.dw (ed_op2 (c1 := 0) (c2 := 3) (ed_v (ev_var rfl)) (fun v1 F3 x3 r3 => ed_tup (Rt := fun vs _ => ∃ a b c, vs = vns [a, b, c] ∧ a ≤ 23 ∧ b ≤ 59 ∧ (c ≤ 59 ∧ c % 2 = 0)) (eda3 (c1 := 1) (c2 := 1) (c3 := 1) (P1 := fun a => a ≤ 23) (P2 := fun a => a ≤ 59) (P3 := fun a => a ≤ 59 ∧ a % 2 = 0)
        (ED.mono (ed_next (ev_var rfl) (by decide) (by decide)) (Nat.le_refl _) fun v F2 _ ⟨r, h, e⟩ => ⟨_, by omega, e⟩) (fun F1 _ => ED.mono (ed_next (ev_var rfl) (by decide) (by decide)) (Nat.le_refl _) fun v F2 _ ⟨r, h, e⟩ => ⟨_, by omega, e⟩) (fun F1 _ => ED.mono (ed_muln (by decide) (ev_var rfl) (by decide) (by decide)) (Nat.le_refl _) fun v F2 _ ⟨r, h, e⟩ => ⟨_, ⟨by omega, by omega⟩, e⟩))
        (fun vs F1 ⟨a, b, c, e, _⟩ => by rw [e]; show 3 ≤ 100000; decide) (fun _ _ _ _ h => h)) (Rz := fun v F2 => ∃ t, IsTm K F2 v t ∧ tmOk t = true) (fun v1 v2 F3 F4 x3 x4 r1 ⟨q, vs, hv, hq, a2, b2, c2, hvs, ha2, hb2, hc2⟩ => ?_)) (by omega) fun v F3 H3 g3 r => k v F3 H3 (((g1.trans g2).trans g3).more (by omega)) r
    subst r1
    subst hv
    subst hvs
    intro n4 H4 w4 Q4 q4
    refine rd_catT (ex_t (x3.trans x4) (st_of hp)) (st_of hq) (by simp [vns]) (by simp [vns]) (by show 6 ≤ 100000; decide) n4 H4 w4 Q4 fun v F5 H5 g5 ⟨p5, e5, h5⟩ => q4 v F5 H5 g5 ⟨⟨a, b, c, a2, b2, c2⟩, ⟨p5, e5, st_of h5⟩, tm_good ha hb hc ha2 hb2 hc2⟩
end
end EL
set_option maxHeartbeats 4000000
/-! ### L2c: drawn bytes, entries; made entries and states -/
namespace EL
open PySem PySem.Spec PyProof.Rows L2 Evl
def A_made (K : PySem.W.Frag) (A : Ads) : Dp → Nat → List V → Hp → (V → Hp → Prop) → Prop := fun D c vs F R => ∃ (v : V) (e : Ent), vs = [v] ∧ LEnt K F v e ∧ e.Ok ∧ c = 0 ∧ R = fun x F2 => ∃ a, x = .ref a ∧ IsEnt K A.C_Entry F2 a e
theorem spd_made {K : PySem.W.Frag} {A : Ads} {D : Dp} {F : Hp} {v : V} {e : Ent} (h : LEnt K F v e) (ok : e.Ok) : SpD D 0 (spD (A_made K A)) [v] F (fun x F2 => ∃ a, x = .ref a ∧ IsEnt K A.C_Entry F2 a e) := spd_of ⟨v, e, rfl, h, ok, rfl, rfl⟩
/-- a list of entries of the law -/
def LEs (K : PySem.W.Frag) (F : Hp) (ps : List (V × Ent)) : Prop := ∀ p ∈ ps, LEnt K F p.1 p.2
def EsOk (es : List Ent) : Prop := es.length ≤ 20 ∧ (es.map (·.name)).Nodup ∧ ∀ e ∈ es, e.Ok
def A_state (K : PySem.W.Frag) (A : Ads) : Dp → Nat → List V → Hp → (V → Hp → Prop) → Prop := fun D c vs F R => ∃ (l : Addr) (ps : List (V × Ent)) (w : Str), vs = [.ref l, .str w] ∧ SqL K F l (ps.map (·.1)) ∧ LEs K F ps ∧ EsOk (ps.map (·.2)) ∧ comOk w = true ∧ c = 0 ∧ R = fun x F2 => ∃ a zs, x = .ref a ∧ IsSta K A F2 a zs w ∧ zs.map (·.2) = ps.map (·.2)
theorem spd_state {K : PySem.W.Frag} {A : Ads} {D : Dp} {F : Hp} {l : Addr} {ps : List (V × Ent)} {w : Str} (h : SqL K F l (ps.map (·.1))) (h2 : LEs K F ps) (h3 : EsOk (ps.map (·.2))) (h4 : comOk w = true) :
    SpD D 0 (spD (A_state K A)) [.ref l, .str w] F (fun x F2 => ∃ a zs, x = .ref a ∧ IsSta K A F2 a zs w ∧ zs.map (·.2) = ps.map (·.2)) := spd_of ⟨l, ps, w, rfl, h, h2, h3, h4, rfl, rfl⟩
section
variable {K : PySem.W.Frag} {D : Dp} {σ : HSt} {F H : Hp} {td : TE}
theorem ed_moment (hd : Ev td σ F (.ref D.d)) : ED D 7 (tCall (spD (A_moment K)) [] C8.E0 (tCons td tNil)) σ F (fun v F2 => ∃ t, IsTm K F2 v t ∧ tmOk t = true) :=
  ed_call (c1 := 0) (c2 := 7) (eda_v (ea_cons hd ea_nil)) (fun vs F4 x4 r => by rw [r]; exact spd_moment)
theorem ed_note (hd : Ev td σ F (.ref D.d)) : ED D 41 (tCall (spD A_note) [] C8.E0 (tCons td tNil)) σ F (fun v _ => ∃ w : Str, v = .str w ∧ comOk w = true) :=
  ed_call (c1 := 0) (c2 := 41) (eda_v (ea_cons hd ea_nil)) (fun vs F4 x4 r => by rw [r]; exact spd_note)
/-- C(.., k = ..) -/
theorem mkK_run {C : Addr} {n m : Nat} {sp : Sp} {gV : List V → List V → List V} {E : XK} {t tk : TA} {vs zs : List V} {Q : VK} (e : Ex F H) (h : EvA t σ F vs) (hk : EvA tk σ F zs) (l1 : vs.length = n) (l2 : zs.length = m)
    (k : ∀ H2, Ex H H2 → ∀ x dx, H2 x = none → H2 dx = none → dx ≠ x → sp (gV (.ref x :: vs) zs) (upd (upd H2 dx (.own x)) x (.ins C dx [])) (fun v H3 => v = .non ∧ Q (.ref x) H3) E) : tMakeK C n m sp gV E t tk σ H Q :=
  h H e _ fun H1 e1 => hk H1 (e.trans e1) _ fun H2 e2 => ⟨l1, l2, k H2 (e1.trans e2)⟩
theorem mkK_runD {C : Addr} {n m n0 c : Nat} {sp : Sp} {gV : List V → List V → List V} {E : XK} {t tk : TA} {zs : List V} {Q : VK} {Rs : List V → Hp → Prop} (w : Dw D n0 F H) (h : EDA D c t σ F Rs) (hn : n0 + c ≤ (1099511627776 : Nat)) (hk : ∀ F1, Ex F F1 → EvA tk σ F1 zs) (l2 : zs.length = m)
    (k : ∀ vs F2 H2, Go D (n0 + c) F H F2 H2 → Rs vs F2 → vs.length = n ∧ ∀ x dx, H2 x = none → H2 dx = none → dx ≠ x → sp (gV (.ref x :: vs) zs) (upd (upd H2 dx (.own x)) x (.ins C dx [])) (fun v H3 => v = .non ∧ Q (.ref x) H3) E) : tMakeK C n m sp gV E t tk σ H Q :=
  h n0 H w hn _ fun vs F2 H1 g r => hk F2 g.ex H1 g.dw.ex _ fun H2 e2 => let ⟨a, b⟩ := k vs F2 H2 (g.up e2) r; ⟨a, l2, b⟩
end
section
variable {P : Program} {w : World} {K : PySem.W.Frag} {mg : Str → Option Value} {base : Heap} {A : Ads}
theorem sc__law_some : FnScope ["_law_draw", "_law_many", "_law_plain", "_law_signs_here", "_law_ways", "_law_k", "_law_way"] ["_law_draw", "_law_many", "_law_plain"] (defScope s__law_some) := C8.fnScope_by (by decide +kernel)
theorem c__law_some (T : Txt K mg A) : C8.Cal P w K mg base 3 "_law_some" (spD (A_some K)) [] := by
  have c__law_pick : C8.Cal P w K mg base 2 _ _ _ := c__law_pick T
  have c__law_next : C8.Cal P w K mg base 1 _ _ _ := c__law_next T
  refine cal_of T.d__law_some sc__law_some (fun _ _ _ _ _ _ us hl => match us, hl with | [_, _, _], _ => rfl) (fun vs H Q E h => ?_) (fun f cdv A0 outer s H vs Q E hr h => ?_)
  · obtain ⟨D, F, n, c, R, ⟨m, b, rfl, _⟩, _⟩ := h; rfl
  · obtain ⟨D, F, n, c, R, ⟨m, b, rfl, hm, rfl, rfl⟩, w0, hn, k⟩ := h
    have sc := sc__law_some
    refine ⟨_, (pss_cons (ps_set (i := 3) sc.nd rfl (by first | exact Or.inl rfl | exact Or.inr rfl) (pe_ifExp (pt_val (pv 2)) (pe_lst (pa_cons (pe_n 0) (pa_cons (pe_n 1) (pa_cons (pe_n 255) (pa_cons (pe_n 80) (pa_cons (pe_n 75) (pa_cons (pe_n 5) (pa_cons (pe_n 6) (pa_cons (pe_n 3) (pa_cons (pe_n 4) pa_nil)))))))))) (pe_lst (pa_cons (pe_n 80) (pa_cons (pe_n 75) (pa_cons (pe_n 5) (pa_cons (pe_n 6) (pa_cons (pe_n 0) (pa_cons (pe_n 1) pa_nil)))))))))
      (pss_cons (ps_setLc (i := 4) (own := [("_law_k", 5)]) (g := gName 5) rfl sc.nd rfl rfl (sw_true rfl rfl rfl (by decide +kernel)) (pi_range1 (by rfl) T.b_range (pa_cons (C8.pe_c c__law_next hr (by decide) (by rfl) (pa_cons (pv 0) (pa_cons (pe_op op_add (pv 1) (pe_n 1)) pa_nil))) pa_nil)) (blkOk_by (N := ["_law_draw", "_law_many", "_law_plain", "_law_signs_here", "_law_ways", "_law_k", "_law_way"]) (sc := defScope s__law_some) (by decide +kernel)) (fun _ _ _ _ _ => pg_name (i := 5) sc.nd rfl (Or.inl rfl)) (fun _ _ _ _ _ => pts_nil) (fun _ _ _ _ _ => (C8.pe_c c__law_next hr (by decide) (by rfl) (pa_cons (pv 0) (pa_cons (pe_n 2) pa_nil)))))
      (pss_one (ps_ret (pe_lc (own := [("_law_way", 6)]) (g := gName 6) rfl sc.nd (pi_list (pv 4)) (blkOk_by (N := ["_law_draw", "_law_many", "_law_plain", "_law_signs_here", "_law_ways", "_law_k", "_law_way"]) (sc := defScope s__law_some) (by decide +kernel)) (fun _ _ _ _ _ => pg_name (i := 6) sc.nd rfl (Or.inl rfl)) (fun _ _ _ _ _ => pts_nil) (fun _ _ _ _ _ => (pe_ifExp (pt_cmpR op_eq (pv 6) (pe_n 0) (nomark _)) (C8.pe_c c__law_pick hr (by decide) (by rfl) (pa_cons (pv 0) (pa_cons (pv 3) pa_nil))) (C8.pe_c c__law_next hr (by decide) (by rfl) (pa_cons (pv 0) (pa_cons (pe_n 256) pa_nil)))))))))), ?_⟩
    refine dq_asg (c := 0) w0 (R := fun v F2 => ∃ p l0, v = .ref p ∧ F2 p = some (.lst (vns l0)) ∧ 0 < l0.length ∧ l0.length ≤ 10 ∧ ∀ x ∈ l0, x < 256) (ed_if (c1 := 0) (c2 := 0) (et_v (et_B (ev_var rfl))) (fun F1 x1 _ => ED.mono (ed_l (el_lst (ea_cons ev_c (ea_cons ev_c (ea_cons ev_c (ea_cons ev_c (ea_cons ev_c (ea_cons ev_c (ea_cons ev_c (ea_cons ev_c (ea_cons ev_c ea_nil))))))))) (by show 9 ≤ 100000; decide))) (Nat.le_refl _) fun v F2 x2 ⟨p, e, h⟩ => ⟨p, [0, 1, 255, 80, 75, 5, 6, 3, 4], e, h, by decide, by decide, by decide⟩)
      (fun F1 x1 _ => ED.mono (ed_l (el_lst (ea_cons ev_c (ea_cons ev_c (ea_cons ev_c (ea_cons ev_c (ea_cons ev_c (ea_cons ev_c ea_nil)))))) (by show 6 ≤ 100000; decide))) (Nat.le_refl _) fun v F2 x2 ⟨p, e, h⟩ => ⟨p, [80, 75, 5, 6, 0, 1], e, h, by decide, by decide, by decide⟩)) (by omega) fun v F1 H1 g1 ⟨p, l0, hv, hp, hp0, hp1, hp2⟩ => ?_
    subst hv
    refine dq_asg (c := 1 + m * 1) g1.dw (ed_compR (c1 := 1) (c := 1) (M := m) (R := fun v _ => ∃ r : Nat, r < 2 ∧ v = vn r) (eda_cons (Ra := fun v _ => ∃ r : Nat, r < m + 1 ∧ v = vn r) (c1 := 1) (c2 := 0) (ed_call (c1 := 0) (c2 := 1) (eda_v (ea_cons (ev_var rfl) (ea_cons (ev_op (ev_var rfl) ev_c rvn_add) ea_nil))) (fun vs F2 x2 r => by rw [r]; exact spd_next (by omega) (by omega))) (fun _ _ _ _ => eda_nil) (fun v1 vs F2 F3 x2 x3 ⟨r, h, e⟩ e2 => ⟨r, by rw [e, e2], by omega⟩)) (by omega) (by intro _; rfl) (fun _ _ _ _ h => h) (fun z F2 x2 => ed_next (ev_var rfl) (by decide) (by decide))) (by omega) fun v F2 H2 g2 ⟨q, xs, hv, hq, hql, hqx⟩ => ?_
    subst hv
    obtain ⟨ys, rfl, hy⟩ := nats_of (P := fun r => r < 2) (fun v hv => let ⟨r, h, e⟩ := hqx v hv; ⟨r, e, h⟩)
    rw [List.length_map] at hql
    refine d_ret (c := m * 1) g2.dw (ED.mono (ed_comp (c := 1) ys vn (ei_list (ev_var rfl) (sq_of hq)) (by omega) (by intro _; rfl) (R := fun v _ => ∃ r : Nat, r < 256 ∧ v = vn r) (fun _ _ _ _ h => h) (fun z hz F3 x3 => ed_if (c1 := 0) (c2 := 1) (et_v (et_test (ev_op (ev_var rfl) ev_c rvn_eq))) (fun F4 x4 _ => ED.mono (ed_call (c1 := 0) (c2 := 1) (eda_v (ea_cons (ev_var rfl) (ea_cons (ev_var rfl) ea_nil))) (fun vs F5 x5 r => by rw [r]; exact spd_pickL (sq_of ((((g2.ex.trans x3).trans x4).trans x5) _ _ hp)) (by rw [List.length_map]; exact hp0) (by rw [List.length_map]; omega))) (Nat.le_refl _) fun v F5 _ hv => by
        obtain ⟨r, hr, e⟩ := List.mem_map.mp hv
        exact ⟨r, hp2 r hr, e.symm⟩) (fun F4 x4 _ => ed_next (ev_var rfl) (by decide) (by decide)))) (Nat.mul_le_mul_right 1 hql) (fun _ _ _ h => h)) (by omega) fun v F3 H3 g3 ⟨p3, xs, hv, hp3, hl3, hx3⟩ => ?_
    obtain ⟨bs, rfl, hb⟩ := nats_of (P := fun r => r < 256) (fun v hv => let ⟨r, h, e⟩ := hx3 v hv; ⟨r, e, h⟩)
    rw [List.length_map] at hl3
    exact k v F3 H3 (((g1.trans g2).trans g3).more (by omega)) ⟨bs, ⟨p3, hv, sq_of hp3⟩, byte_ok hb, by omega⟩
theorem sc__law_entry : FnScope ["_law_draw", "_law_title", "_law_many"] ["_law_draw", "_law_title", "_law_many"] (defScope s__law_entry) := C8.fnScope_by (by decide +kernel)
theorem c__law_entry (T : Txt K mg A) : C8.Cal P w K mg base 4 "_law_entry" (spD (A_entry K)) [] := by
  have c__law_some : C8.Cal P w K mg base 3 _ _ _ := c__law_some T
  have c__law_moment : C8.Cal P w K mg base 3 _ _ _ := c__law_moment T
  have c__law_note : C8.Cal P w K mg base 3 _ _ _ := c__law_note T
  have c__law_next : C8.Cal P w K mg base 1 _ _ _ := c__law_next T
  refine cal_of T.d__law_entry sc__law_entry (fun _ _ _ _ _ _ us hl => match us, hl with | [_, _, _], _ => rfl) (fun vs H Q E h => ?_) (fun f cdv A0 outer s H vs Q E hr h => ?_)
  · obtain ⟨D, F, n, c, R, ⟨t, m, rfl, _⟩, _⟩ := h; rfl
  · obtain ⟨D, F, n, c, R, ⟨t, m, rfl, hm, rfl, rfl⟩, w0, hn, k⟩ := h
    refine ⟨_, (pss_one (ps_ret (pe_tup (pa_cons (pv 1) (pa_cons (C8.pe_c c__law_some hr (by decide) (by rfl) (pa_cons (pv 0) (pa_cons (pv 2) (pa_cons (pe_cmpR op_eq (C8.pe_c c__law_next hr (by decide) (by rfl) (pa_cons (pv 0) (pa_cons (pe_n 2) pa_nil))) (pe_n 0) (nomark _)) pa_nil)))) (pa_cons (C8.pe_c c__law_moment hr (by decide) (by rfl) (pa_cons (pv 0) pa_nil)) (pa_cons (C8.pe_c c__law_note hr (by decide) (by rfl) (pa_cons (pv 0) pa_nil)) pa_nil))))))), ?_⟩
    have hsome : ∀ F1 : Hp, ED D (1 + (2 * m + 1)) (tCall (spD (A_some K)) [] C8.E0 (tCons (tVar 0) (tCons (tVar 2) (tCons (tOp rEq (tCall (spD A_next) [] C8.E0 (tCons (tVar 0) (tCons (tC (vn 2)) tNil))) (tC (vn 0))) tNil)))) [some (.ref D.d), some (.str t), some (vn m)] F1 (fun v F2 => ∃ bs, IsBs K F2 v bs ∧ bytesOk bs = true ∧ bs.length ≤ m) := fun F1 =>
      ed_call (c1 := 1) (c2 := 2 * m + 1) (Rs := fun vs _ => ∃ b : Bool, vs = [.ref D.d, vn m, .bl b]) (eda_cons (c1 := 0) (c2 := 1) (ed_v (ev_var rfl)) (fun _ F2 x2 _ => eda_cons (c1 := 0) (c2 := 1) (ed_v (ev_var rfl)) (fun _ F3 x3 _ => eda_cons (c1 := 1) (c2 := 0) (ed_next0 (ev_var rfl) (by decide) (by decide)) (fun _ _ _ _ => eda_nil) (Rz := fun vs _ => ∃ b : Bool, vs = [.bl b]) (fun v vs _ _ _ _ ⟨b, e, _⟩ e2 => ⟨b, by rw [e, e2]⟩)) (Rz := fun vs _ => ∃ b : Bool, vs = [vn m, .bl b]) (fun v vs _ _ _ _ e ⟨b, e2⟩ => ⟨b, by rw [e, e2]⟩)) (fun v vs _ _ _ _ e ⟨b, e2⟩ => ⟨b, by rw [e, e2]⟩)) (fun vs F2 x2 ⟨b, e⟩ => by rw [e]; exact spd_some hm)
    refine d_ret (c := 0 + ((1 + (2 * m + 1)) + (7 + (41 + 0)))) w0 (ed_tup (Rs := fun vs F2 => ∃ d tm cm, ∃ e : Ent, vs = [.str t, d, tm, .str cm] ∧ IsBs K F2 d e.data ∧ IsTm K F2 tm e.time ∧ e.name = t ∧ e.com = cm ∧ bytesOk e.data = true ∧ e.data.length ≤ m ∧ tmOk e.time = true ∧ comOk e.com = true)
      (Rt := fun vs F2 => ∃ d tm cm, ∃ e : Ent, vs = [.str t, d, tm, .str cm] ∧ IsBs K F2 d e.data ∧ IsTm K F2 tm e.time ∧ e.name = t ∧ e.com = cm ∧ bytesOk e.data = true ∧ e.data.length ≤ m ∧ tmOk e.time = true ∧ comOk e.com = true)
      (eda_cons (c1 := 0) (c2 := (1 + (2 * m + 1)) + (7 + (41 + 0))) (ed_v (ev_var rfl)) (fun _ F2 x2 _ => eda_cons (c1 := 1 + (2 * m + 1)) (c2 := 7 + (41 + 0)) (hsome F2) (fun _ F3 x3 _ => eda_cons (c1 := 7) (c2 := 41 + 0) (ed_moment (ev_var rfl)) (fun _ F4 x4 _ => eda_cons (c1 := 41) (c2 := 0) (ed_note (ev_var rfl)) (fun _ _ _ _ => eda_nil)
        (Rz := fun vs _ => ∃ cm, vs = [.str cm] ∧ comOk cm = true) (fun v vs _ _ _ _ ⟨cm, e, h⟩ e2 => ⟨cm, by rw [e, e2], h⟩)) (Rz := fun vs F2 => ∃ tm cm tv, vs = [tm, .str cm] ∧ IsTm K F2 tm tv ∧ tmOk tv = true ∧ comOk cm = true) (fun v vs F1 F2 x1 x2 ⟨tv, h1, h2⟩ ⟨cm, e, h⟩ => ⟨v, cm, tv, by rw [e], h1.mono x2, h2, h⟩))
        (Rz := fun vs F2 => ∃ d tm cm, ∃ e : Ent, vs = [d, tm, .str cm] ∧ IsBs K F2 d e.data ∧ IsTm K F2 tm e.time ∧ e.name = t ∧ e.com = cm ∧ bytesOk e.data = true ∧ e.data.length ≤ m ∧ tmOk e.time = true ∧ comOk e.com = true) (fun v vs F1 F2 x1 x2 ⟨bs, h1, h2, h3⟩ ⟨tm, cm, tv, e, h4, h5, h6⟩ => ⟨v, tm, cm, ⟨t, bs, tv, cm⟩, by rw [e], h1.mono x2, h4, rfl, rfl, h2, h3, h5, h6⟩)) (fun v vs F1 F2 x1 x2 e ⟨d, tm, cm, en, e2, h⟩ => ⟨d, tm, cm, en, by rw [e, e2], h⟩))
      (fun vs F1 ⟨d, tm, cm, en, e, _⟩ => by rw [e]; show 4 ≤ 100000; decide) (fun vs F1 F2 x ⟨d, tm, cm, en, e, h1, h2, h3⟩ => ⟨d, tm, cm, en, e, h1.mono x, h2.mono x, h3⟩)) (by omega) fun v F2 H2 g ⟨p, vs, hv, hp, d, tm, cm, en, e, h1, h2, h3, h4, h5, h6, h7, h8⟩ => ?_
    subst e
    refine k v F2 H2 (g.more (by omega)) ⟨en, ⟨p, d, tm, hv, st_of (by rw [hp, h3, h4]), h1, h2⟩, h3, h5, h6, h7, h8⟩
theorem sc__law_made : FnScope ["_law_one"] ["_law_one"] (defScope s__law_made) := C8.fnScope_by (by decide +kernel)
theorem c__law_made (T : Txt K mg A) : C8.Cal P w K mg base 7 "_law_made" (spD (A_made K A)) [] := by
  have c_Entry : MakK P w K mg base 5 _ _ _ _ _ _ := c_Entry T
  refine cal_of T.d__law_made sc__law_made (fun _ _ _ _ _ _ us hl => match us, hl with | [_], _ => rfl) (fun vs H Q E h => ?_) (fun f cdv A0 outer s H vs Q E hr h => ?_)
  · obtain ⟨D, F, n, c, R, ⟨v, e, rfl, _⟩, _⟩ := h; rfl
  · obtain ⟨D, F, n, c, R, ⟨v, e, rfl, ⟨p, d, t, rfl, hp, ⟨dl, rfl, hd⟩, ⟨tl, rfl, ht⟩⟩, ok, rfl, rfl⟩, w0, hn, k⟩ := h
    refine ⟨_, (pss_one (ps_ret (pe_mkK c_Entry hr (by decide) (by rfl) (pa_cons (pe_ix ix_tup (pv 0) (pe_n 0) (fun _ _ => rfl)) (pa_cons (pe_ix ix_tup (pv 0) (pe_n 1) (fun _ _ => rfl)) pa_nil)) (pk_cons (pe_ix ix_tup (pv 0) (pe_n 2) (fun _ _ => rfl)) (pk_cons (pe_ix ix_tup (pv 0) (pe_n 3) (fun _ _ => rfl)) pk_nil))))), ?_⟩
    show tMakeK _ _ _ _ _ _ _ _ _ _ _
    refine mkK_run w0.ex (ea_cons (ev_op (ev_var rfl) ev_c (rv_ixT hp (atI_nat (j := 0) rfl))) (ea_cons (ev_op (ev_var rfl) ev_c (rv_ixT hp (atI_nat (j := 1) rfl))) ea_nil)) (ea_cons (ev_op (ev_var rfl) ev_c (rv_ixT hp (atI_nat (j := 2) rfl))) (ea_cons (ev_op (ev_var rfl) ev_c (rv_ixT hp (atI_nat (j := 3) rfl))) ea_nil)) rfl rfl fun H2 e2 x dx h1 h2 h3 => ?_
    have w2 := w0.up e2
    exact new_entry w2.ex hd ht ok (fun x H3 hx e3 hI => k _ _ H3 ((w0.go e2).trans (w2.goGrow e3)) ⟨x, rfl, hI⟩) x dx h1 h2 h3 _
theorem sc__law_state : FnScope ["_law_entries", "_law_note_here", "_law_one"] ["_law_entries", "_law_note_here"] (defScope s__law_state) := C8.fnScope_by (by decide +kernel)
theorem c__law_state (T : Txt K mg A) : C8.Cal P w K mg base 8 "_law_state" (spD (A_state K A)) [] := by
  have c__law_made : C8.Cal P w K mg base 7 _ _ _ := c__law_made T
  have c_State : MakK P w K mg base 4 _ _ _ _ _ _ := c_State T
  refine cal_of T.d__law_state sc__law_state (fun _ _ _ _ _ _ us hl => match us, hl with | [_, _], _ => rfl) (fun vs H Q E h => ?_) (fun f cdv A0 outer s H vs Q E hr h => ?_)
  · obtain ⟨D, F, n, c, R, ⟨l, ps, t, rfl, _⟩, _⟩ := h; rfl
  · obtain ⟨D, F, n, c, R, ⟨l, ps, t, rfl, hl, hps, ok, ht, rfl, rfl⟩, w0, hn, k⟩ := h
    have sc := sc__law_state
    refine ⟨_, (pss_one (ps_ret (pe_mkK c_State hr (by decide) (by rfl) (pa_cons (pe_lc (own := [("_law_one", 2)]) (g := gName 2) rfl sc.nd (pi_list (pv 0)) (blkOk_by (N := ["_law_entries", "_law_note_here", "_law_one"]) (sc := defScope s__law_state) (by decide +kernel)) (fun _ _ _ _ _ => pg_name (i := 2) sc.nd rfl (Or.inl rfl)) (fun _ _ _ _ _ => pts_nil) (fun _ _ _ _ _ => (C8.pe_c c__law_made hr (by decide) (by rfl) (pa_cons (pv 2) pa_nil)))) pa_nil) (pk_cons (pv 1) pk_nil)))), ?_⟩
    have h20 : ps.length ≤ 20 := by have := ok.1; rwa [List.length_map] at this
    show tMakeK _ _ _ _ _ _ _ _ _ _ _
    refine mkK_runD (c := ps.length * 0) (Rs := fun vs F2 => ∃ (p : Addr) (qs : List ((V × Ent) × V)), vs = [.ref p] ∧ F2 p = some (.lst (qs.map (·.2))) ∧ qs.map (·.1) = ps ∧ ∀ y ∈ qs, ∃ a, y.2 = .ref a ∧ IsEnt K A.C_Entry F2 a y.1.2) w0 (eda_cons (c1 := ps.length * 0) (c2 := 0) (ed_compP (c := 0) (Rp := fun (z : V × Ent) x F2 => ∃ a, x = .ref a ∧ IsEnt K A.C_Entry F2 a z.2) ps (·.1) (ei_list (ev_var rfl) hl) (by omega) (by intro _; rfl) (fun z v F1 F2 x ⟨a, e, h⟩ => ⟨a, e, h.mono x⟩) (fun z hz F1 x1 => ed_call (c1 := 0) (c2 := 0) (eda_v (ea_cons (ev_var rfl) ea_nil)) (fun vs F2 x2 r => by rw [r]; exact spd_made ((hps z hz).mono (x1.trans x2)) (ok.2.2 _ (List.mem_map_of_mem hz))))) (fun _ _ _ _ => eda_nil) (fun v vs F1 F2 x1 x2 ⟨p, qs, h1, h2, h3, h4⟩ e => ⟨p, qs, by rw [h1, e], x2 _ _ h2, h3, fun y hy => let ⟨a, b, c⟩ := h4 y hy; ⟨a, b, c.mono x2⟩⟩)) (by omega) (fun F1 x1 => ea_cons (ev_var rfl) ea_nil) rfl fun vs F2 H2 g ⟨p, qs, hv, hp, hq, hqs⟩ => ?_
    subst hv
    rw [Nat.mul_zero] at g
    -- the rows with their places
    have key : ∀ qs : List ((V × Ent) × V), (∀ y ∈ qs, ∃ a, y.2 = .ref a ∧ IsEnt K A.C_Entry F2 a y.1.2) → ∃ zs : List PE1, zs.map rf = qs.map (·.2) ∧ zs.map (·.2) = (qs.map (·.1)).map (·.2) ∧ AllEnt K A.C_Entry F2 zs := by
      intro qs
      induction qs with
      | nil => exact fun _ => ⟨[], rfl, rfl, fun z hz => absurd hz (by simp)⟩
      | cons y qs ih =>
        intro h
        obtain ⟨a, ha, hi⟩ := h y List.mem_cons_self
        obtain ⟨zs, h1, h2, h3⟩ := ih fun u hu => h u (List.mem_cons_of_mem _ hu)
        refine ⟨(a, y.1.2) :: zs, ?_, ?_, fun z hz => ?_⟩
        · rw [List.map_cons, List.map_cons, h1, ha]
        · rw [List.map_cons, List.map_cons, List.map_cons, h2]
        · rcases List.mem_cons.mp hz with e | e
          · rw [e]; exact hi
          · exact h3 z e
    obtain ⟨zs, z1, z2, z3⟩ := key qs hqs
    rw [hq] at z2
    have hl2 : F2 p = some (.lst (zs.map rf)) := by rw [hp, z1]
    have ok2 : RowsOk zs := by
      refine ⟨?_, ?_⟩
      · have := congrArg List.length z2
        rw [List.length_map, List.length_map] at this
        omega
      · have : zs.map enm = (zs.map (·.2)).map (·.name) := by rw [List.map_map] <;> rfl
        rw [this, z2]
        exact ok.2.1
    refine ⟨rfl, fun x dx h1 h2 h3 => ?_⟩
    exact new_state g.dw.ex (sq_of hl2) z3 ok2 ht (fun x H3 hx e3 hI => k _ _ H3 (g.trans (g.dw.goGrow e3)) ⟨x, zs, rfl, hI, z2⟩) x dx h1 h2 h3 _
end
end EL
set_option maxHeartbeats 4000000
/-! ### L3: what the law holds of clashes -/
namespace EL
open PySem PySem.Spec PyProof.Rows L2 Evl
/-- the last sign is a stroke -/
def endL (w : Str) : Bool := decide (w.cps.toList.getLast? = some 47)
def splL (w : Str) : List Str := Txt.split (if endL w = true then Txt.slice w none (some (-1)) else w) "/"
def clL (a b : Str) : Bool := if splL a = splL b then true else
  if (splL a).length < (splL b).length then decide (splL a = (splL b).take (splL a).length) && !endL a else decide (splL b = (splL a).take (splL b).length) && !endL b
/-- endswith is: the last sign -/
theorem snoc_of {w : Str} (h : 0 < w.length) : ∃ (l : List Nat) (c : Nat), w.cps.toList = l ++ [c] := by
  have hl : 0 < w.cps.toList.length := by simpa [Str.length] using h
  exact ⟨_, _, (List.dropLast_concat_getLast (List.ne_nil_of_length_pos hl)).symm⟩
theorem ends_last {w : Str} (h : 0 < w.length) : isF w = endL w := by
  obtain ⟨l, c, e⟩ := snoc_of h
  obtain ⟨⟨cps⟩⟩ := w
  have e : cps = l ++ [c] := e
  subst e
  unfold isF endL Txt.endswith Builtin.Str.subAt
  have e1 : ("/" : Str) = ⟨#[47]⟩ := by decide +kernel
  rw [e1]
  have e2 : (Str.mk (Array.mk (l ++ [c]))).length = l.length + 1 := by simp [Str.length]
  have e3 : (Str.mk #[47]).length = 1 := rfl
  rw [e2, e3, decide_eq_true (by omega), Bool.true_and]
  have e4 : (Str.mk (Array.mk (l ++ [c]))).cps.extract (l.length + 1 - 1) (l.length + 1 - 1 + 1) = #[c] := by
    show (l ++ [c]).toArray.extract (l.length + 1 - 1) (l.length + 1 - 1 + 1) = #[c]
    simp
  rw [e4]
  show _ = decide ((l ++ [c]).getLast? = some 47)
  rw [List.getLast?_concat, Bool.eq_iff_iff]
  simp
theorem spl_pts {w : Str} (h : 0 < w.length) : pts w = splL w := by
  unfold pts stem splL
  rw [ends_last h]
/-- the law's clash is the program's -/
theorem cl_doCl {a b : Str} (ha : 0 < a.length) (hb : 0 < b.length) : doCl a b = clL a b := by
  unfold doCl clL
  rw [spl_pts ha, spl_pts hb, ends_last ha, ends_last hb]
  generalize splL a = x
  generalize splL b = y
  by_cases h : x = y
  · rw [if_pos h, if_pos h]
  · rw [if_neg h, if_neg h]
    by_cases hl : x.length < y.length
    · rw [if_pos hl]
      have h1 : ¬ x.take y.length = y := fun e => by
        have := congrArg List.length e
        rw [List.length_take] at this
        omega
      rw [decide_eq_false h1, Bool.and_false]
      by_cases h2 : y.take x.length = x
      · rw [decide_eq_true h2, decide_eq_true h2.symm]
        cases endL a <;> rfl
      · rw [decide_eq_false h2, decide_eq_false (fun e => h2 e.symm)]
        cases endL a <;> rfl
    · rw [if_neg hl]
      have h1 : ¬ y.take x.length = x := fun e => by
        have h3 := congrArg List.length e
        rw [List.length_take] at h3
        have h4 : x.length = y.length := by omega
        rw [h4, List.take_length] at e
        exact h e.symm
      rw [decide_eq_false h1, Bool.and_false]
      by_cases h2 : x.take y.length = y
      · rw [decide_eq_true h2, decide_eq_true h2.symm]
        cases endL b <;> rfl
      · rw [decide_eq_false h2, decide_eq_false (fun e => h2 e.symm)]
        cases endL b <;> rfl
/-- the pairs of later ones below n -/
def duS (ns : List Str) (n : Nat) : List (Str × Str) := match ns[n]? with
  | none => []
  | some y => ((ns.take n).filter fun x => clL x y).map fun x => (x, y)
def duP (ns : List Str) : Nat → List (Str × Str)
  | 0 => []
  | n + 1 => duP ns n ++ duS ns n
theorem duS_at {ns : List Str} {n : Nat} {y : Str} (h : ns[n]? = some y) : duS ns n = ((ns.take n).filter fun x => clL x y).map fun x => (x, y) := by
  unfold duS
  rw [h]
theorem duS_no {ns : List Str} {n : Nat} (h : ns[n]? = none) : duS ns n = [] := by
  unfold duS
  rw [h]
theorem find_head {α : Type} (p : α → Bool) : ∀ l : List α, (l.filter p).head? = l.find? p
  | [] => rfl
  | x :: l => by
    rw [List.filter_cons, List.find?_cons]
    cases h : p x with
    | true => rfl
    | false => exact find_head p l
theorem duP_head {ns : List Str} (h : ∀ w ∈ ns, 0 < w.length) : ∀ n, (duP ns n).head? = fcl ns n
  | 0 => rfl
  | n + 1 => by
    have ih := duP_head h n
    show (duP ns n ++ duS ns n).head? = (match fcl ns n with | some r => some r | none => _)
    rw [List.head?_append, ih]
    cases hf : fcl ns n with
    | some r => rfl
    | none =>
      show (Option.none).or _ = _
      rw [Option.none_or]
      cases hy : ns[n]? with
      | none =>
        rw [duS_no hy]
        rfl
      | some y =>
        rw [duS_at hy]
        show ((((ns.take n).filter fun x => clL x y).map fun x => (x, y))).head? = ((ns.take n).find? fun x => doCl x y).map fun x => (x, y)
        rw [List.head?_map, find_head]
        have hym : y ∈ ns := List.mem_of_getElem? hy
        have : (ns.take n).find? (fun x => clL x y) = (ns.take n).find? (fun x => doCl x y) := by
          have : ∀ l : List Str, (∀ x ∈ l, x ∈ ns) → l.find? (fun x => clL x y) = l.find? (fun x => doCl x y) := by
            intro l
            induction l with
            | nil => exact fun _ => rfl
            | cons x l ih2 =>
              intro hm
              rw [List.find?_cons, List.find?_cons, cl_doCl (h x (hm x List.mem_cons_self)) (h y hym), ih2 fun z hz => hm z (List.mem_cons_of_mem _ hz)]
          exact this _ fun x hx => List.mem_of_mem_take hx
        rw [this]
/-- None, or a pair of texts -/
def FcV (K : PySem.W.Frag) (F : Hp) (r : Option (Str × Str)) (v : V) : Prop := match r with
  | none => v = .non
  | some (x, y) => ∃ p, v = .ref p ∧ SqT K F p [.str x, .str y]
theorem FcV.mono {K : PySem.W.Frag} {F F1 : Hp} {r : Option (Str × Str)} {v : V} (h : FcV K F r v) (e : Ex F F1) : FcV K F1 r v := by
  cases r with
  | none => exact h
  | some w => exact let ⟨p, a, b⟩ := h; ⟨p, a, ex_t e b⟩
def sp_splL : Sp := fun vs H Q _ => ∃ w : Str, vs = [.str w] ∧ 0 < w.length ∧ w.length ≤ 1000 ∧ RetL ((splL w).map V.str) H Q
def sp_clL : Sp := fun vs H Q _ => ∃ a b : Str, vs = [.str a, .str b] ∧ (0 < a.length ∧ a.length ≤ 1000) ∧ (0 < b.length ∧ b.length ≤ 1000) ∧ RetV (.bl (clL a b)) H Q
def A_due (K : PySem.W.Frag) : Dp → Nat → List V → Hp → (V → Hp → Prop) → Prop := fun D c vs F R => ∃ (a : Addr) (ns : List Str), vs = [.ref a] ∧ SqL K F a (ns.map V.str) ∧ ns.length ≤ 100 ∧ (∀ w ∈ ns, 0 < w.length ∧ w.length ≤ 1000) ∧ c = 0 ∧ R = fun v F2 => FcV K F2 (fcl ns ns.length) v
theorem spl_splL {F : Hp} {w : Str} (h : 0 < w.length) (h2 : w.length ≤ 1000) : SpL sp_splL [.str w] F ((splL w).map V.str) := fun H1 e Q q E => ⟨w, rfl, h, h2, q⟩
theorem spv_clL {F : Hp} {a b : Str} (h : 0 < a.length ∧ a.length ≤ 1000) (h2 : 0 < b.length ∧ b.length ≤ 1000) : SpV sp_clL [.str a, .str b] F (.bl (clL a b)) := fun H1 e Q q E => ⟨a, b, rfl, h, h2, q⟩
theorem spd_due {K : PySem.W.Frag} {D : Dp} {F : Hp} {a : Addr} {ns : List Str} (h : SqL K F a (ns.map V.str)) (h2 : ns.length ≤ 100) (h3 : ∀ w ∈ ns, 0 < w.length ∧ w.length ≤ 1000) : SpD D 0 (spD (A_due K)) [.ref a] F (fun v F2 => FcV K F2 (fcl ns ns.length) v) := spd_of ⟨a, ns, rfl, h, h2, h3, rfl, rfl⟩
theorem atI_m1 {w : Str} (h : 0 < w.length) : ∃ c, atI w.cps.toList (-1) = some c ∧ endL w = decide (sgn c = V.str "/") := by
  obtain ⟨l, c, e⟩ := snoc_of h
  refine ⟨c, ?_, ?_⟩
  · rw [e]
    exact atI_last l c
  · unfold endL
    rw [e, List.getLast?_concat]
    have e1 : ("/" : Str) = ⟨#[47]⟩ := by decide +kernel
    rw [e1, Bool.eq_iff_iff]
    simp
section
variable {K : PySem.W.Frag} {σ : HSt} {F : Hp} {ta : TE} {w : Str}
/-- s[-1] == "/" -/
theorem ev_endL (h : Ev ta σ F (.str w)) (h0 : 0 < w.length) (h1 : w.length ≤ 1000) : Ev (tOp rEq (tOp rIxS ta (tUn (rU fun i => .int (-i)) (tC (vn 1)))) (tC (.str "/"))) σ F (.bl (endL w)) := by
  obtain ⟨c, h2, h3⟩ := atI_m1 h0
  rw [h3]
  exact ev_op (ev_op h (ev_un ev_c ru_neg) (rv_ixS (by omega) h2)) ev_c (rv_eq rfl)
theorem ev_nendL (h : Ev ta σ F (.str w)) (h0 : 0 < w.length) (h1 : w.length ≤ 1000) : Ev (tOp rNe (tOp rIxS ta (tUn (rU fun i => .int (-i)) (tC (vn 1)))) (tC (.str "/"))) σ F (.bl (!endL w)) := by
  obtain ⟨c, h2, h3⟩ := atI_m1 h0
  rw [h3]
  exact ev_op (ev_op h (ev_un ev_c ru_neg) (rv_ixS (by omega) h2)) ev_c (rv_ne rfl)
end
section
variable {P : Program} {w : World} {K : PySem.W.Frag} {mg : Str → Option Value} {base : Heap} {A : Ads}
theorem sc__law_split : FnScope ["_law_title"] ["_law_title"] (defScope s__law_split) := C8.fnScope_by (by decide +kernel)
theorem c__law_split (T : Txt K mg A) : C8.Cal P w K mg base 1 "_law_split" sp_splL [] := by
  refine cal_of T.d__law_split sc__law_split (fun _ _ _ _ _ _ us hl => match us, hl with | [_], _ => rfl) (fun vs H Q E h => ?_) (fun f cdv A0 outer s H vs Q E hr h => ?_)
  · obtain ⟨w, rfl, _⟩ := h; rfl
  · obtain ⟨w, rfl, h0, h1, k⟩ := h
    have hsl := slice_len w none (some (-1))
    refine ⟨_, (pss_one (ps_ret (pe_split (pe_ifExp (pt_cmpR op_eq (pe_ix ix_str (pv 0) (pe_un un_neg (pe_n 1)) (fun _ _ => rfl)) pe_str (nomark _)) (pe_slice C8.sl_txt (pv 0) po_none (po_some (pe_un un_neg (pe_n 1)))) (pv 0)) pe_str))), ?_⟩
    refine z_retL (Ex.refl H) (el_split (x := if endL w = true then Txt.slice w none (some (-1)) else w) (ev_if (et_test (ev_endL (ev_var rfl) h0 h1)) (fun hb => ?_) fun hb => ?_) ev_c (by decide) (by split <;> omega)) fun p H1 hp e1 h1 => k p H1 hp e1 h1
    · rw [if_pos hb]
      exact (ev_slS (ev_var rfl) eo_none (eo_some (ev_un ev_c ru_neg)) (by omega))
    · rw [if_neg (by rw [hb]; decide)]
      exact ev_var rfl
theorem sc__law_do_clash : FnScope ["_law_one", "_law_other", "_law_left", "_law_right", "_law_low", "_law_high", "_law_shorter"] ["_law_one", "_law_other"] (defScope s__law_do_clash) := C8.fnScope_by (by decide +kernel)
theorem c__law_do_clash (T : Txt K mg A) : C8.Cal P w K mg base 2 "_law_do_clash" sp_clL [] := by
  have c__law_split : C8.Cal P w K mg base 1 _ _ _ := c__law_split T
  refine cal_of T.d__law_do_clash sc__law_do_clash (fun _ _ _ _ _ _ us hl => match us, hl with | [_, _], _ => rfl) (fun vs H Q E h => ?_) (fun f cdv A0 outer s H vs Q E hr h => ?_)
  · obtain ⟨a, b, rfl, _⟩ := h; rfl
  · obtain ⟨a, b, rfl, ha, hb, k⟩ := h
    have sc := sc__law_do_clash
    refine ⟨_, (pss_cons (ps_par (i := 2) (j := 3) (by rfl) sc.nd rfl rfl (by decide) rfl rfl (pa_cons (C8.pe_c c__law_split hr (by decide) (by rfl) (pa_cons (pv 0) pa_nil)) (pa_cons (C8.pe_c c__law_split hr (by decide) (by rfl) (pa_cons (pv 1) pa_nil)) pa_nil)) (by rfl))
      (pss_cons (ps_if (pt_cmpR (op_eqSs (hu0 hr)) (pv 2) (pv 3) (nomark _)) (pss_one (ps_ret pe_bl)) pss_nil)
      (pss_cons (ps_asg (pe_ifExp (pt_cmpR op_lt (pe_callB (r := rLenS K) call_len_seq (by rfl) T.b_len boot_len (pa_cons (pv 2) pa_nil)) (pe_callB (r := rLenS K) call_len_seq (by rfl) T.b_len boot_len (pa_cons (pv 3) pa_nil)) (nomark _)) (pe_tup (pa_cons (pv 2) (pa_cons (pv 3) (pa_cons (pv 0) pa_nil)))) (pe_tup (pa_cons (pv 3) (pa_cons (pv 2) (pa_cons (pv 1) pa_nil))))) (pg_tup (by rfl) (pgs_cons (pg_name (i := 4) sc.nd rfl (by first | exact Or.inl rfl | exact Or.inr rfl)) (pgs_cons (pg_name (i := 5) sc.nd rfl (by first | exact Or.inl rfl | exact Or.inr rfl)) (pgs_cons (pg_name (i := 6) sc.nd rfl (by first | exact Or.inl rfl | exact Or.inr rfl)) pgs_nil)))))
      (pss_one (ps_ret (pe_and (pe_cmpR (op_eqSs (hu0 hr)) (pv 4) (pe_slice sl_list (pv 5) po_none (po_some (pe_callB (r := rLenS K) call_len_seq (by rfl) T.b_len boot_len (pa_cons (pv 4) pa_nil)))) (nomark _)) (pe_one (pe_cmpR op_ne (pe_ix ix_str (pv 6) (pe_un un_neg (pe_n 1)) (fun _ _ => rfl)) pe_str (nomark _))))))))), ?_⟩
    refine zq_parLL (Ex.refl H) (el_call (ea_cons (ev_var rfl) ea_nil) (spl_splL ha.1 ha.2)) (el_call (ea_cons (ev_var rfl) ea_nil) (spl_splL hb.1 hb.2)) fun p q H1 hp hq npq e1 hp1 hq1 => ?_
    have sp : SqL K H1 p ((splL a).map V.str) := sq_of hp1
    have sq : SqL K H1 q ((splL b).map V.str) := sq_of hq1
    refine zq_when (Ex.refl H1) (et_test (ev_op (ev_var rfl) (ev_var rfl) (rv_eqSs sp sq))) (fun h0 H2 e2 => ?_) (fun h0 H2 e2 => ?_)
    · refine z_ret (Ex.refl H2) ev_c fun H3 e3 => ?_
      have z := k H3 ((e1.trans e2).trans e3)
      unfold clL at z
      rw [if_pos (of_decide_eq_true h0)] at z
      exact z
    by_cases hl : (splL a).length < (splL b).length
    · refine zq_unpackN e2 (xs := [.ref p, .ref q, .str a]) ?_ rfl fun pt H3 hpt e3 h3 => ?_
      · intro H5 e5 Q5 q5
        refine (et_test (ev_op (ev_len (ev_var rfl) sp) (ev_len (ev_var rfl) sq) rvn_lt)) H5 e5 _ fun H6 e6 => ?_
        rw [List.length_map, List.length_map, decide_eq_true hl]
        exact (eu_tup (ea_cons (ev_var rfl) (ea_cons (ev_var rfl) (ea_cons (ev_var rfl) ea_nil))) (by show 3 ≤ 100000; decide)) H6 (e5.trans e6) _ fun p6 H7 hp6 e7 h7 => q5 p6 H7 (fresh_back e6 hp6) (e6.trans e7) h7
      refine ⟨_, _, rfl, _, _, rfl, _, _, rfl, rfl, ?_⟩
      have E3 := e2.trans e3
      refine z_ret E3 (ev_andV (ev_opL (ev_var rfl) (el_sl (ev_var rfl) eo_none (eo_some (ev_len (ev_var rfl) sp)) sq) (fun p2 H4 h4 e4 => rv_eqSs (ys := (splL b).take (splL a).length) (ex_l e4 sp) (sq_of (by rw [h4, List.length_map, cutV_to, List.map_take])))) fun _ => (ev_nendL (ev_var rfl) ha.1 ha.2)) fun H4 e4 => ?_
      have z := k H4 ((e1.trans E3).trans e4)
      unfold clL at z
      rw [if_neg (of_decide_eq_false h0), if_pos hl] at z
      exact z
    · refine zq_unpackN e2 (xs := [.ref q, .ref p, .str b]) ?_ rfl fun pt H3 hpt e3 h3 => ?_
      · intro H5 e5 Q5 q5
        refine (et_test (ev_op (ev_len (ev_var rfl) sp) (ev_len (ev_var rfl) sq) rvn_lt)) H5 e5 _ fun H6 e6 => ?_
        rw [List.length_map, List.length_map, decide_eq_false hl]
        exact (eu_tup (ea_cons (ev_var rfl) (ea_cons (ev_var rfl) (ea_cons (ev_var rfl) ea_nil))) (by show 3 ≤ 100000; decide)) H6 (e5.trans e6) _ fun p6 H7 hp6 e7 h7 => q5 p6 H7 (fresh_back e6 hp6) (e6.trans e7) h7
      refine ⟨_, _, rfl, _, _, rfl, _, _, rfl, rfl, ?_⟩
      have E3 := e2.trans e3
      refine z_ret E3 (ev_andV (ev_opL (ev_var rfl) (el_sl (ev_var rfl) eo_none (eo_some (ev_len (ev_var rfl) sq)) sp) (fun p2 H4 h4 e4 => rv_eqSs (ys := (splL a).take (splL b).length) (ex_l e4 sq) (sq_of (by rw [h4, List.length_map, cutV_to, List.map_take])))) fun _ => (ev_nendL (ev_var rfl) hb.1 hb.2)) fun H4 e4 => ?_
      have z := k H4 ((e1.trans E3).trans e4)
      unfold clL at z
      rw [if_neg (of_decide_eq_false h0), if_neg hl] at z
      exact z
end
end EL
set_option maxHeartbeats 4000000
/-! ### L4: what the law holds due; drawn paths -/
namespace EL
open PySem PySem.Spec PyProof.Rows L2 Evl
/-- pairs of texts, as tuples -/
def PrL (K : PySem.W.Frag) (F : Hp) (vs : List V) (ps : List (Str × Str)) : Prop := ∃ qs : List ((Str × Str) × V), qs.map (·.2) = vs ∧ qs.map (·.1) = ps ∧ ∀ y ∈ qs, FcV K F (some y.1) y.2
theorem PrL.mono {K : PySem.W.Frag} {F F1 : Hp} {vs : List V} {ps : List (Str × Str)} (h : PrL K F vs ps) (e : Ex F F1) : PrL K F1 vs ps := let ⟨qs, a, b, c⟩ := h; ⟨qs, a, b, fun y hy => (c y hy).mono e⟩
theorem duP_len (ns : List Str) : ∀ n, (duP ns n).length ≤ n * n
  | 0 => Nat.le_refl _
  | n + 1 => by
    have ih := duP_len ns n
    show (duP ns n ++ duS ns n).length ≤ _
    rw [List.length_append]
    have : (duS ns n).length ≤ n := by
      cases hy : ns[n]? with
      | none =>
        rw [duS_no hy]
        exact Nat.zero_le _
      | some y =>
        rw [duS_at hy, List.length_map]
        have h1 := List.length_filter_le (fun x => clL x y) (ns.take n)
        rw [List.length_take] at h1
        omega
    have e : (n + 1) * (n + 1) = n * n + n + n + 1 := by rw [Nat.succ_mul, Nat.mul_succ]; omega
    omega
section
variable {P : Program} {w : World} {K : PySem.W.Frag} {mg : Str → Option Value} {base : Heap} {A : Ads}
theorem sc__law_due : FnScope ["_law_titles", "_law_pairs", "_law_k", "_law_earlier"] ["_law_titles"] (defScope s__law_due) := C8.fnScope_by (by decide +kernel)
theorem c__law_due (T : Txt K mg A) : C8.Cal P w K mg base 3 "_law_due" (spD (A_due K)) [] := by
  have c__law_do_clash : C8.Cal P w K mg base 2 _ _ _ := c__law_do_clash T
  refine cal_of T.d__law_due sc__law_due (fun _ _ _ _ _ _ us hl => match us, hl with | [_], _ => rfl) (fun vs H Q E h => ?_) (fun f cdv A0 outer s H vs Q E hr h => ?_)
  · obtain ⟨D, F, n, c, R, ⟨a, ns, rfl, _⟩, _⟩ := h; rfl
  · obtain ⟨D, F, n, c, R, ⟨a, ns, rfl, hs, hl, hns, rfl, rfl⟩, w0, hn, k⟩ := h
    have sc := sc__law_due
    refine ⟨_, (pss_cons (ps_set (i := 1) sc.nd rfl (by first | exact Or.inl rfl | exact Or.inr rfl) (pe_lst pa_nil))
      (pss_cons (ps_for PassesOwn.never rfl (pi_range1 (by rfl) T.b_range (pa_cons (pe_callB (r := rLenS K) call_len_seq (by rfl) T.b_len boot_len (pa_cons (pv 0) pa_nil)) pa_nil)) (pg_name (i := 2) sc.nd rfl (by first | exact Or.inl rfl | exact Or.inr rfl))
        (pss_one (ps_set (i := 1) sc.nd rfl (by first | exact Or.inl rfl | exact Or.inr rfl) (pe_op op_cat (pv 1) (pe_lc (own := [("_law_earlier", 3)]) (g := gName 3) rfl sc.nd (pi_list (pe_slice sl_list (pv 0) po_none (po_some (pv 2)))) (blkOk_by (N := ["_law_titles", "_law_pairs", "_law_k", "_law_earlier"]) (sc := defScope s__law_due) (by decide +kernel)) (fun _ _ _ _ _ => pg_name (i := 3) sc.nd rfl (Or.inl rfl)) (fun _ _ _ _ _ => pts_one (pt_val (C8.pe_c c__law_do_clash hr (by decide) (by rfl) (pa_cons (pv 3) (pa_cons (pe_ix (r := rIxL K) ix_list (pv 0) (pv 2) (fun _ _ => rfl)) pa_nil))))) (fun _ _ _ _ _ => (pe_tup (pa_cons (pv 3) (pa_cons (pe_ix (r := rIxL K) ix_list (pv 0) (pv 2) (fun _ _ => rfl)) pa_nil)))))))))
      (pss_one (ps_ret (pe_ifExp (pt_cmpR (op_neE (hu0 hr)) (pv 1) (pe_lst pa_nil) (nomark _)) (pe_ix ix_list (pv 1) (pe_n 0) (fun _ _ => rfl)) pe_non))))), ?_⟩
    refine dq_asg (c := 0) w0 (ed_l (el_lst ea_nil (by decide))) (by omega) fun v F1 H1 g1 ⟨p0, hv, hp0⟩ => ?_
    subst hv
    refine zs_for (F := F1) (xs := vns (List.range ns.length)) g1.dw.ex (ei_rng1n (ea_cons (ev_is (ev_len (ev_var rfl) (ex_l g1.ex hs)) (by rw [List.length_map])) ea_nil) (by omega)) (fun i σ' H' => ∃ (G : Hp) (q : Addr) (us : List V) (x y : Option V), Go D n F H G H' ∧ Ex F1 G ∧ G q = some (.lst us) ∧ PrL K G us (duP ns i) ∧ σ' = [some (.ref a), some (.ref q), x, y]) (fun H2 e2 => ⟨F1, p0, [], none, none, g1.up e2, Ex.refl F1, hp0, ⟨[], rfl, rfl, fun y hy => absurd hy (by simp)⟩, rfl⟩) (fun i σ' H' ⟨G, q, us, x, y, g, h, _⟩ => h.trans g.dw.ex) (fun i x σ' H' hx hP => ?_) (fun σ' H' hP => ?_)
    · obtain ⟨G, q, us, x0, y0, g, hG, hq, hPr, rfl⟩ := hP
      rw [List.getElem?_map] at hx
      have hi : i < ns.length := by
        cases h : (List.range ns.length)[i]? with
        | none => rw [h] at hx; cases hx
        | some z =>
          have := (List.getElem?_eq_some_iff.mp h).1
          rwa [List.length_range] at this
      rw [List.getElem?_eq_getElem (by rw [List.length_range]; exact hi), List.getElem_range] at hx
      cases hx
      have hy : ns[i]? = some ns[i] := List.getElem?_eq_getElem hi
      have hix : atI (ns.map V.str) ((i : Nat) : Int) = some (.str ns[i]) := atI_nat (by rw [List.getElem?_map, hy] <;> rfl)
      have hsG := ex_l g.ex hs
      have hyl := hns _ (List.getElem_mem hi)
      have hul : us.length ≤ 10000 := by
        obtain ⟨qs, h1, h2, _⟩ := hPr
        have h3 := duP_len ns i
        rw [← h2, List.length_map] at h3
        rw [← h1, List.length_map]
        have : i * i ≤ 100 * 100 := Nat.mul_le_mul (by omega) (by omega)
        omega
      have htl : (ns.take i).length ≤ 100 := by rw [List.length_take]; omega
      show tAsg _ _ _ _ _
      refine d_asg (c := 0 + (ns.take i).length * 0) (R := fun v F3 => ∃ q us, v = .ref q ∧ F3 q = some (.lst us) ∧ PrL K F3 us (duP ns (i + 1))) g.dw (ed_op2 (c1 := 0) (c2 := (ns.take i).length * 0) (Rb := fun x F2 => ∃ (p : Addr) (ps : List (Str × V)), x = .ref p ∧ F2 p = some (.lst (ps.map (·.2))) ∧ ps.map (·.1) = (ns.take i).filter (fun x => clL x ns[i]) ∧ ∀ y ∈ ps, FcV K F2 (some (y.1, ns[i])) y.2) (ed_v (ev_var rfl)) (fun v1 F2 x2 r2 => ?_) (fun v1 v2 F2 F3 x2 x3 r1 hR2 => ?_)) (by omega) fun v F3 H3 g3 hR3 => ?_
      · exact ed_compNF (c := 0) (Rp := fun x v F3 => FcV K F3 (some (x, ns[i])) v) (ns.take i) V.str (fun x => clL x ns[i]) (ein_list (EvL.is (el_sl (ev_var rfl) eo_none (eo_some (ev_var rfl)) (ex_l x2 hsG)) (by rw [cutV_to, List.map_take]))) (by omega) (by intro _; rfl) (fun z v F3 F4 x h => h.mono x)
          (fun z hz F3 x3 => et_B (ev_call (ea_cons (ev_var rfl) (ea_cons (ev_op (ev_var rfl) (ev_var rfl) (rv_ixL (ex_l (x2.trans x3) hsG) hix)) ea_nil)) (spv_clL (hns z (List.mem_of_mem_take hz)) hyl)))
          (fun z hz F3 x3 => ED.mono (ed_u (eu_tup (ea_cons (ev_var rfl) (ea_cons (ev_op (ev_var rfl) (ev_var rfl) (rv_ixL (ex_l (x2.trans x3) hsG) hix)) ea_nil)) (by show 2 ≤ 100000; decide))) (Nat.le_refl _) fun v F4 x4 ⟨p, e, h⟩ => ⟨p, e, st_of h⟩)
      · obtain ⟨p2, ps, hv2, hp2, hps, hR⟩ := hR2
        subst r1
        subst hv2
        have hpl : ps.length ≤ 100 := by
          have h1 := congrArg List.length hps
          have h2 := List.length_filter_le (fun x => clL x ns[i]) (ns.take i)
          rw [List.length_map] at h1
          omega
        intro n5 H5 w5 Q5 q5
        refine rd_cat ((x2.trans x3) _ _ hq) hp2 (by rw [List.length_map]; omega) n5 H5 w5 Q5 fun v F5 H6 g5 ⟨p5, e5, h5⟩ => q5 v F5 H6 g5 ⟨p5, _, e5, h5, ?_⟩
        obtain ⟨qs, a1, a2, a3⟩ := hPr
        refine ⟨qs ++ ps.map (fun y => ((y.1, ns[i]), y.2)), ?_, ?_, fun y hy => ?_⟩
        · rw [List.map_append, a1, List.map_map] <;> rfl
        · rw [List.map_append, a2, List.map_map]
          show duP ns i ++ ps.map (fun y => (y.1, ns[i])) = duP ns i ++ duS ns i
          rw [duS_at hy]
          rw [← hps, List.map_map] <;> rfl
        · rcases List.mem_append.mp hy with h | h
          · exact (a3 y h).mono ((x2.trans x3).trans g5.ex)
          · obtain ⟨z, hz, rfl⟩ := List.mem_map.mp h
            exact (hR z hz).mono g5.ex
      · obtain ⟨q3, us3, hv3, hq3, hPr3⟩ := hR3
        subst hv3
        exact ⟨F3, q3, us3, some (vn i), y0, (g.trans g3).more (by omega), hG.trans g3.ex, hq3, hPr3, rfl⟩
    · obtain ⟨G, q, us, x0, y0, g, hG, hq, hPr, rfl⟩ := hP
      have hlen : (vns (List.range ns.length)).length = ns.length := by rw [List.length_map, List.length_range]
      rw [hlen] at hPr
      obtain ⟨qs, a1, a2, a3⟩ := hPr
      have hh := duP_head (ns := ns) (fun w hw => (hns w hw).1) ns.length
      refine (et_test (ev_opL (ev_var rfl) (el_lst ea_nil (by decide)) fun p3 H3 h3 e3 => rv_neE (ex_l e3 (sq_of hq)) (sq_of h3))) H' g.dw.ex _ fun H3 e3 => ?_
      cases us with
      | nil =>
        have hq0 : qs = [] := List.map_eq_nil_iff.mp a1
        rw [hq0] at a2
        rw [← a2] at hh
        dsimp only
        rw [if_neg (show ¬ (!([] : List V).isEmpty) = true by decide)]
        refine k V.non G H3 ((g.up e3).more (by omega)) ?_
        rw [← hh]
        exact rfl
      | cons u us =>
        cases qs with
        | nil => cases a1
        | cons y qs =>
          have e1 : y.2 = u := by
            have := a1
            rw [List.map_cons] at this
            exact (List.cons.inj this).1
          rw [← a2] at hh
          dsimp only
          rw [if_pos (show (!(u :: us).isEmpty) = true from rfl)]
          refine (ev_op (ev_var rfl) ev_c (rv_ixL (v := u) (sq_of hq) (atI_nat (j := 0) rfl))) H3 (g.dw.ex.trans e3) _ fun H4 e4 => ?_
          refine k u G H4 (((g.up e3).up e4).more (by omega)) ?_
          rw [← hh]
          show FcV K G (some y.1) u
          rw [← e1]
          exact a3 y List.mem_cons_self
end
end EL
set_option maxHeartbeats 4000000
/-! ### L5: drawn paths -/
namespace EL
open PySem PySem.Spec PyProof.Rows L2 Evl
/-- a good name, not long -/
def TiOk (w : Str) : Prop := txtOk w = true ∧ 1 ≤ w.length ∧ w.length ≤ 13
theorem TiOk.name {w : Str} (h : TiOk w) : nameOk w = true := by
  unfold nameOk
  rw [h.1, decide_eq_true h.2.1, decide_eq_true (Nat.le_trans h.2.2 (by decide))] <;> rfl
def A_paths (K : PySem.W.Frag) : Dp → Nat → List V → Hp → (V → Hp → Prop) → Prop := fun D c vs F R => ∃ m : Nat, vs = [.ref D.d, vn m] ∧ m ≤ 20 ∧ c = m * 7 ∧ R = fun v F2 => ∃ p xs, v = .ref p ∧ F2 p = some (.lst xs) ∧ ∃ ns : List Str, xs = ns.map V.str ∧ ns.length ≤ m ∧ ns.Nodup ∧ ∀ w ∈ ns, TiOk w
theorem spd_paths {K : PySem.W.Frag} {D : Dp} {F : Hp} {m : Nat} (h : m ≤ 20) : SpD D (m * 7) (spD (A_paths K)) [.ref D.d, vn m] F (fun v F2 => ∃ p xs, v = .ref p ∧ F2 p = some (.lst xs) ∧ ∃ ns : List Str, xs = ns.map V.str ∧ ns.length ≤ m ∧ ns.Nodup ∧ ∀ w ∈ ns, TiOk w) := spd_of ⟨m, rfl, h, rfl, rfl⟩
def parts5 : List Str := ["a", "b", "c", "ab", "a b"]
def odd8 : List Str := [".", "a/..", "/a", "a//b", "/", "../a", "a/./b", "..."]
def tiB (w : Str) : Bool := txtOk w && decide (1 ≤ w.length) && decide (w.length ≤ 13)
theorem tiB_ok {w : Str} (h : tiB w = true) : TiOk w := by
  unfold tiB at h
  rw [Bool.and_eq_true, Bool.and_eq_true, decide_eq_true_eq, decide_eq_true_eq] at h
  exact ⟨h.1.1, h.1.2, h.2⟩
theorem odd8_ok : ∀ w ∈ odd8, TiOk w := by
  have : odd8.all tiB = true := by decide +kernel
  exact fun w hw => tiB_ok (List.all_eq_true.mp this w hw)
def ptB (w : Str) : Bool := txtOk w && decide (1 ≤ w.length) && decide (w.length ≤ 3)
theorem parts5_ok : ∀ w ∈ parts5, txtOk w = true ∧ 1 ≤ w.length ∧ w.length ≤ 3 := by
  have : parts5.all ptB = true := by decide +kernel
  intro w hw
  have h := List.all_eq_true.mp this w hw
  unfold ptB at h
  rw [Bool.and_eq_true, Bool.and_eq_true, decide_eq_true_eq, decide_eq_true_eq] at h
  exact ⟨h.1.1, h.1.2, h.2⟩
theorem joinL_ge {S : List Nat} : ∀ {yss : List (List Nat)} {y : List Nat}, y ∈ yss → y.length ≤ (TL.joinL S yss).length
  | [p], y, h => by
    rw [List.mem_singleton.mp h]
    exact Nat.le_refl _
  | p :: q :: r, y, h => by
    show y.length ≤ (p ++ (S ++ TL.joinL S (q :: r))).length
    rw [List.length_append, List.length_append]
    rcases List.mem_cons.mp h with e | e
    · rw [e]; omega
    · have := joinL_ge (S := S) e
      omega
theorem join_ge {x y : Str} {ys : List Str} (h : y ∈ ys) : y.length ≤ (Txt.join x ys).length := by
  have e := TL.tl_join x ys
  rw [← TL.join_eq] at e
  have h1 := joinL_ge (S := TL.tl x) (List.mem_map_of_mem (f := TL.tl) h)
  rw [← e] at h1
  have l : ∀ z : Str, (TL.tl z).length = z.length := fun z => by unfold TL.tl; simp [Str.length]
  rwa [l, l] at h1
theorem txt_app {a b : Str} (ha : txtOk a = true) (hb : txtOk b = true) : txtOk (a ++ b) = true := by
  unfold txtOk at *
  have : (a ++ b).cps.toList = a.cps.toList ++ b.cps.toList := by
    show (a.cps ++ b.cps).toList = _
    simp
  rw [this, List.all_append, ha, hb] <;> rfl
theorem len_app {a b : Str} : (a ++ b).length = a.length + b.length := by
  show (a.cps ++ b.cps).size = _
  simp [Str.length]
/-- a path of one to three parts, a stroke behind it or none -/
theorem path_ok {ys : List Str} {b : Bool} (h1 : 1 ≤ ys.length) (h3 : ys.length ≤ 3) (hy : ∀ y ∈ ys, y ∈ parts5) : TiOk (Txt.join "/" ys ++ (if b = true then ("/" : Str) else Str.empty)) := by
  have hs : txtOk ("/" : Str) = true := by decide +kernel
  have h0 : ("/" : Str).length = 1 := by decide +kernel
  have he : txtOk Str.empty = true := by decide +kernel
  have e0 : Str.empty.length = 0 := rfl
  have hj : txtOk (Txt.join "/" ys) = true := by
    unfold txtOk
    rw [List.all_eq_true]
    intro c hc
    rcases join_mem hc with h | ⟨y, hym, h⟩
    · exact List.all_eq_true.mp hs c h
    · exact List.all_eq_true.mp (parts5_ok y (hy y hym)).1 c h
  have hl := join_len (x := "/") (ys := ys)
  have hsum := sum_len (B := 3) (ys := ys) fun y hym => (parts5_ok y (hy y hym)).2.2
  rw [h0, Nat.mul_one] at hl
  have hg : 1 ≤ (Txt.join "/" ys).length := by
    cases ys with
    | nil => cases h1
    | cons y ys =>
      have := join_ge (x := "/") (y := y) (ys := y :: ys) List.mem_cons_self
      have := (parts5_ok y (hy y List.mem_cons_self)).2.1
      omega
  refine ⟨txt_app hj (by split <;> assumption), ?_, ?_⟩
  · rw [len_app]; omega
  · rw [len_app]
    split
    · rw [h0]; omega
    · rw [e0]; omega
theorem inV_strs {x : Str} {ns : List Str} : inV (.str x) (ns.map V.str) = decide (x ∈ ns) := by
  unfold inV
  rw [List.any_map, Bool.eq_iff_iff, List.any_eq_true, decide_eq_true_eq]
  constructor
  · rintro ⟨y, hy, e⟩
    have e : (y == x) = true := e
    rw [beq_iff_eq.mp e] at hy
    exact hy
  · intro h
    exact ⟨x, h, by show (x == x) = true; simp⟩
section
variable {P : Program} {w : World} {K : PySem.W.Frag} {mg : Str → Option Value} {base : Heap} {A : Ads}
theorem sc__law_paths : FnScope ["_law_draw", "_law_many", "_law_found", "_law_k", "_law_path", "_law_turn", "_law_title"] ["_law_draw", "_law_many"] (defScope s__law_paths) := C8.fnScope_by (by decide +kernel)
theorem c__law_paths (T : Txt K mg A) : C8.Cal P w K mg base 3 "_law_paths" (spD (A_paths K)) [] := by
  have c__law_pick : C8.Cal P w K mg base 2 _ _ _ := c__law_pick T
  have c__law_next : C8.Cal P w K mg base 1 _ _ _ := c__law_next T
  refine cal_of T.d__law_paths sc__law_paths (fun _ _ _ _ _ _ us hl => match us, hl with | [_, _], _ => rfl) (fun vs H Q E h => ?_) (fun f cdv A0 outer s H vs Q E hr h => ?_)
  · obtain ⟨D, F, n, c, R, ⟨m, rfl, _⟩, _⟩ := h; rfl
  · obtain ⟨D, F, n, c, R, ⟨m, rfl, hm, rfl, rfl⟩, w0, hn, k⟩ := h
    have sc := sc__law_paths
    refine ⟨_, (pss_cons (ps_set (i := 2) sc.nd rfl (by first | exact Or.inl rfl | exact Or.inr rfl) (pe_lst pa_nil))
      (pss_cons (ps_for PassesOwn.never rfl (pi_range1 (by rfl) T.b_range (pa_cons (pv 1) pa_nil)) (pg_name (i := 3) sc.nd rfl (by first | exact Or.inl rfl | exact Or.inr rfl))
        (pss_cons (ps_setLc (i := 4) (own := [("_law_turn", 5)]) (g := gName 5) rfl sc.nd rfl rfl (sw_true rfl rfl rfl (by decide +kernel)) (pi_range1 (by rfl) T.b_range (pa_cons (pe_op op_add (pe_n 1) (C8.pe_c c__law_next hr (by decide) (by rfl) (pa_cons (pv 0) (pa_cons (pe_n 3) pa_nil)))) pa_nil)) (blkOk_by (N := ["_law_draw", "_law_many", "_law_found", "_law_k", "_law_path", "_law_turn", "_law_title"]) (sc := defScope s__law_paths) (by decide +kernel)) (fun _ _ _ _ _ => pg_name (i := 5) sc.nd rfl (Or.inl rfl)) (fun _ _ _ _ _ => pts_nil) (fun _ _ _ _ _ => (C8.pe_c c__law_pick hr (by decide) (by rfl) (pa_cons (pv 0) (pa_cons (pe_lst (pa_cons pe_str (pa_cons pe_str (pa_cons pe_str (pa_cons pe_str (pa_cons pe_str pa_nil)))))) pa_nil)))))
          (pss_cons (ps_set (i := 6) sc.nd rfl (by first | exact Or.inl rfl | exact Or.inr rfl) (pe_op op_add_str (pe_join pe_str (pv 4)) (pe_op op_mulS pe_str (pe_callTy call_int1 (by rfl) T.b_int boot_int (pa_cons (pe_cmpR op_eq (C8.pe_c c__law_next hr (by decide) (by rfl) (pa_cons (pv 0) (pa_cons (pe_n 4) pa_nil))) (pe_n 0) (nomark _)) pa_nil)))))
          (pss_cons (ps_if (pt_cmpR op_eq (C8.pe_c c__law_next hr (by decide) (by rfl) (pa_cons (pv 0) (pa_cons (pe_n 12) pa_nil))) (pe_n 0) (nomark _)) (pss_one (ps_set (i := 6) sc.nd rfl (by first | exact Or.inl rfl | exact Or.inr rfl) (C8.pe_c c__law_pick hr (by decide) (by rfl) (pa_cons (pv 0) (pa_cons (pe_lst (pa_cons pe_str (pa_cons pe_str (pa_cons pe_str (pa_cons pe_str (pa_cons pe_str (pa_cons pe_str (pa_cons pe_str (pa_cons pe_str pa_nil))))))))) pa_nil))))) pss_nil)
          (pss_one (ps_if (pt_cmpR op_notIn_seq (pv 6) (pv 2) (by rfl)) (pss_one (ps_expr (pe_bm PySem.F.plainAttrs_list PySem.F.slot_list_append PySem.F.type_list_append mt_append (pv 2) (pa_cons (pv 6) pa_nil)))) pss_nil))))))
      (pss_one (ps_ret (pv 2))))), ?_⟩
    refine zq_asgL w0.ex (el_lst ea_nil (by decide)) fun p H1 hp e1 hp1 => ?_
    have g1 := w0.go e1
    have fp : F p = none := fresh_back w0.ex hp
    refine zs_for (F := F) (xs := vns (List.range m)) g1.dw.ex (ei_rng1n (ea_cons (ev_var rfl) ea_nil) (by omega)) (fun i σ' H' => ∃ (G : Hp) (ns : List Str) (a b c d : Option V), Go D (n + i * 7) F H G H' ∧ G p = none ∧ H' p = some (.lst (ns.map V.str)) ∧ ns.length ≤ i ∧ ns.Nodup ∧ (∀ w ∈ ns, TiOk w) ∧ σ' = [some (.ref D.d), some (vn m), some (.ref p), a, b, c, d]) (fun H2 e2 => ⟨F, [], none, none, none, none, by rw [Nat.zero_mul]; exact g1.up e2, fp, e2 _ _ hp1, Nat.le_refl _, List.nodup_nil, fun w hw => absurd hw (by simp), rfl⟩) (fun i σ' H' ⟨G, ns, a, b, c, d, g, _⟩ => g.ex.trans g.dw.ex) (fun i x σ' H' hx hP => ?_) (fun σ' H' hP => ?_)
    · obtain ⟨G, ns, a, b, c, d, g, gp, hpl, hl, nd, ok, rfl⟩ := hP
      have hi : i < m := by
        have := (List.getElem?_eq_some_iff.mp hx).1
        rwa [List.length_map, List.length_range] at this
      have hstep : (i + 1) * 7 = i * 7 + 7 := Nat.succ_mul i 7
      have hmul : (i + 1) * 7 ≤ m * 7 := Nat.mul_le_mul_right 7 hi
      show tSeq (tAsg _ _) _ _ _ _
      -- the parts
      refine dq_asg (c := 1 + 3 * 1) (R := fun v F2 => ∃ q xs, v = .ref q ∧ F2 q = some (.lst xs) ∧ xs.length ≤ 3 ∧ 1 ≤ xs.length ∧ ∀ y ∈ xs, ∃ z, z ∈ parts5 ∧ y = .str z) g.dw ?_ (by omega) fun v F2 H2 g2 hR2 => ?_
      · refine ED.mono (ed_compRP (c1 := 1) (c := 1) (M := 3) (Pm := fun m => 1 ≤ m) (R := fun v _ => ∃ z, z ∈ parts5 ∧ v = .str z) (eda_cons (Ra := fun v _ => ∃ r : Nat, r < 3 ∧ v = vn (1 + r)) (c1 := 1) (c2 := 0) (ed_addn (ev_var rfl) (by decide) (by decide)) (fun _ _ _ _ => eda_nil) (fun v1 vs F2 F3 x2 x3 ⟨r, h, e⟩ e2 => ⟨1 + r, by rw [e, e2], by omega, by omega⟩)) (by decide) (by intro _; rfl) (fun _ _ _ _ h => h) (fun z F2 x2 => ?_)) (by decide) (fun v F2 _ ⟨p, xs, h1, h2, h3, h4, h5⟩ => ⟨p, xs, h1, h2, h3, h4, h5⟩)
        exact ED.mono (ed_call (c1 := 0) (c2 := 1) (Rs := fun vs F3 => ∃ q, vs = [.ref D.d, .ref q] ∧ F3 q = some (.lst (parts5.map V.str))) (eda_cons (c1 := 0) (c2 := 0) (ed_v (ev_var rfl)) (fun _ F3 x3 _ => eda_cons (c1 := 0) (c2 := 0) (ed_l (el_lst (ea_cons ev_c (ea_cons ev_c (ea_cons ev_c (ea_cons ev_c (ea_cons ev_c ea_nil))))) (by show 5 ≤ 100000; decide))) (fun _ _ _ _ => eda_nil) (Rz := fun vs F3 => ∃ q, vs = [.ref q] ∧ F3 q = some (.lst (parts5.map V.str))) (fun v vs F4 F5 x4 x5 ⟨q, h1, h2⟩ h3 => ⟨q, by rw [h1, h3], x5 _ _ h2⟩)) (fun v vs F4 F5 x4 x5 h1 ⟨q, h2, h3⟩ => ⟨q, by rw [h1, h2], h3⟩)) (fun vs F4 x4 ⟨q, h1, h2⟩ => by rw [h1]; exact spd_pickL (sq_of h2) (by decide) (by decide))) (Nat.le_refl _) fun v F3 _ h => by
          obtain ⟨z, hz, e⟩ := List.mem_map.mp h
          exact ⟨z, hz, e.symm⟩
      obtain ⟨q, xs, hv, hq, hl3, hl1, hxs⟩ := hR2
      subst hv
      obtain ⟨ys, rfl, hys⟩ := strs_of (P := fun z => z ∈ parts5) (fun v hv => let ⟨z, a, b⟩ := hxs v hv; ⟨z, b, a⟩)
      rw [List.length_map] at hl3 hl1
      have g12 := g.trans g2
      obtain ⟨hp2, gp2⟩ := g2.keep w0 hp gp hpl
      -- the title
      refine dq_asg (c := 0 + 1) (R := fun v _ => ∃ z, TiOk z ∧ v = .str z) g12.dw (ed_op (c1 := 0) (c2 := 0 + 1) (Ra := fun v _ => v = .str (Txt.join "/" ys)) (Rb := fun v _ => ∃ b : Bool, v = .str (if b = true then ("/" : Str) else Str.empty)) ?_ (fun v1 F3 x3 r3 => ?_) (fun v1 v2 F3 F4 x3 x4 r1 hr2 => ?_)) (by omega) fun v F3 H3 g3 hR3 => ?_
      · refine ed_v ?_
        intro H4 e4 Q4 q4
        refine ⟨⟨_, rfl⟩, ?_⟩
        show tVar 4 _ _ _
        refine ⟨_, rfl, ?_⟩
        have := sum_len (B := 3) (ys := ys) fun y hym => (parts5_ok y (hys y hym)).2.2
        refine ⟨_, q, ys, rfl, rfl, .inl (sq_of (e4 _ _ hq)), ?_, q4 H4 (Ex.refl H4)⟩
        have h0 : ("/" : Str).length = 1 := by decide +kernel
        rw [h0]
        omega
      · refine ed_op (c1 := 0) (c2 := 1) (Ra := fun v _ => v = .str "/") (Rb := fun v _ => ∃ b : Bool, v = vn (b2n b)) (ed_v ev_c) (fun v5 F5 x5 r5 => ?_) (fun v5 v6 F5 F6 x5 x6 r5 ⟨b, r6⟩ => by subst r5; subst r6; exact ⟨_, rv_mulS, b, rfl⟩)
        intro n6 H6 w6 hn6 Q6 q6
        refine (eda_cons (c1 := 1) (c2 := 0) (Ra := fun v _ => ∃ b : Bool, v = .bl b ∧ True) (Rs := fun vs _ => vs = []) (Rz := fun vs _ => ∃ b : Bool, vs = [.bl b]) (ed_next0 (ev_var rfl) (by decide) (by decide)) (fun _ _ _ _ => eda_nil) (fun v1 vs F2 F3 x2 x3 ⟨b, e, _⟩ e2 => ⟨b, by rw [e, e2]⟩)) n6 H6 w6 (by omega) _ fun vs F7 H7 g7 ⟨b, e⟩ => ?_
        subst e
        exact .inr ⟨b, rfl, q6 _ F7 H7 g7 ⟨b, by cases b <;> rfl⟩⟩
      · obtain ⟨b, hb⟩ := hr2
        subst r1
        subst hb
        have ok1 := path_ok (b := b) hl1 hl3 hys
        refine ⟨_, rv_adds ?_, _, ok1, rfl⟩
        have := ok1.2.2
        rw [len_app] at this
        omega
      obtain ⟨z, hz, hv⟩ := hR3
      subst hv
      have g13 := g12.trans g3
      obtain ⟨hp3, gp3⟩ := g3.keep w0 hp gp2 hp2
      -- the last part
      have last : ∀ (z : Str) (c d : Option V) (G4 H4 : Hp) (t : Nat), TiOk z → Go D (n + i * 7 + 7) F H G4 H4 → G4 p = none → H4 p = some (.lst (ns.map V.str)) → ∀ (Dn : Ends), (∀ (ns2 : List Str) (H5 : Hp), Go D (n + i * 7 + 7) F H G4 H5 → H5 p = some (.lst (ns2.map V.str)) → ns2.length ≤ i + 1 → ns2.Nodup → (∀ w ∈ ns2, TiOk w) → Dn.nx [some (.ref D.d), some (vn m), some (.ref p), c, some (.ref q), d, some (.str z)] H5) →
          tIfS (tTest (tOp (rIn K true) (tVar 6) (tVar 2))) (tDrop (tBM K "list" rAppend (tVar 2) (tCons (tVar 6) tNil))) tNext Dn [some (.ref D.d), some (vn m), some (.ref p), c, some (.ref q), d, some (.str z)] H4 := by
        intro z c d G4 H4 t hz g4 gp4 hp4 Dn kk
        refine z_if (Ex.refl H4) (et_test (ev_op (ev_var rfl) (ev_var rfl) (rv_niL (sq_of hp4) rfl (by rw [List.all_map, List.all_eq_true]; exact fun _ _ => rfl)))) (fun hb H5 e5 => ?_) (fun hb H5 e5 => ?_)
        · rw [inV_strs] at hb
          have hnot : z ∉ ns := by
            have := hb
            simpa using this
          refine s_app (e5 _ _ hp4) (ev_var rfl) (ev_var rfl) (by rw [List.length_map]; omega) fun H6 e6 => ?_
          refine kk (ns ++ [z]) _ (((g4.up e5).up e6).mut w0 hp gp4) (by rw [List.map_append]; exact upd_same) (by rw [List.length_append]; show ns.length + 1 ≤ _; omega) ?_ (fun w hw => ?_)
          · refine List.nodup_append.mpr ⟨nd, by simp, fun a ha b hb e => ?_⟩
            rw [List.mem_singleton.mp hb] at e
            exact hnot (by rw [← e]; exact ha)
          · rcases List.mem_append.mp hw with h | h
            · exact ok w h
            · rw [List.mem_singleton.mp h]; exact hz
        · exact kk ns H5 (g4.up e5) (e5 _ _ hp4) (by omega) nd ok
      refine dq_when (c := 1) g13.dw (edt_testR (ed_next0 (ev_var rfl) (by decide) (by decide))) (by omega) (fun F4 H4 g4 _ => ?_) (fun F4 H4 g4 _ => ?_)
      · obtain ⟨hp4, gp4⟩ := g4.keep w0 hp gp3 hp3
        show tAsg _ _ _ _ _
        refine d_asg (c := 0 + 1) (R := fun v _ => ∃ z, z ∈ odd8 ∧ v = .str z) g4.dw ?_ (by omega) fun v F5 H5 g5 hR5 => ?_
        · exact ED.mono (ed_call (c1 := 0) (c2 := 1) (Rs := fun vs F3 => ∃ q, vs = [.ref D.d, .ref q] ∧ F3 q = some (.lst (odd8.map V.str))) (eda_cons (c1 := 0) (c2 := 0) (ed_v (ev_var rfl)) (fun _ F3 x3 _ => eda_cons (c1 := 0) (c2 := 0) (ed_l (el_lst (ea_cons ev_c (ea_cons ev_c (ea_cons ev_c (ea_cons ev_c (ea_cons ev_c (ea_cons ev_c (ea_cons ev_c (ea_cons ev_c ea_nil)))))))) (by show 8 ≤ 100000; decide))) (fun _ _ _ _ => eda_nil) (Rz := fun vs F3 => ∃ q, vs = [.ref q] ∧ F3 q = some (.lst (odd8.map V.str))) (fun v vs F4 F5 x4 x5 ⟨q, h1, h2⟩ h3 => ⟨q, by rw [h1, h3], x5 _ _ h2⟩)) (fun v vs F4 F5 x4 x5 h1 ⟨q, h2, h3⟩ => ⟨q, by rw [h1, h2], h3⟩)) (fun vs F4 x4 ⟨q, h1, h2⟩ => by rw [h1]; exact spd_pickL (sq_of h2) (by decide) (by decide))) (Nat.le_refl _) fun v F3 _ h => by
            obtain ⟨z, hz, e⟩ := List.mem_map.mp h
            exact ⟨z, hz, e.symm⟩
        obtain ⟨z2, hz2, hv⟩ := hR5
        subst hv
        obtain ⟨hp5, gp5⟩ := g5.keep w0 hp gp4 hp4
        have g15 := (g13.trans g4).trans g5
        refine last z2 _ _ F5 H5 0 (odd8_ok z2 hz2) (g15.more (by omega)) gp5 hp5 _ fun ns2 H6 g6 hp6 hl6 nd6 ok6 => ?_
        exact ⟨F5, ns2, _, _, _, _, g6.more (by omega), gp5, hp6, hl6, nd6, ok6, rfl⟩
      · obtain ⟨hp4, gp4⟩ := g4.keep w0 hp gp3 hp3
        refine last z _ _ F4 H4 0 hz ((g13.trans g4).more (by omega)) gp4 hp4 _ fun ns2 H6 g6 hp6 hl6 nd6 ok6 => ?_
        exact ⟨F4, ns2, _, _, _, _, g6.more (by omega), gp4, hp6, hl6, nd6, ok6, rfl⟩
    · obtain ⟨G, ns, a, b, c, d, g, gp, hpl, hl, nd, ok, rfl⟩ := hP
      have hlen : (vns (List.range m)).length = m := by rw [List.length_map, List.length_range]
      rw [hlen] at g hl
      refine z_ret (F := H') (Ex.refl H') (ev_var rfl) fun H2 e2 => ?_
      have g2 := (g.up e2).fin w0 hp gp (e2 _ _ hpl)
      exact k _ _ H2 g2 ⟨p, _, rfl, upd_same, ns, rfl, hl, nd, ok⟩
end
end EL
set_option maxHeartbeats 4000000
/-! ### L6: drawn entries of paths; a drawn sequence -/
namespace EL
open PySem PySem.Spec PyProof.Rows L2 Evl
def A_pathE (K : PySem.W.Frag) : Dp → Nat → List V → Hp → (V → Hp → Prop) → Prop := fun D c vs F R => ∃ m : Nat, vs = [.ref D.d, vn m] ∧ m ≤ 20 ∧ c = m * 7 + m * 63 ∧ R = fun v F2 => ∃ (p : Addr) (ps : List (V × Ent)), v = .ref p ∧ F2 p = some (.lst (ps.map (·.1))) ∧ LEs K F2 ps ∧ EsOk (ps.map (·.2)) ∧ (∀ y ∈ ps, TiOk y.2.name) ∧ ps.length ≤ m
theorem spd_pathE {K : PySem.W.Frag} {D : Dp} {F : Hp} {m : Nat} (h : m ≤ 20) : SpD D (m * 7 + m * 63) (spD (A_pathE K)) [.ref D.d, vn m] F (fun v F2 => ∃ (p : Addr) (ps : List (V × Ent)), v = .ref p ∧ F2 p = some (.lst (ps.map (·.1))) ∧ LEs K F2 ps ∧ EsOk (ps.map (·.2)) ∧ (∀ y ∈ ps, TiOk y.2.name) ∧ ps.length ≤ m) := spd_of ⟨m, rfl, h, rfl, rfl⟩
def A_shuf (K : PySem.W.Frag) : Dp → Nat → List V → Hp → (V → Hp → Prop) → Prop := fun D c vs F R => ∃ (a : Addr) (xs : List V), vs = [.ref D.d, .ref a] ∧ SqL K F a xs ∧ xs.length ≤ 1000 ∧ c = xs.length ∧ R = fun v F2 => ∃ p ys, v = .ref p ∧ F2 p = some (.lst ys) ∧ List.Perm ys xs
theorem spd_shuf {K : PySem.W.Frag} {D : Dp} {F : Hp} {a : Addr} {xs : List V} (h : SqL K F a xs) (h2 : xs.length ≤ 1000) : SpD D xs.length (spD (A_shuf K)) [.ref D.d, .ref a] F (fun v F2 => ∃ p ys, v = .ref p ∧ F2 p = some (.lst ys) ∧ List.Perm ys xs) := spd_of ⟨a, xs, rfl, h, h2, rfl, rfl⟩
theorem erase_perm {ls : List V} {r : Nat} (hr : r < ls.length) : List.Perm ([ls[r]] ++ ls.eraseIdx r) ls := by
  have h := List.perm_middle (a := ls[r]) (l₁ := ls.take r) (l₂ := ls.drop (r + 1))
  have e : ls.take r ++ ls[r] :: ls.drop (r + 1) = ls := by
    rw [← List.drop_eq_getElem_cons hr, List.take_append_drop]
  rw [e] at h
  rw [List.eraseIdx_eq_take_drop_succ]
  exact h.symm
theorem LEs.mono {K : PySem.W.Frag} {F F1 : Hp} {ps : List (V × Ent)} (h : LEs K F ps) (x : Ex F F1) : LEs K F1 ps := fun p hp => (h p hp).mono x
section
variable {P : Program} {w : World} {K : PySem.W.Frag} {mg : Str → Option Value} {base : Heap} {A : Ads}
theorem sc__law_path_entries : FnScope ["_law_draw", "_law_many", "_law_found", "_law_title", "_law_one"] ["_law_draw", "_law_many"] (defScope s__law_path_entries) := C8.fnScope_by (by decide +kernel)
theorem c__law_path_entries (T : Txt K mg A) : C8.Cal P w K mg base 5 "_law_path_entries" (spD (A_pathE K)) [] := by
  have c__law_paths : C8.Cal P w K mg base 3 _ _ _ := c__law_paths T
  have c__law_entry : C8.Cal P w K mg base 4 _ _ _ := c__law_entry T
  have c__law_next : C8.Cal P w K mg base 1 _ _ _ := c__law_next T
  refine cal_of T.d__law_path_entries sc__law_path_entries (fun _ _ _ _ _ _ us hl => match us, hl with | [_, _], _ => rfl) (fun vs H Q E h => ?_) (fun f cdv A0 outer s H vs Q E hr h => ?_)
  · obtain ⟨D, F, n, c, R, ⟨m, rfl, _⟩, _⟩ := h; rfl
  · obtain ⟨D, F, n, c, R, ⟨m, rfl, hm, rfl, rfl⟩, w0, hn, k⟩ := h
    have sc := sc__law_path_entries
    refine ⟨_, (pss_cons (ps_set (i := 2) sc.nd rfl (by first | exact Or.inl rfl | exact Or.inr rfl) (pe_lst pa_nil))
      (pss_cons (ps_for PassesOwn.never rfl (pi_list (C8.pe_c c__law_paths hr (by decide) (by rfl) (pa_cons (pv 0) (pa_cons (pv 1) pa_nil)))) (pg_name (i := 3) sc.nd rfl (by first | exact Or.inl rfl | exact Or.inr rfl))
        (pss_cons (ps_set (i := 4) sc.nd rfl (by first | exact Or.inl rfl | exact Or.inr rfl) (C8.pe_c c__law_entry hr (by decide) (by rfl) (pa_cons (pv 0) (pa_cons (pv 3) (pa_cons (pe_n 6) pa_nil)))))
          (pss_cons (ps_if (PW.pt (pw_and (pt_cmpR op_eq (pe_ix ix_str (pv 3) (pe_un un_neg (pe_n 1)) (fun _ _ => rfl)) pe_str (nomark _)) (pw_and1 (pt_cmpR op_gt (C8.pe_c c__law_next hr (by decide) (by rfl) (pa_cons (pv 0) (pa_cons (pe_n 8) pa_nil))) (pe_n 0) (nomark _))))) (pss_one (ps_set (i := 4) sc.nd rfl (by first | exact Or.inl rfl | exact Or.inr rfl) (pe_tup (pa_cons (pv 3) (pa_cons (pe_lst pa_nil) (pa_cons (pe_ix ix_tup (pv 4) (pe_n 2) (fun _ _ => rfl)) (pa_cons (pe_ix ix_tup (pv 4) (pe_n 3) (fun _ _ => rfl)) pa_nil))))))) pss_nil)
          (pss_one (ps_expr (pe_bm PySem.F.plainAttrs_list PySem.F.slot_list_append PySem.F.type_list_append mt_append (pv 2) (pa_cons (pv 4) pa_nil)))))))
      (pss_one (ps_ret (pv 2))))), ?_⟩
    refine zq_asgL w0.ex (el_lst ea_nil (by decide)) fun p H1 hp e1 hp1 => ?_
    have g1 := w0.go e1
    have fp : F p = none := fresh_back w0.ex hp
    refine zs_forD (F := F) (c := m * 7) g1.dw (ED.mono (ed_call (c1 := 0) (c2 := m * 7) (eda_v (ea_cons (ev_var rfl) (ea_cons (ev_var rfl) ea_nil))) (fun vs F2 x2 r => by rw [r]; exact spd_paths hm)) (by omega) fun v F2 _ h => h) (by omega) fun q xs F2 H2 g2 hq hR => ?_
    obtain ⟨ns, rfl, hnl, hnd, hok⟩ := hR
    have g12 := g1.trans g2
    obtain ⟨hp2, gp2⟩ := g2.keep w0 hp fp hp1
    refine ⟨fun i σ' H' => ∃ (G : Hp) (ps : List (V × Ent)) (a b : Option V), Go D (n + m * 7 + i * 63) F H G H' ∧ Ex F2 G ∧ G p = none ∧ H' p = some (.lst (ps.map (·.1))) ∧ LEs K G ps ∧ ps.map (·.2.name) = ns.take i ∧ (∀ y ∈ ps, y.2.Ok) ∧ i ≤ ns.length ∧ σ' = [some (.ref D.d), some (vn m), some (.ref p), a, b], ⟨F2, [], none, none, by rw [Nat.zero_mul]; exact g12, Ex.refl F2, gp2, hp2, fun y hy => absurd hy (by simp), rfl, fun y hy => absurd hy (by simp), Nat.zero_le _, rfl⟩, fun i σ' H' ⟨G, ps, a, b, g, x, _⟩ => x.trans g.dw.ex, fun i x σ' H' hx hP => ?_, fun σ' H' hP => ?_⟩
    · obtain ⟨G, ps, a, b, g, xG, gp, hpl, hps, hnm, hoks, hil, rfl⟩ := hP
      rw [List.getElem?_map] at hx
      cases hz' : ns[i]? with
      | none => rw [hz'] at hx; cases hx
      | some z =>
      rw [hz'] at hx
      cases hx
      obtain ⟨hlt, hzi⟩ := List.getElem?_eq_some_iff.mp hz'
      have hz : TiOk z := hok z (by rw [← hzi]; exact List.getElem_mem hlt)
      have htk : ns.take (i + 1) = ns.take i ++ [z] := by rw [List.take_add_one, hz'] <;> rfl
      have hstep : (i + 1) * 63 = i * 63 + 63 := Nat.succ_mul i 63
      have hmul : (i + 1) * 63 ≤ m * 63 := Nat.mul_le_mul_right 63 (by omega)
      have hpsl : ps.length ≤ 20 := by
        have := congrArg List.length hnm
        rw [List.length_map, List.length_take] at this
        omega
      show tSeq (tAsg _ _) _ _ _ _
      refine dq_asg (c := 0 + 62) g.dw (ed_call (c1 := 0) (c2 := 2 * 6 + 50) (eda_v (ea_cons (ev_var rfl) (ea_cons (ev_var rfl) (ea_cons ev_c ea_nil)))) (fun vs F3 x3 r => by rw [r]; exact spd_entry (by decide))) (by omega) fun v F3 H3 g3 hR3 => ?_
      obtain ⟨e, hle, hen, hbs, hdl, htm, hcm⟩ := hR3
      obtain ⟨hp3, gp3⟩ := g3.keep w0 hp gp hpl
      have g13 := g.trans g3
      have okE : ∀ e' : Ent, e'.name = z → bytesOk e'.data = true → e'.data.length ≤ 6 → tmOk e'.time = true → comOk e'.com = true → e'.Ok := fun e' h1 h2 h3 h4 h5 => ⟨by rw [h1]; exact hz.name, h2, by omega, h4, h5⟩
      -- appended
      have last : ∀ (v : V) (e' : Ent) (c : Option V) (G4 H4 : Hp), LEnt K G4 v e' → e'.name = z → e'.Ok → Ex G G4 → Go D (n + m * 7 + (i + 1) * 63) F H G4 H4 → G4 p = none → H4 p = some (.lst (ps.map (·.1))) → ∀ (Dn : Ends), (∀ (ps2 : List (V × Ent)) (H5 : Hp), Go D (n + m * 7 + (i + 1) * 63) F H G4 H5 → H5 p = some (.lst (ps2.map (·.1))) → LEs K G4 ps2 → ps2.map (·.2.name) = ns.take (i + 1) → (∀ y ∈ ps2, y.2.Ok) → Dn.nx [some (.ref D.d), some (vn m), some (.ref p), c, some v] H5) →
          tDrop (tBM K "list" rAppend (tVar 2) (tCons (tVar 4) tNil)) Dn [some (.ref D.d), some (vn m), some (.ref p), c, some v] H4 := by
        intro v e' c G4 H4 hle hen hok x4 g4 gp4 hp4 Dn kk
        refine s_app hp4 (ev_var rfl) (ev_var rfl) (by rw [List.length_map]; omega) fun H6 e6 => ?_
        refine kk (ps ++ [(v, e')]) _ ((g4.up e6).mut w0 hp gp4) (by rw [List.map_append]; exact upd_same) (fun y hy => ?_) (by rw [List.map_append, hnm, htk]; show _ ++ [e'.name] = _; rw [hen]) (fun y hy => ?_)
        · rcases List.mem_append.mp hy with h | h
          · exact (hps y h).mono x4
          · rw [List.mem_singleton.mp h]; exact hle
        · rcases List.mem_append.mp hy with h | h
          · exact hoks y h
          · rw [List.mem_singleton.mp h]; exact hok
      refine dq_when (c := 0 + 1) (Rt := fun _ _ => True) g13.dw (edt_and (c1 := 0) (c2 := 1) (Rx := fun _ _ => True) (Ry := fun _ _ => True) (fun n5 H5 w5 hn5 Q5 q5 => et_v (et_test (ev_endL (ev_var rfl) hz.2.1 (Nat.le_trans hz.2.2 (by decide)))) n5 H5 w5 hn5 Q5 fun b F6 H6 g6 _ => q5 b F6 H6 g6 trivial) (fun F5 x5 _ => edt_test (ed_op (c1 := 1) (c2 := 0) (ed_next (ev_var rfl) (by decide) (by decide)) (fun _ _ _ _ => ed_v ev_c) (fun v1 v2 F1 F2 x1 x2 ⟨r, hr, e⟩ r2 => by subst r2; subst e; exact ⟨_, rvn_gt, _, rfl⟩))) (fun _ _ _ => trivial) (fun _ _ => trivial)) (by omega) (fun F4 H4 g4 _ => ?_) (fun F4 H4 g4 _ => ?_)
      · obtain ⟨hp4, gp4⟩ := g4.keep w0 hp gp3 hp3
        obtain ⟨pt, dv, tv, rfl, hpt, hdv, htv⟩ := hle
        have hpt4 := ex_t g4.ex hpt
        obtain ⟨ta, rfl, hta⟩ := htv
        show tAsg _ _ _ _ _
        refine d_asg (c := 0) (R := fun v F5 => LEnt K F5 v ⟨z, [], e.time, e.com⟩) g4.dw ?_ (by omega) fun v F5 H5 g5 hR5 => ?_
        · refine ED.mono (ed_tup (c := 0) (Rs := fun vs F5 => ∃ d, vs = [.str z, d, .ref ta, .str e.com] ∧ IsBs K F5 d []) (Rt := fun vs F5 => ∃ d, vs = [.str z, d, .ref ta, .str e.com] ∧ IsBs K F5 d []) (eda_cons (c1 := 0) (c2 := 0) (ed_v (ev_var rfl)) (fun _ F6 x6 _ => eda_cons (c1 := 0) (c2 := 0) (ed_l (el_lst ea_nil (by decide))) (fun _ F7 x7 _ => eda_v (vs := [.ref ta, .str e.com]) (ea_cons (ev_op (ev_var rfl) ev_c (rv_ixT (ex_t (x6.trans x7) hpt4) (atI_nat (j := 2) rfl))) (ea_cons (ev_op (ev_var rfl) ev_c (rv_ixT (ex_t (x6.trans x7) hpt4) (atI_nat (j := 3) rfl))) ea_nil)))
            (Rz := fun vs F5 => ∃ d, vs = [d, .ref ta, .str e.com] ∧ IsBs K F5 d []) (fun v vs F8 F9 x8 x9 ⟨q2, h1, h2⟩ h3 => ⟨v, by rw [h3], ⟨q2, h1, sq_of (x9 _ _ h2)⟩⟩)) (fun v vs F8 F9 x8 x9 h1 ⟨d, h2, h3⟩ => ⟨d, by rw [h1, h2], h3⟩)) (fun vs F1 ⟨d, h, _⟩ => by rw [h]; show 4 ≤ 100000; decide) (fun vs F1 F2 x ⟨d, h1, h2⟩ => ⟨d, h1, h2.mono x⟩)) (Nat.le_refl _) fun v F5 x5 ⟨q2, vs, h1, h2, d, h3, h4⟩ => by
              subst h3
              exact ⟨q2, d, .ref ta, h1, st_of h2, h4, ⟨ta, rfl, ex_t (g4.ex.trans x5) hta⟩⟩
        obtain ⟨hp5, gp5⟩ := g5.keep w0 hp gp4 hp4
        have g15 := (g13.trans g4).trans g5
        refine last v _ _ F5 H5 hR5 rfl (okE _ rfl rfl (Nat.zero_le _) htm hcm) ((g3.ex.trans g4.ex).trans g5.ex) (g15.more (by omega)) gp5 hp5 _ fun ps2 H6 g6 hp6 h1 h2 h3 => ?_
        exact ⟨F5, ps2, _, _, g6, xG.trans ((g3.ex.trans g4.ex).trans g5.ex), gp5, hp6, h1, h2, h3, by omega, rfl⟩
      · obtain ⟨hp4, gp4⟩ := g4.keep w0 hp gp3 hp3
        refine last v e _ F4 H4 (hle.mono g4.ex) hen (okE e hen hbs hdl htm hcm) (g3.ex.trans g4.ex) ((g13.trans g4).more (by omega)) gp4 hp4 _ fun ps2 H6 g6 hp6 h1 h2 h3 => ?_
        exact ⟨F4, ps2, _, _, g6, xG.trans (g3.ex.trans g4.ex), gp4, hp6, h1, h2, h3, by omega, rfl⟩
    · obtain ⟨G, ps, a, b, g, xG, gp, hpl, hps, hnm, hoks, hil, rfl⟩ := hP
      rw [List.length_map] at g hnm
      rw [List.take_length] at hnm
      have hpsl : ps.length = ns.length := by
        have := congrArg List.length hnm
        rwa [List.length_map] at this
      have hmul : ns.length * 63 ≤ m * 63 := Nat.mul_le_mul_right 63 hnl
      refine z_ret (F := H') (Ex.refl H') (ev_var rfl) fun H2 e2 => ?_
      have g2 := (g.up e2).fin w0 hp gp (e2 _ _ hpl)
      refine k _ _ H2 (g2.more (by omega)) ⟨p, ps, rfl, upd_same, hps.mono (Ex.new gp), ⟨by rw [List.length_map]; omega, ?_, fun e he => ?_⟩, fun y hy => ?_, by omega⟩
      · rw [List.map_map]
        show (ps.map (·.2.name)).Nodup
        rw [hnm]
        exact hnd
      · obtain ⟨y, hy, rfl⟩ := List.mem_map.mp he
        exact hoks y hy
      · refine hok _ ?_
        rw [← hnm]
        exact List.mem_map_of_mem (f := fun y : V × Ent => y.2.name) hy
theorem sc__law_shuffled : FnScope ["_law_draw", "_law_some_here", "_law_left", "_law_found"] ["_law_draw", "_law_some_here"] (defScope s__law_shuffled) := C8.fnScope_by (by decide +kernel)
theorem c__law_shuffled (T : Txt K mg A) : C8.Cal P w K mg base 2 "_law_shuffled" (spD (A_shuf K)) [] := by
  have c__law_next : C8.Cal P w K mg base 1 _ _ _ := c__law_next T
  refine cal_of T.d__law_shuffled sc__law_shuffled (fun _ _ _ _ _ _ us hl => match us, hl with | [_, _], _ => rfl) (fun vs H Q E h => ?_) (fun f cdv A0 outer s H vs Q E hr h => ?_)
  · obtain ⟨D, F, n, c, R, ⟨a, xs, rfl, _⟩, _⟩ := h; rfl
  · obtain ⟨D, F, n, c, R, ⟨a, xs, rfl, hs, hl, rfl, rfl⟩, w0, hn, k⟩ := h
    have sc := sc__law_shuffled
    refine ⟨_, (pss_cons (ps_par (i := 2) (j := 3) (by rfl) sc.nd rfl rfl (by decide) rfl rfl (pa_cons (pe_callTy (r := rListS K) call_list_of (by rfl) T.b_list (by decide +kernel) (pa_cons (pv 1) pa_nil)) (pa_cons (pe_lst pa_nil) pa_nil)) (by rfl))
      (pss_cons (ps_while PassesOwn.never (pt_cmpR (op_neE (hu0 hr)) (pv 2) (pe_lst pa_nil) (nomark _)) (pss_one (ps_expr (pe_bm PySem.F.plainAttrs_list PySem.F.slot_list_append PySem.F.type_list_append mt_append (pv 3) (pa_cons (pe_bm PySem.F.plainAttrs_list PySem.F.slot_list_pop PySem.F.type_list_pop mt_popAt (pv 2) (pa_cons (C8.pe_c c__law_next hr (by decide) (by rfl) (pa_cons (pv 0) (pa_cons (pe_callB (r := rLenS K) call_len_seq (by rfl) T.b_len boot_len (pa_cons (pv 2) pa_nil)) pa_nil))) pa_nil)) pa_nil)))))
      (pss_one (ps_ret (pv 3))))), ?_⟩
    refine zq_parLL w0.ex (el_list (ev_var rfl) hs) (el_lst ea_nil (by decide)) fun p q H1 hp hq npq e1 hp1 hq1 => ?_
    have g1 := w0.go e1
    have fp : F p = none := fresh_back w0.ex hp
    have fq : F q = none := fresh_back w0.ex hq
    refine q_while (fun mm σ' H' => ∃ (G : Hp) (ls ys : List V), ls.length = mm ∧ ys.length + mm = xs.length ∧ Go D (n + ys.length) F H G H' ∧ G p = none ∧ G q = none ∧ H' p = some (.lst ls) ∧ H' q = some (.lst ys) ∧ List.Perm (ys ++ ls) xs ∧ σ' = [some (.ref D.d), some (.ref a), some (.ref p), some (.ref q)]) xs.length ⟨F, xs, [], rfl, Nat.zero_add _, g1, fp, fq, hp1, hq1, List.Perm.refl _, rfl⟩ ?_
    rintro mm σ' H' ⟨G, ls, ys, hm, hlen, g, gp, gq, hpl, hql, perm, rfl⟩
    refine ⟨_, et_test (ev_opL (ev_var rfl) (el_lst ea_nil (by decide)) fun p3 H3 h3 e3 => rv_neE (ex_l e3 (sq_of hpl)) (sq_of h3)), fun hb H2 e2 => ?_, fun hb H2 e2 => ?_⟩
    · have hls : 0 < ls.length := by
        cases ls with
        | nil => cases hb
        | cons _ _ => exact Nat.succ_pos _
      have g2 := g.up e2
      have hpl2 := e2 _ _ hpl
      have hql2 := e2 _ _ hql
      refine ⟨fun σ2 H3 => ∃ m', m' < mm ∧ ∃ (G : Hp) (ls ys : List V), ls.length = m' ∧ ys.length + m' = xs.length ∧ Go D (n + ys.length) F H G H3 ∧ G p = none ∧ G q = none ∧ H3 p = some (.lst ls) ∧ H3 q = some (.lst ys) ∧ List.Perm (ys ++ ls) xs ∧ σ2 = [some (.ref D.d), some (.ref a), some (.ref p), some (.ref q)], fun σ2 H3 h => h, ?_⟩
      -- append(pop(next))
      refine d_appPop (F := G) (c := 1) g2.dw (by omega) hpl2 hql2 npq (w0.fr_d hp) (w0.fr_g hp) (w0.fr_d hq) (w0.fr_g hq) (ev_var rfl) (ev_var rfl) (fun H3 e3 Q3 q3 => ?_) (by omega) (by omega) fun r G4 H4 hr g4 hp4 hq4 => ?_
      · have hA : EvA (tCons (tVar 0) (tCons (tCB (rLenS K) (tCons (tVar 2) tNil)) tNil)) [some (.ref D.d), some (.ref a), some (.ref p), some (.ref q)] H3 [.ref D.d, vn ls.length] := ea_cons (ev_var rfl) (ea_cons (ev_len (ev_var rfl) (sq_of (e3 _ _ hpl2))) ea_nil)
        refine hA H3 (Ex.refl H3) _ fun H6 e6 => ?_
        have w6 := (g2.up (e3.trans e6)).dw
        refine spd_next hls (by omega) _ H6 w6 (by omega) _ (fun v F7 H7 g7 ⟨r, hr, hv⟩ => ?_) _
        subst hv
        exact q3 r F7 H7 hr (((g2.up e3).dw.go e6).trans g7)
      · have gp4 := g4.nw p gp (by rw [hpl2]; simp)
        have gq4 := g4.nw q gq (by rw [hql2]; simp)
        have gg := ((g2.trans g4).mut (o := .lst (ls.eraseIdx r)) w0 hp gp4).mut (o := .lst (ys ++ [ls[r]])) w0 hq gq4
        refine ⟨mm - 1, by omega, G4, ls.eraseIdx r, ys ++ [ls[r]], ?_, ?_, gg.more ?_, gp4, gq4, by rw [upd_ne npq]; exact upd_same, upd_same, ?_, rfl⟩
        · rw [List.length_eraseIdx, if_pos hr, hm]
        · rw [List.length_append]; show ys.length + 1 + (mm - 1) = _; omega
        · rw [List.length_append]; show _ ≤ n + (ys.length + 1); omega
        · refine List.Perm.trans ?_ perm
          rw [List.append_assoc]
          refine List.Perm.append_left ys ?_
          exact erase_perm hr
    · cases ls with
      | cons _ _ => cases hb
      | nil =>
        have g2 := g.up e2
        refine z_ret (F := H2) (Ex.refl H2) (ev_var rfl) fun H3 e3 => ?_
        have g3 := (g2.up e3).fin w0 hq gq (e3 _ _ (e2 _ _ hql))
        rw [List.append_nil] at perm
        have hlz : ys.length = xs.length := by
          have : mm = 0 := hm.symm
          omega
        rw [hlz] at g3
        exact k _ _ H3 g3 ⟨q, ys, rfl, upd_same, perm⟩
end
end EL
set_option maxHeartbeats 4000000
/-! ### L7: values that are no states; the refusing defs -/
namespace EL
open PySem PySem.Spec PyProof.Rows L2 Evl LamX
abbrev bmVE : List Value := [.type "ValueError", .type "Exception", .type "BaseException", .type "object"]
/-- an own error class, made of a text -/
structure OwnX (K : PySem.W.Frag) (mg : Str → Option Value) (x : Str) (C : Addr) : Prop where
  gC : mg x = some (.ref C)
  xC : PySem.W.excIn K C bmVE "ValueError.__new__" = true
  kC : PySem.W.keepIn K (.ref C) = true
  bC : PySem.W.subIn K (.ref C) (.type "BaseException") = some true
  tC : PySem.W.typeIn K (.ref C) = some (.type "type")
structure Txe (K : PySem.W.Frag) (mg : Str → Option Value) (A : Ads) : Prop where
  ns : OwnX K mg "NoState" A.C_NoState
  ea : PySem.W.exmOne K (.ref A.C_NoState) (.ref A.C_ArchiveError) = some true
  ec : ExcC K A.C_NoState
  k1 : PySem.W.kitOne K (.ref A.C_NoState) (.ref A.C_NoState) = some true
  k2 : PySem.W.kitOne K (.ref A.C_NoState) (.type "ValueError") = some true
  k3 : PySem.W.kitAny K (.ref A.C_NoState) [.ref A.C_NoEntry, .ref A.C_NoName, .ref A.C_NoTree] = some false
  oN : PySem.W.kitOne K (.type "NoneType") (.ref A.C_State) = some false
  oI : PySem.W.kitOne K (.type "int") (.ref A.C_State) = some false
  oB : PySem.W.kitOne K (.type "bool") (.ref A.C_State) = some false
  oS : PySem.W.kitOne K (.type "str") (.ref A.C_State) = some false
  oL : PySem.W.kitOne K (.type "list") (.ref A.C_State) = some false
  oD : PySem.W.kitOne K (.type "dict") (.ref A.C_State) = some false
  oT : PySem.W.kitOne K (.type "tuple") (.ref A.C_State) = some false
  oE : PySem.W.kitOne K (.ref A.C_Entry) (.ref A.C_State) = some false
/-- a value that is no state -/
def OddV (K : PySem.W.Frag) (A : Ads) (F : Hp) (v : V) : Prop := ∃ ty, (∀ F1, Ex F F1 → TyX K F1 v ty) ∧ PySem.W.kitOne K ty (.ref A.C_State) = some false
theorem OddV.mono {K : PySem.W.Frag} {A : Ads} {F F1 : Hp} {v : V} (h : OddV K A F v) (x : Ex F F1) : OddV K A F1 v := let ⟨ty, a, b⟩ := h; ⟨ty, fun F2 x2 => a F2 (x.trans x2), b⟩
def sp_noS (K : PySem.W.Frag) (A : Ads) : Sp := fun vs H _ E => ∃ v : V, vs = [v] ∧ OddV K A H v ∧ ∀ H2, Ex H H2 → E (.ref A.C_NoState) none H2
def sp_noS2 (K : PySem.W.Frag) (A : Ads) : Sp := fun vs H _ E => ∃ v : V, vs = [v, .non] ∧ OddV K A H v ∧ ∀ H2, Ex H H2 → E (.ref A.C_NoState) none H2
section
variable {P : Program} {w : World} {K : PySem.W.Frag} {mg : Str → Option Value} {base : Heap} {A : Ads}
theorem x_need_state (T : Txt K mg A) (U : Txe K mg A) : CalX P w K mg base 1 "need_state" (sp_noS K A) := by
  refine calX_of T.d_need_state sc_need_state (fun _ _ _ _ _ _ us hl => match us, hl with | [_], _ => rfl) (fun vs H Q E h => ?_) (fun f cdv A0 outer s H vs Q E hr h => ?_)
  · obtain ⟨v, rfl, _⟩ := h; rfl
  · obtain ⟨v, rfl, ⟨ty, h1, h2⟩, k⟩ := h
    refine ⟨_, (pss_one (ps_if (pt_not (pt_val (pe_callB call_isi (by rfl) T.b_isinstance (by decide +kernel) (pa_cons (pv 0) (pa_cons (pe_gk T.k_State) pa_nil))))) (pss_one (ps_raise rfl (takes_of (E := E) rfl rfl rfl rfl) (pmk_own PySem.F.excBase_ValueError U.ns.xC U.ns.gC U.ns.kC (raises_own U.ns.bC U.ns.tC) (by rfl)))) pss_nil)), ?_⟩
    exact z_if (b := !false) (Ex.refl H) (et_not (et_B (ev_isi (ea_cons (ev_var rfl) (ea_cons ev_c ea_nil)) (.own _) h1 h2))) (fun _ H1 e1 => k H1 e1) (fun q => nomatch q)
theorem sc_tree : FnScope ["state"] ["state"] (defScope s_tree) := C8.fnScope_by (by decide +kernel)
theorem sc_unpacked : FnScope ["state", "order", "names", "name"] ["state", "order"] (defScope s_unpacked) := C8.fnScope_by (by decide +kernel)
theorem x_clash (T : Txt K mg A) (U : Txe K mg A) : CalX P w K mg base 2 "clash" (sp_noS K A) := by
  have x_need : CalX P w K mg base 1 _ _ := x_need_state T U
  refine calX_of T.d_clash sc_clash (fun _ _ _ _ _ _ us hl => match us, hl with | [_], _ => rfl) (fun vs H Q E h => ?_) (fun f cdv A0 outer s H vs Q E hr h => ?_)
  · obtain ⟨v, rfl, _⟩ := h; rfl
  · obtain ⟨v, rfl, h1, k⟩ := h
    refine ⟨_, (pss_cons (ps_expr (pe_cX x_need hr (by decide) (takes_of (E := E) rfl rfl rfl rfl) (by rfl) (pa_cons (pv 0) pa_nil))) pss_never), ?_⟩
    exact ⟨_, rfl, v, rfl, h1, fun H2 e2 => k H2 e2⟩
theorem x_tree (T : Txt K mg A) (U : Txe K mg A) : CalX P w K mg base 2 "tree" (sp_noS K A) := by
  have x_need : CalX P w K mg base 1 _ _ := x_need_state T U
  refine calX_of T.d_tree sc_tree (fun _ _ _ _ _ _ us hl => match us, hl with | [_], _ => rfl) (fun vs H Q E h => ?_) (fun f cdv A0 outer s H vs Q E hr h => ?_)
  · obtain ⟨v, rfl, _⟩ := h; rfl
  · obtain ⟨v, rfl, h1, k⟩ := h
    refine ⟨_, (pss_cons (ps_expr (pe_cX x_need hr (by decide) (takes_of (E := E) rfl rfl rfl rfl) (by rfl) (pa_cons (pv 0) pa_nil))) pss_never), ?_⟩
    exact ⟨_, rfl, v, rfl, h1, fun H2 e2 => k H2 e2⟩
theorem x_unpacked (T : Txt K mg A) (U : Txe K mg A) : CalX P w K mg base 2 "unpacked" (sp_noS2 K A) := by
  have x_need : CalX P w K mg base 1 _ _ := x_need_state T U
  refine calX_of T.d_unpacked sc_unpacked (fun _ _ _ _ _ _ us hl => match us, hl with | [_, _], _ => rfl) (fun vs H Q E h => ?_) (fun f cdv A0 outer s H vs Q E hr h => ?_)
  · obtain ⟨v, rfl, _⟩ := h; rfl
  · obtain ⟨v, rfl, h1, k⟩ := h
    refine ⟨_, (pss_cons (ps_expr (pe_cX x_need hr (by decide) (takes_of (E := E) rfl rfl rfl rfl) (by rfl) (pa_cons (pv 0) pa_nil))) pss_never), ?_⟩
    exact ⟨_, rfl, v, rfl, h1, fun H2 e2 => k H2 e2⟩
end
end EL
set_option maxHeartbeats 4000000
/-! ### L8: whether a kept lambda refuses -/
namespace EL
open PySem PySem.Spec PyProof.Rows L2 Evl LamX
theorem boot_VE : bootBuiltins "ValueError" = some (.type "ValueError") := by decide +kernel
theorem PE.imp {X : Cx} {e : Expr} {t1 t2 : TE} (h : PE X e t1) (i : ∀ σ H Q, t2 σ H Q → t1 σ H Q) : PE X e t2 := ⟨fun pins s σ H Q I q => h.run pins s σ H Q I (i σ H Q q)⟩
/-- the body refuses the captured value -/
def tNo (K : PySem.W.Frag) (A : Ads) (E : XK) : TE := fun σ H _ => ∃ v, σ[0]? = some (some v) ∧ OddV K A H v ∧ ∀ H2, Ex H H2 → E (.ref A.C_NoState) none H2
def GoodR (P : Program) (w : World) (K : PySem.W.Frag) (mg : Str → Option Value) (base : Heap) (A : Ads) (N : List Str) (q : Str) (cl : List (Str × Addr)) (σL : HSt) : List V → Hp → VK → Prop := fun vs H Q =>
  ∃ (f c' : Addr) (params : Arguments) (body : Expr) (scope : Scope) (v : V), vs = [.ref f] ∧ H f = some (LamO f c' q params body scope cl) ∧ H c' = some (CodeO c' q) ∧ LamRun P w K mg base N q cl 2 params body scope (tNo K A) ∧ σL[0]? = some (some v) ∧ OddV K A H v ∧ ∀ H2, Ex H H2 → Q (.bl true) H2
section
variable {P : Program} {w : World} {K : PySem.W.Frag} {mg : Str → Option Value} {base : Heap} {A : Ads}
theorem sc__law_is_refused : FnScope ["_law_work", "_law_caught", "e", "_law_others"] ["_law_work"] (defScope s__law_is_refused) := C8.fnScope_by (by decide +kernel)
theorem refused_body (T : Txt K mg A) (U : Txe K mg A) {N : List Str} {q : Str} {cl : List (Str × Addr)} {σL : HSt} {A0 : Around} {outer : List Env} {s : Shared} {H : Hp} {f : Addr} {cdv : Value} {vs : List V} {Q : VK} (ck : CK cl N σL H s.heap) (hlen : σL.length = N.length)
    (hr : Room 3 (A0.deeper (envOfC "_law_is_refused" (defScope s__law_is_refused) s.heap.objs.size f cdv))) (h : GoodR P w K mg base A N q cl σL vs H Q) :
    ∃ t, PSs (cxOf C8.CX0 P w K mg base ["_law_work", "_law_caught", "e", "_law_others"] "_law_is_refused" (defScope s__law_is_refused) f cdv A0 outer s H C8.E0) (defBody s__law_is_refused) t ∧ t { nx := fun _ H' => Q .non H', rt := Q } (start ["_law_work", "_law_caught", "e", "_law_others"] vs) H := by
  obtain ⟨fl, c', params, body, scope, v, rfl, hf, hc, LR, hv, hodd, k⟩ := h
  have sc := sc__law_is_refused
  refine ⟨_, (pss_cons (ps_set (i := 1) sc.nd rfl (by first | exact Or.inl rfl | exact Or.inr rfl) pe_non)
    (pss_cons (ps_try_keep (i := 2) rfl rfl rfl sc.nd rfl rfl ⟨by rfl, by decide, .inl T.k_ArchiveError.mgx⟩ LamX.takes0 (fun W pn xe tk _ => pss_one (ps_expr (pe_work (q := q) (i := 0) ck hlen tk hr rfl (by first | exact Or.inl rfl | exact Or.inr rfl)))) (fun a oe cls d pn _ _ => pss_one (ps_set (i := 1) sc.nd rfl (by first | exact Or.inl rfl | exact Or.inr rfl) (pv 2))))
    (pss_cons (ps_set (i := 3) sc.nd rfl (by first | exact Or.inl rfl | exact Or.inr rfl) (pe_callB (r := rIsKT K) call_isKT (by rfl) T.b_isinstance (by decide +kernel) (pa_cons (pv 1) (pa_cons (pe_tup (pa_cons (pe_gk T.k_NoEntry) (pa_cons (pe_gk T.k_NoName) (pa_cons (pe_gk T.k_NoTree) pa_nil)))) pa_nil))))
    (pss_one (ps_ret (pe_and (pe_callB (r := rIsK K) call_isK (by rfl) T.b_isinstance (by decide +kernel) (pa_cons (pv 1) (pa_cons (pe_gk T.k_NoState) pa_nil))) (pe_and (pe_callB (r := rIsK K) call_isK (by rfl) T.b_isinstance (by decide +kernel) (pa_cons (pv 1) (pa_cons (pe_bltn (v := .ty "ValueError") (by rfl) T.b_ValueError boot_VE rfl) pa_nil))) (pe_one (pe_not (pv 3)))))))))), ?_⟩
  refine zq_asg (Ex.refl H) ev_c fun H1 e1 => ?_
  refine ⟨fl, c', params, body, scope, tNo K A, fun cls d H' => cls = .ref A.C_NoState ∧ d = none ∧ Ex H1 H', rfl, e1 _ _ hf, e1 _ _ hc, LR, fun cls d H' hE => ?_, v, hv, hodd.mono e1, fun H2 e2 => ⟨rfl, rfl, e2⟩⟩
  obtain ⟨rfl, rfl, e2⟩ := hE
  refine ⟨true, U.ea, fun _ a ha => ?_, fun q => nomatch q⟩
  refine z_asg (Ex.refl H') (ev_var rfl) fun H3 e3 => ?_
  intro ha3
  have E3 : Ex H H3 := (e1.trans e2).trans e3
  generalize hH4 : upd H3 a (ExK (.ref A.C_NoState) none a) = H4
  have a4 : H4 a = some (ExK (.ref A.C_NoState) none a) := by rw [← hH4]; exact upd_same
  have e4 : Ex H3 H4 := by rw [← hH4]; exact Ex.new ha3
  refine zq_asg (Ex.refl H4) (ev_isKT (ev_var rfl) (eu_tup (ea_cons ev_c (ea_cons ev_c (ea_cons ev_c ea_nil))) (by show 3 ≤ 100000; decide)) a4 (.cons (.own _) (.cons (.own _) (.cons (.own _) .nil))) U.k3 U.ec) fun H5 e5 => ?_
  refine z_ret e5 (ev_andV (ev_isK (ev_var rfl) ev_c a4 (.own _) U.k1 U.ec) fun _ => (ev_andV (ev_isK (ev_var rfl) ev_c a4 (.ty _) U.k2 U.ec) fun _ => (ev_notV (ev_var rfl)))) fun H6 e6 => ?_
  exact k H6 (((E3.trans e4).trans e5).trans e6)
/-- not _law_is_refused(work), in a comprehension of the frame X -/
theorem pe_refused {Y : Cx} (T : Txt Y.K Y.mg A) (U : Txe Y.K Y.mg A) {N : List Str} {q : Str} {cl : List (Str × Addr)} {σL : HSt} {j : Nat} {p pos : Pos} {e : Expr} {t : TA} (ck : ∀ pins σ s H, Inv Y pins σ H s → CK cl N σL H s.heap) (hlen : σL.length = N.length) (hr : Room j Y.A) (hj : 4 ≤ j) (hg : Gl Y "_law_is_refused") (ha : PA Y [e] t)
    (he : starEach [e] Y.env = (false, eval e Y.env) :: starEach [] Y.env := by rfl) (hpl : (backTo pos (starEach [] Y.env)).any (·.1) = false := by rfl) :
    PE Y (.Call (.Name "_law_is_refused" p) [e] [] pos) (tAt 1 t (GoodR Y.prog Y.w Y.K Y.mg Y.base A N q cl σL)) :=
  pe_callAt (k := 3) (N := ["_law_work", "_law_caught", "e", "_law_others"]) (ps := ["_law_work"]) T.d__law_is_refused sc__law_is_refused (fun _ _ _ _ _ _ us hl => match us, hl with | [_], _ => rfl) hr hj hg ha
    (fun pins σ s H I f cdv vs Q hr' h => refused_body T U (ck pins σ s H I) hlen hr' h) (by decide) he hpl
end
end EL
set_option maxHeartbeats 4000000
/-! ### L9: the law: its parts -/
namespace EL
open PySem PySem.Spec PyProof.Rows L2 Evl LamX
/-- the state of the law: draws, and the table of its code objects, beside the base -/
structure LS (D : Dp) (P0 : Addr) (q : Str) (n : Nat) (G H : Hp) : Prop where
  dw : Dw D n G H
  gp : G P0 = none
  tb : TabS H P0 q
  nd : P0 ≠ D.d
  ng : P0 ≠ D.g
theorem tabS_at {H : Hp} {P0 : Addr} {q : Str} (t : TabS H P0 q) : ∃ ps, H P0 = some (.tbl ps) := let ⟨ps, h, _⟩ := t; ⟨ps, h⟩
section
variable {D : Dp} {P0 : Addr} {q : Str} {n n' : Nat} {G G2 H H2 : Hp}
theorem LS.pn (s : LS D P0 q n G H) : H P0 ≠ none := by
  obtain ⟨ps, h⟩ := tabS_at s.tb
  rw [h]; simp
theorem LS.go (s : LS D P0 q n G H) (g : Go D n' G H G2 H2) : LS D P0 q n' G2 H2 := by
  refine ⟨g.dw, g.nw P0 s.gp s.pn, ?_, s.nd, s.ng⟩
  obtain ⟨ps, h1, h2, h3⟩ := s.tb
  refine ⟨ps, g.kp _ _ s.nd s.ng h1, h2, fun pos cv hc => ?_⟩
  obtain ⟨c, e1, e2⟩ := h3 pos cv hc
  refine ⟨c, e1, g.kp c _ (fun z => ?_) (fun z => ?_) e2⟩
  · obtain ⟨_, _, _, z2⟩ := s.dw.dr
    rw [z, z2] at e2
    unfold CodeO at e2
    cases e2
  · obtain ⟨_, _, z2⟩ := s.dw.gr
    rw [z, z2] at e2
    unfold CodeO at e2
    cases e2
theorem LS.up (s : LS D P0 q n G H) (e : Ex H H2) : LS D P0 q n G H2 := s.go (s.dw.go e)
theorem LS.more (s : LS D P0 q n G H) (h : n ≤ n') : LS D P0 q n' G H := ⟨s.dw.more h, s.gp, s.tb, s.nd, s.ng⟩
/-- a lambda was made -/
theorem LS.lam (s : LS D P0 q n G H) {f c' : Addr} {H1 : Hp} {params : Arguments} {body : Expr} {scope : Scope} {cl : List (Str × Addr)} (t : TabS H1 P0 q) (k : ∀ b o, b ≠ P0 → H b = some o → H1 b = some o) (hf : H1 f = none) (hf0 : H f = none) (hc : H1 c' = some (CodeO c' q)) :
    ∃ G2, LS D P0 q n G2 (upd H1 f (LamO f c' q params body scope cl)) ∧ Ex G G2 ∧ G2 f = some (LamO f c' q params body scope cl) ∧ G2 c' = some (CodeO c' q) ∧ ∀ b, G b = none → b ≠ f → b ≠ c' → G2 b = none := by
  obtain ⟨ps, hP⟩ := tabS_at t
  have fc : f ≠ c' := fun z => by rw [z, hc] at hf; cases hf
  have cP : c' ≠ P0 := fun z => by
    rw [z, hP] at hc
    unfold CodeO at hc
    cases hc
  have fP : f ≠ P0 := fun z => by rw [z, hP] at hf; cases hf
  have Gk : ∀ b o, G b = some o → H1 b = some o := fun b o e => k b o (fun z => by rw [z, s.gp] at e; cases e) (s.dw.ex _ _ e)
  obtain ⟨t0, dg, ht0, hd⟩ := s.dw.dr
  obtain ⟨gs, hgs, hg⟩ := s.dw.gr
  have hd1 := k _ _ (Ne.symm s.nd) hd
  have hg1 := k _ _ (Ne.symm s.ng) hg
  have nl : P0 ≠ D.l := fun z => by
    have := s.dw.lm
    obtain ⟨ps0, h0⟩ := tabS_at s.tb
    rw [← z, h0] at this
    cases this
  have hl1 := k _ _ (Ne.symm nl) s.dw.lm
  have cd : c' ≠ D.d := fun z => by rw [z, hd1] at hc; unfold CodeO at hc; cases hc
  have cg : c' ≠ D.g := fun z => by rw [z, hg1] at hc; unfold CodeO at hc; cases hc
  have fd : f ≠ D.d := fun z => by rw [z, hd1] at hf; cases hf
  have fg : f ≠ D.g := fun z => by rw [z, hg1] at hf; cases hf
  have fl : f ≠ D.l := fun z => by rw [z, hl1] at hf; cases hf
  refine ⟨upd (upd G c' (CodeO c' q)) f (LamO f c' q params body scope cl), ⟨⟨fun b o e => ?_, ?_, ?_, s.dw.ne, s.dw.nl, ⟨t0, dg, ht0, ?_⟩, ⟨gs, hgs, ?_⟩, ?_⟩, ?_, ?_, s.nd, s.ng⟩, fun b o e => ?_, upd_same, ?_, fun b h1 h2 h3 => ?_⟩
  · by_cases hb : b = f
    · rw [hb, upd_same] at e
      rw [hb, upd_same]
      exact e
    · rw [upd_ne hb] at e
      rw [upd_ne hb]
      by_cases hb2 : b = c'
      · rw [hb2, upd_same] at e
        cases e
        rw [hb2]
        exact hc
      · rw [upd_ne hb2] at e
        exact Gk _ _ e
  · rw [upd_ne (Ne.symm fd), upd_ne (Ne.symm cd)]
    exact s.dw.fd
  · rw [upd_ne (Ne.symm fg), upd_ne (Ne.symm cg)]
    exact s.dw.fg
  · rw [upd_ne (Ne.symm fd)]
    exact hd1
  · rw [upd_ne (Ne.symm fg)]
    exact hg1
  · rw [upd_ne (Ne.symm fl)]
    exact hl1
  · rw [upd_ne (Ne.symm fP), upd_ne (Ne.symm cP)]
    exact s.gp
  · exact t.ext (Ex.new hf)
  · have := Gk _ _ e
    have bf : b ≠ f := fun z => by rw [z, hf] at this; cases this
    rw [upd_ne bf]
    by_cases hb2 : b = c'
    · rw [hb2, upd_same]
      rw [hb2, hc] at this
      rw [← this]
    · rw [upd_ne hb2]
      exact e
  · rw [upd_ne (Ne.symm fc), upd_same]
  · rw [upd_ne h2, upd_ne h3]
    exact h1
end
/-! the three lambdas -/
def lamB (x : Str) (scope : Scope) : Bool := decide (scope.kind = .function) && !scope.isCoroutine && !scope.isGenerator && (scope.names.all fun y => !decide (y.2 = .local) && !decide (y.2 = .cell) && (!decide (y.2 = .free) || decide (y.1 = ("_law_odd" : Str)))) && decide (scope.names.lookup ("_law_odd" : Str) = some .free) && decide (scope.names.lookup x = some .globalImplicit)
section
variable {P : Program} {w : World} {K : PySem.W.Frag} {mg : Str → Option Value} {base : Heap} {A : Ads} {q : Str} {c0 : Addr}
theorem lam_low {x : Str} {scope : Scope} (h : lamB x scope = true) : LamS0 scope ∧ ClOk [(("_law_odd" : Str), c0)] ["_law_odd"] scope ∧ scope.names.lookup x = some .globalImplicit := by
  unfold lamB at h
  simp only [Bool.and_eq_true, Bool.or_eq_true, Bool.not_eq_true', decide_eq_true_eq, decide_eq_false_iff_not, List.all_eq_true] at h
  obtain ⟨⟨⟨⟨⟨h1, h2⟩, h3⟩, h4⟩, h5⟩, h6⟩ := h
  refine ⟨⟨h1, h2, h3, fun y hy => (h4 y hy).1⟩, ⟨fun y hy => ?_, fun y z c e1 e2 => ?_, fun y hy => by rw [List.mem_singleton.mp hy]; exact h5⟩, h6⟩
  · rcases (h4 _ (PySem.mem_of_lookup hy)).2 with e | e
    · exact absurd rfl e
    · have e : y = "_law_odd" := e
      rw [e]
      exact ⟨c0, by simp [List.lookup]⟩
  · have one : ∀ {y : Str}, List.lookup y [(("_law_odd" : Str), c0)] = some c → y = "_law_odd" := fun {y} e => by
      rw [List.lookup_cons] at e
      cases hb : (y == ("_law_odd" : Str)) with
      | true => simpa using hb
      | false => rw [hb] at e; cases e
    rw [one e1, one e2]
theorem lamRun1 {x : Str} {params : Arguments} {scope : Scope} {p1 p2 p3 : Pos} (c : CalX P w K mg base 2 x (sp_noS K A)) (h : lamB x scope = true) (hb : ∀ (body : Expr) (pm cv ctv : Value), bindArgs (PySem.W.kla_fn "<lambda>" q params body scope [(("_law_odd" : Str), c0)] pm cv ctv) ⟨[], []⟩ = pure []) (hdb : (x == ("__debug__" : Str)) = false := by decide) :
    LamRun P w K mg base ["_law_odd"] q [(("_law_odd" : Str), c0)] 2 params (.Call (.Name x p1) [.Name "_law_odd" p2] [] p3) scope (tNo K A) := by
  obtain ⟨a1, a2, a3⟩ := lam_low (c0 := c0) h
  refine ⟨a1, a2, hb _, fun A0 outer s H E f c' hr => ?_⟩
  refine PE.imp (pe_cX c hr (by decide) (takes_of (E := E) rfl rfl rfl rfl) a3 (pa_cons (pe_var (i := 0) rfl (.inr (.inr (a2.vis _ List.mem_cons_self)))) pa_nil) hdb) fun σ H Q h => ?_
  obtain ⟨v, hv, hodd, k⟩ := h
  exact ⟨v, hv, v, rfl, hodd, k⟩
theorem lamRun2 {x : Str} {params : Arguments} {scope : Scope} {p1 p2 p3 p4 : Pos} {j : Nat} (c : CalX P w K mg base 2 x (sp_noS2 K A)) (h : lamB x scope = true) (hb : ∀ (body : Expr) (pm cv ctv : Value), bindArgs (PySem.W.kla_fn "<lambda>" q params body scope [(("_law_odd" : Str), c0)] pm cv ctv) ⟨[], []⟩ = pure []) (hdb : (x == ("__debug__" : Str)) = false := by decide) :
    LamRun P w K mg base ["_law_odd"] q [(("_law_odd" : Str), c0)] 2 params (.Call (.Name x p1) [.Name "_law_odd" p2, .Constant .none j p4] [] p3) scope (tNo K A) := by
  obtain ⟨a1, a2, a3⟩ := lam_low (c0 := c0) h
  refine ⟨a1, a2, hb _, fun A0 outer s H E f c' hr => ?_⟩
  refine PE.imp (pe_cX c hr (by decide) (takes_of (E := E) rfl rfl rfl rfl) a3 (pa_cons (pe_var (i := 0) rfl (.inr (.inr (a2.vis _ List.mem_cons_self)))) (pa_cons pe_non pa_nil)) hdb) fun σ H Q h => ?_
  obtain ⟨v, hv, hodd, k⟩ := h
  exact ⟨v, hv, v, rfl, hodd, k⟩
end
/-! Entry(name, data) with the defaults -/
section
variable {P : Program} {w : World} {K : PySem.W.Frag} {mg : Str → Option Value} {base : Heap} {A : Ads}
theorem c_Entry2 (T : Txt K mg A) : C8.Mak P w K mg base 5 "Entry" A.C_Entry (sp_Entry_init K A.C_Entry) [.ref A.t_FIRST_TIME, .str ""] := by
  obtain ⟨fd, F⟩ := T.in_Entry
  obtain ⟨ds, r, hb⟩ := FunD.binds0 (ps := ["self", "name", "data", "time", "comment"]) F 3 (by simp) rfl (fun D doc pm an cdv ct us ks h1 h2 => match us, ks, h1, h2 with | [_, _, _], [_, _], _, _ => ⟨_, _, _, _, _, _, rfl, rfl, _, _, _, _, _, _, rfl, rfl, rfl⟩)
  exact ⟨A.i_Entry, fd, _, ds, T.mk_Entry, f_Entry_init T F, T.k_Entry.mgx, hb, r⟩
/-- an expression that makes a value that is no state -/
abbrev EOdd (K : PySem.W.Frag) (A : Ads) (D : Dp) (te : TE) (σ : HSt) (F : Hp) : Prop := ED D 0 te σ F (fun v F2 => OddV K A F2 v)
def RsOdd (K : PySem.W.Frag) (A : Ads) (n : Nat) : List V → Hp → Prop := fun vs F2 => vs.length = n ∧ ∀ v ∈ vs, OddV K A F2 v
theorem eda_odd {D : Dp} {σ : HSt} {F : Hp} {ta : TE} {ts : TA} {n : Nat} (ha : EOdd K A D ta σ F) (hb : ∀ F1, Ex F F1 → EDA D 0 ts σ F1 (RsOdd K A n)) : EDA D 0 (tCons ta ts) σ F (RsOdd K A (n + 1)) :=
  eda_cons (c1 := 0) (c2 := 0) ha (fun _ F1 x1 _ => hb F1 x1) (fun v vs F1 F2 x1 x2 h ⟨e, k⟩ => ⟨by rw [List.length_cons, e], fun u hu => by
    rcases List.mem_cons.mp hu with z | z
    · rw [z]; exact h.mono x2
    · exact k u z⟩)
theorem eda_odd0 {D : Dp} {σ : HSt} {F : Hp} : EDA D 0 tNil σ F (RsOdd K A 0) := EDA.mono eda_nil (Nat.le_refl _) fun vs F2 _ e => by rw [e]; exact ⟨rfl, fun v hv => absurd hv (by simp)⟩
variable {D : Dp} {σ : HSt} {F : Hp}
theorem odd_non (U : Txe K mg A) : EOdd K A D (tC .non) σ F := ED.mono (ed_v ev_c) (Nat.le_refl _) fun v F2 _ e => by rw [e]; exact ⟨_, fun _ _ => .base .non, U.oN⟩
theorem odd_int (U : Txe K mg A) {i : Int} : EOdd K A D (tC (.int i)) σ F := ED.mono (ed_v ev_c) (Nat.le_refl _) fun v F2 _ e => by rw [e]; exact ⟨_, fun _ _ => .base (.int _), U.oI⟩
theorem odd_bl (U : Txe K mg A) {i : Bool} : EOdd K A D (tC (.bl i)) σ F := ED.mono (ed_v ev_c) (Nat.le_refl _) fun v F2 _ e => by rw [e]; exact ⟨_, fun _ _ => .base (.bl _), U.oB⟩
theorem odd_str (U : Txe K mg A) {i : Str} : EOdd K A D (tC (.str i)) σ F := ED.mono (ed_v ev_c) (Nat.le_refl _) fun v F2 _ e => by rw [e]; exact ⟨_, fun _ _ => .base (.str _), U.oS⟩
theorem odd_lst (U : Txe K mg A) {te : TE} {R : V → Hp → Prop} (h : ED D 0 te σ F R) (hr : ∀ v F2, R v F2 → ∃ p xs, v = .ref p ∧ F2 p = some (.lst xs)) : EOdd K A D te σ F := ED.mono h (Nat.le_refl _) fun v F2 _ r => by
  obtain ⟨p, xs, e, h⟩ := hr v F2 r
  rw [e]
  exact ⟨_, fun F3 x3 => .base (.lst (x3 _ _ h)), U.oL⟩
theorem odd_tup (U : Txe K mg A) {te : TE} {R : V → Hp → Prop} (h : ED D 0 te σ F R) (hr : ∀ v F2, R v F2 → ∃ p xs, v = .ref p ∧ F2 p = some (.tup xs)) : EOdd K A D te σ F := ED.mono h (Nat.le_refl _) fun v F2 _ r => by
  obtain ⟨p, xs, e, h⟩ := hr v F2 r
  rw [e]
  exact ⟨_, fun F3 x3 => .base (.tup (x3 _ _ h)), U.oT⟩
theorem odd_dct (U : Txe K mg A) : EOdd K A D tDNewK σ F := fun n H1 w hn Q q p hp => q (.ref p) (upd F p (.dK [])) _ (w.goNew hp (Ex.new hp) upd_same) ⟨_, fun F3 x3 => .base (.dK (x3 _ _ upd_same)), U.oD⟩
theorem mk_runD {C : Addr} {n0 c : Nat} {sp : Sp} {dvs : List V} {E : XK} {t : TA} {Q : VK} {H : Hp} {Rs : List V → Hp → Prop} (w : Dw D n0 F H) (h : EDA D c t σ F Rs) (hn : n0 + c ≤ (1099511627776 : Nat))
    (k : ∀ vs F2 H2, Go D (n0 + c) F H F2 H2 → Rs vs F2 → ∀ x dx, H2 x = none → H2 dx = none → dx ≠ x → sp (.ref x :: (vs ++ dvs)) (upd (upd H2 dx (.own x)) x (.ins C dx [])) (fun v H3 => v = .non ∧ Q (.ref x) H3) E) : tMake C sp dvs E t σ H Q :=
  h n0 H w hn _ fun vs F2 H2 g r => k vs F2 H2 g r
/-- Entry("a", []) -/
theorem ed_entA (T : Txt K mg A) : ED D 0 (tMake A.C_Entry (sp_Entry_init K A.C_Entry) [.ref A.t_FIRST_TIME, .str ""] C8.E0 (tCons (tC (.str "a")) (tCons (tLst tNil) tNil))) σ F (fun v F2 => ∃ a, v = .ref a ∧ IsEnt K A.C_Entry F2 a ⟨"a", [], ⟨1980, 1, 1, 0, 0, 0⟩, ""⟩) := fun n H1 w hn Q q => by
  refine mk_runD (c := 0) (Rs := fun vs F2 => ∃ p, vs = [.str "a", .ref p] ∧ F2 p = some (.lst [])) w (eda_cons (c1 := 0) (c2 := 0) (ed_v ev_c) (fun _ F1 x1 _ => eda_cons (c1 := 0) (c2 := 0) (ed_l (el_lst ea_nil (by decide))) (fun _ _ _ _ => eda_nil) (Rz := fun vs F2 => ∃ p, vs = [.ref p] ∧ F2 p = some (.lst [])) (fun v vs F3 F4 x3 x4 ⟨p, e, h⟩ e2 => ⟨p, by rw [e, e2], x4 _ _ h⟩)) (fun v vs F3 F4 x3 x4 e ⟨p, e2, h⟩ => ⟨p, by rw [e, e2], h⟩)) hn fun vs F2 H2 g ⟨p, e, hp⟩ x dx h1 h2 h3 => ?_
  subst e
  exact new_entry (e := ⟨"a", [], ⟨1980, 1, 1, 0, 0, 0⟩, ""⟩) g.dw.ex (sq_of hp) (T.g_FIRST_TIME.tup _) ⟨by decide +kernel, by decide +kernel, by decide, by decide +kernel, by decide +kernel⟩ (fun x H3 hx e3 hI => q _ _ H3 (g.trans (g.dw.goGrow e3)) ⟨x, rfl, hI⟩) x dx h1 h2 h3 _
theorem odd_ent (T : Txt K mg A) (U : Txe K mg A) : EOdd K A D (tMake A.C_Entry (sp_Entry_init K A.C_Entry) [.ref A.t_FIRST_TIME, .str ""] C8.E0 (tCons (tC (.str "a")) (tCons (tLst tNil) tNil))) σ F := ED.mono (ed_entA T) (Nat.le_refl _) fun v F2 _ ⟨a, e, dx, l, t, h, _⟩ => by
  rw [e]
  exact ⟨_, fun F3 x3 => .base (.ins (x3 _ _ h) T.ic_Entry.cl T.ic_Entry.ha T.ic_Entry.hn T.ic_Entry.htk T.ic_Entry.hm), U.oE⟩
end
end EL
set_option maxHeartbeats 4000000
namespace EL
open PySem PySem.Spec PyProof.Rows L2 Evl LamX
abbrev NL : List Str := ["_law_script", "_law_draw", "_law_turn", "_law_entries", "_law_some_here", "_law_matter", "_law_titles", "_law_one", "_law_odd", "_law_works", "_law_work"]
theorem sc_law : FnScope NL ["_law_script"] (defScope s_law) := C8.fnScope_by (by decide +kernel)
theorem one_lk {y0 y : Str} {c0 c1 : Addr} (e : List.lookup y [(y0, c0)] = some c1) : c0 = c1 := by
  rw [List.lookup_cons] at e
  cases h : (y == y0) with
  | true => rw [h] at e; cases e; rfl
  | false => rw [h] at e; cases e
theorem SpD.mono {D : Dp} {c c1 : Nat} {sp : Sp} {vs : List V} {F : Hp} {R R1 : V → Hp → Prop} (h : SpD D c sp vs F R) (hc : c ≤ c1) (hr : ∀ v F2, Ex F F2 → R v F2 → R1 v F2) : SpD D c1 sp vs F R1 := fun n H1 w hn Q q E => h n H1 w (by omega) Q (fun v F2 H2 g r => q v F2 H2 (g.more (by omega)) (hr v F2 g.ex r)) E
/-- a list of entries of the law, their names paths -/
def EntsL (K : PySem.W.Frag) (v : V) (F : Hp) : Prop := ∃ (p : Addr) (ps : List (V × Ent)), v = .ref p ∧ SqL K F p (ps.map (·.1)) ∧ LEs K F ps ∧ EsOk (ps.map (·.2)) ∧ (∀ y ∈ ps, TiOk y.2.name) ∧ ps.length ≤ 10
theorem EntsL.mono {K : PySem.W.Frag} {F F1 : Hp} {v : V} (h : EntsL K v F) (x : Ex F F1) : EntsL K v F1 := let ⟨p, ps, a, b, c, d⟩ := h; ⟨p, ps, a, ex_l x b, c.mono x, d⟩
theorem EsOk.perm {a b : List Ent} (h : EsOk a) (p : List.Perm b a) : EsOk b := ⟨by rw [p.length_eq]; exact h.1, (p.map (·.name)).nodup_iff.mpr h.2.1, fun e he => h.2.2 e (p.mem_iff.mp he)⟩
theorem perm_pairs {α β : Type} {ys : List α} {ps : List (α × β)} (h : List.Perm ys (ps.map (·.1))) : ∃ qs : List (α × β), qs.map (·.1) = ys ∧ List.Perm qs ps := by
  have key : ∀ {a b : List α}, List.Perm a b → ∀ ps : List (α × β), ps.map (·.1) = b → ∃ qs : List (α × β), qs.map (·.1) = a ∧ List.Perm qs ps := by
    intro a b hp
    induction hp with
    | nil => intro ps e; exact ⟨[], rfl, by rw [List.map_eq_nil_iff.mp e]⟩
    | cons x _ ih =>
      intro ps e
      cases ps with
      | nil => cases e
      | cons p ps =>
        rw [List.map_cons] at e
        obtain ⟨e1, e2⟩ := List.cons.inj e
        obtain ⟨qs, h1, h2⟩ := ih ps e2
        exact ⟨p :: qs, by rw [List.map_cons, h1, e1], h2.cons p⟩
    | swap x y l =>
      intro ps e
      match ps, e with
      | p :: q :: r, e =>
        rw [List.map_cons, List.map_cons] at e
        obtain ⟨e1, e2⟩ := List.cons.inj e
        obtain ⟨e3, e4⟩ := List.cons.inj e2
        exact ⟨q :: p :: r, by rw [List.map_cons, List.map_cons, e1, e3, e4], .swap p q r⟩
    | trans _ _ ih1 ih2 =>
      intro ps e
      obtain ⟨qs, h1, h2⟩ := ih2 ps e
      obtain ⟨rs, h3, h4⟩ := ih1 qs h1
      exact ⟨rs, h3, h4.trans h2⟩
  exact key h ps rfl
section
variable {K : PySem.W.Frag} {D : Dp} {c c1 c2 n : Nat} {te ta tb : TE} {tt t1 t2 : TT} {ts : TA} {σ : HSt} {F H : Hp} {R : V → Hp → Prop}
theorem edt_or {Rx Ry Rz : Bool → Hp → Prop} (h1 : EDT D c1 t1 σ F Rx) (h2 : ∀ F1, Ex F F1 → Rx false F1 → EDT D c2 t2 σ F1 Ry) (ht : ∀ b F1, Ry b F1 → Rz b F1) (hf : ∀ F1, Rx true F1 → Rz true F1) : EDT D (c1 + c2) (tOr t1 t2) σ F Rz := fun n H1 w hn Q q =>
  h1 n H1 w (by omega) _ fun b F1 H2 g1 r1 => by
    cases b with
    | false => exact h2 F1 g1.ex r1 (n + c1) H2 g1.dw (by omega) Q fun b F2 H3 g2 r2 => q b F2 H3 ((g1.trans g2).more (by omega)) (ht b F2 r2)
    | true => exact q true F1 H2 (g1.more (by omega)) (hf F1 r1)
theorem d_not {Dn : Ends} {tu : TS} (w : Dw D n F H) (h : EDT D c tt σ F (fun b _ => b = false)) (hn : n + c ≤ (1099511627776 : Nat)) (k : ∀ F2 H2, Go D (n + c) F H F2 H2 → Dn.nx σ H2) : tIfS tt tu tNext Dn σ H := h n H w hn _ fun b F2 H2 g r => by
  subst r
  exact k F2 H2 g
/-- clash(state), told by what it returns -/
theorem spd_clash {A : Ads} {a : Addr} {zs : List PE1} {cm : Str} (h : IsSta K A F a zs cm) (hl : zs.length ≤ 20) (hn : ∀ z ∈ zs, (enm z).length ≤ 1000) : SpD D 0 (sp_clash K A) [.ref a] F (fun v F2 => FcV K F2 (fcl (zs.map enm) zs.length) v) := fun n H1 w hn0 Q q E => by
  refine ⟨a, zs, cm, rfl, h.mono w.ex, hl, hn, ?_⟩
  cases hf : fcl (zs.map enm) zs.length with
  | none => exact fun H2 e2 => q _ F H2 (w.go e2) (by rw [hf]; exact rfl)
  | some r =>
    obtain ⟨x, y⟩ := r
    exact fun p H2 hp e2 h2 => q _ _ H2 (w.goNew hp e2 h2) (by rw [hf]; exact ⟨p, rfl, st_of upd_same⟩)
theorem ed_repr {fc : Option (Str × Str)} (h : ED D c te σ F (fun v F2 => FcV K F2 fc v)) (hs : ∀ x y, fc = some (x, y) → smallS x ∧ smallS y) : ED D c (tCB (rReprFc K) (tCons te tNil)) σ F (fun v _ => v = .str (reprFc fc)) := fun n H1 w hn Q q =>
  h n H1 w hn _ fun v F2 H2 g r => ⟨v, fc, rfl, by
    cases fc with
    | none => exact r
    | some xy =>
      obtain ⟨x, y⟩ := xy
      obtain ⟨p, e, ht⟩ := r
      exact ⟨(hs x y rfl).1, (hs x y rfl).2, p, e, ex_t g.dw.ex ht⟩, q _ F2 H2 g rfl⟩
theorem rv_neFc {fc : Option (Str × Str)} {x y : V} (hx : FcV K F fc x) (hy : FcV K F fc y) : RV (rNeFc K) x y F (.bl false) := fun H1 e Q q => ⟨by
  cases fc with
  | none => exact .inl ⟨hx, hy⟩
  | some xy =>
    obtain ⟨u, v⟩ := xy
    obtain ⟨p, e1, h1⟩ := hx
    obtain ⟨p2, e2, h2⟩ := hy
    exact .inr ⟨p, p2, [u, v], e1, e2, ex_t e h1, ex_t e h2⟩, q H1 (Ex.refl H1)⟩
end
theorem fcl_mem {ns : List Str} : ∀ {n : Nat} {x y : Str}, fcl ns n = some (x, y) → x ∈ ns ∧ y ∈ ns
  | n + 1, x, y, h => by
    have h : (match fcl ns n with | some r => some r | none => match ns[n]? with | none => none | some y => ((ns.take n).find? fun x => doCl x y).map fun x => (x, y)) = some (x, y) := h
    cases hf : fcl ns n with
    | some r =>
      rw [hf] at h
      have h : some r = some (x, y) := h
      rw [Option.some.inj h] at hf
      exact fcl_mem hf
    | none =>
      rw [hf] at h
      cases hy : ns[n]? with
      | none => rw [hy] at h; cases h
      | some z =>
        rw [hy] at h
        have h : ((ns.take n).find? fun x => doCl x z).map (fun x => (x, z)) = some (x, y) := h
        cases hg : (ns.take n).find? (fun x => doCl x z) with
        | none => rw [hg] at h; cases h
        | some u =>
          rw [hg] at h
          cases h
          exact ⟨List.mem_of_mem_take (List.mem_of_find?_eq_some hg), List.mem_of_getElem? hy⟩
theorem ti_small {w : Str} (h : TiOk w) : smallS w := ⟨Nat.le_trans h.2.2 (by decide), fun c hc => by
  have := List.all_eq_true.mp h.1 c hc
  unfold prN at this
  rw [Bool.and_eq_true, Bool.and_eq_true, decide_eq_true_eq, decide_eq_true_eq] at this
  have h2 := this.1.2
  have : (126 : Nat) < 16 ^ 8 := by decide
  omega⟩
section
variable {P : Program} {w : World} {K : PySem.W.Frag} {mg : Str → Option Value} {base : Heap} {A : Ads} {D : Dp} {P0 : Addr} {q : Str} {n : Nat} {G H : Hp} {c0 : Addr}
/-- a kept lambda that refuses -/
def LamG (P : Program) (w : World) (K : PySem.W.Frag) (mg : Str → Option Value) (base : Heap) (A : Ads) (q : Str) (c0 : Addr) (G : Hp) (f : Addr) : Prop := ∃ (c' : Addr) (params : Arguments) (body : Expr) (scope : Scope), G f = some (LamO f c' q params body scope [(("_law_odd" : Str), c0)]) ∧ G c' = some (CodeO c' q) ∧ LamRun P w K mg base ["_law_odd"] q [(("_law_odd" : Str), c0)] 2 params body scope (tNo K A)
theorem LamG.mono {G2 : Hp} {f : Addr} (h : LamG P w K mg base A q c0 G f) (x : Ex G G2) : LamG P w K mg base A q c0 G2 f := let ⟨c', params, body, scope, a, b, c⟩ := h; ⟨c', params, body, scope, x _ _ a, x _ _ b, c⟩
theorem lam_step {σ : HSt} (s : LS D P0 q n G H) {Q : VK} {params : Arguments} {body : Expr} {scope : Scope} {cl : List (Str × Addr)} (LR : LamRun P w K mg base ["_law_odd"] q [(("_law_odd" : Str), c0)] 2 params body scope (tNo K A)) (hcl : cl = [(("_law_odd" : Str), c0)])
    (k : ∀ (f : Addr) (G2 H2 : Hp), LS D P0 q n G2 H2 → Ex G G2 → LamG P w K mg base A q c0 G2 f → (∀ b xs, b ≠ P0 → H b = some (.lst xs) → G b = none → G2 b = none ∧ H2 b = some (.lst xs)) → Q (.ref f) H2) :
    tLamK P0 q params body scope cl σ H Q := by
  subst hcl
  refine ⟨s.tb, fun f c' H1 t kp hf hf0 hc => ?_⟩
  obtain ⟨G2, s2, x2, g1, g2, g3⟩ := s.lam (params := params) (body := body) (scope := scope) (cl := [(("_law_odd" : Str), c0)]) t kp hf hf0 hc
  refine k f G2 _ s2 x2 ⟨c', params, body, scope, g1, g2, LR⟩ fun b xs hb h1 h2 => ?_
  have e1 := kp b _ hb h1
  have nf : b ≠ f := fun z => by rw [z, hf] at e1; cases e1
  refine ⟨g3 b h2 nf (fun z => ?_), by rw [upd_ne nf]; exact e1⟩
  rw [z, hc] at e1
  unfold CodeO at e1
  cases e1
/-- a local list is changed -/
theorem LS.mut (s : LS D P0 q n G H) {p : Addr} {xs ys : List V} (hp : H p = some (.lst xs)) (gp : G p = none) (n1 : p ≠ D.d) (n2 : p ≠ D.g) (n3 : p ≠ D.l) (n4 : p ≠ P0) : LS D P0 q n G (upd H p (.lst ys)) := by
  refine ⟨s.dw.goMut gp n1 n2 n3, s.gp, ?_, s.nd, s.ng⟩
  obtain ⟨ps, h1, h2, h3⟩ := s.tb
  refine ⟨ps, by rw [upd_ne (Ne.symm n4)]; exact h1, h2, fun pos cv hc => ?_⟩
  obtain ⟨c, e1, e2⟩ := h3 pos cv hc
  refine ⟨c, e1, ?_⟩
  rw [upd_ne (fun z => ?_)]
  · exact e2
  · rw [z, hp] at e2
    unfold CodeO at e2
    cases e2
end
theorem sq_lstLam {σ : HSt} {H : Hp} {tl : TE} {tz : TS} {Dn : Ends} {i : Nat} (h : tl σ H (fun x H1 => 1 ≤ sizeLine ∧ ∀ p, H1 p = none → tz Dn (σ.set i (some (.ref p))) (upd H1 p (.lst [x])))) : tSeq (tAsg (tLst (tCons tl tNil)) (gName i)) tz Dn σ H := h
theorem sq_appLam {K : PySem.W.Frag} {σ : HSt} {H : Hp} {tl : TE} {tz : TS} {Dn : Ends} {j : Nat} {p : Addr} {xs : List V} (hj : σ[j]? = some (some (.ref p))) (hp : H p = some (.lst xs))
    (h : tl σ H (fun x H1 => ∃ (l : Addr) (xs : List V) (y : V), V.ref p = .ref l ∧ [x] = [y] ∧ H1 l = some (.lst xs) ∧ xs.length < sizeLine ∧ tz Dn σ (upd H1 l (.lst (xs ++ [y]))))) : tSeq (tDrop (tBM K "list" rAppend (tVar j) (tCons tl tNil))) tz Dn σ H := ⟨_, hj, .inl ⟨rfl, xs, sq_of hp⟩, h⟩
/-- the lambdas' name -/
def qLam : Str := (envOfC "law" (defScope s_law) 0 0 (.ref 0)).qual ++ "<lambda>"
/-- the cell of _law_odd -/
def cOdd (n : Nat) (f c : Addr) : Addr := ((envOfC "law" (defScope s_law) n f (.ref c)).cells.lookup ("_law_odd" : Str)).getD 0
section
variable {P : Program} {w : World} {K : PySem.W.Frag} {mg : Str → Option Value} {base : Heap} {A : Ads}
theorem cOdd_ok {A0 : Around} {outer : List Env} {s : Shared} {H : Hp} {f c : Addr} {pins : List (Addr × Obj)} {σ : HSt} {s' : Shared} {H' : Hp} (I : Inv (cxOf C8.CX0 P w K mg base NL "law" (defScope s_law) f (.ref c) A0 outer s H C8.E0).nox pins σ H' s') : (cxOf C8.CX0 P w K mg base NL "law" (defScope s_law) f (.ref c) A0 outer s H C8.E0).nox.env.cells.lookup ("_law_odd" : Str) = some (cOdd s.heap.objs.size f c) := by
  obtain ⟨c1, e⟩ := I.ok.has "_law_odd" (.inl rfl)
  have e2 : (envOfC "law" (defScope s_law) s.heap.objs.size f (.ref c)).cells.lookup ("_law_odd" : Str) = some c1 := e
  unfold cOdd
  rw [e2]
  exact e
theorem law_body (T : Txt K mg A) (U : Txe K mg A) {c P0 : Addr} (TB : TabB base mg c P0) {A0 : Around} {outer : List Env} {s : Shared} {H : Hp} {f : Addr} {a : Addr} {ns : List Int} {Q : VK} (hgu : A0.guards = some [])
    (hr : Room 8 (A0.deeper (envOfC "law" (defScope s_law) s.heap.objs.size f (.ref c)))) (hP : H P0 = some (.tbl #[])) (ha : SqL K H a (ns.map V.int)) (hl : ns.length ≤ 63) (haP : a ≠ P0) (k : ∀ H2, Q (.bl true) H2) :
    ∃ t, PSs (cxOf C8.CX0 P w K mg base NL "law" (defScope s_law) f (.ref c) A0 outer s H C8.E0).nox (defBody s_law) t ∧ t { nx := fun _ H' => Q .non H', rt := Q } (start NL [.ref a]) H := by
  have sc := sc_law
  have c__law_begun : C8.Cal P w K mg base 1 _ _ _ := c__law_begun T
  have c__law_next : C8.Cal P w K mg base 1 _ _ _ := c__law_next T
  have c__law_pick : C8.Cal P w K mg base 2 _ _ _ := c__law_pick T
  have c__law_path_entries : C8.Cal P w K mg base 5 _ _ _ := c__law_path_entries T
  have c__law_shuffled : C8.Cal P w K mg base 2 _ _ _ := c__law_shuffled T
  have c__law_state : C8.Cal P w K mg base 8 _ _ _ := c__law_state T
  have c__law_note : C8.Cal P w K mg base 3 _ _ _ := c__law_note T
  have c__law_due : C8.Cal P w K mg base 3 _ _ _ := c__law_due T
  have c_clash : C8.Cal P w K mg base 5 _ _ _ := c_clash T
  have k_clash : CalK P w K mg base 5 _ _ _ _ _ := k_clash T
  have c_Entry2 : C8.Mak P w K mg base 5 _ _ _ _ := c_Entry2 T
  refine ⟨_, (pss_cons (ps_set (i := 1) sc.nd rfl (by first | exact Or.inl rfl | exact Or.inr rfl) (C8.pe_c c__law_begun hr (by decide) (by rfl) (pa_cons (pv 0) pa_nil)))
    (pss_cons (ps_for PassesOwn.never rfl (pi_range1 (by rfl) T.b_range (pa_cons (pe_n 4) pa_nil)) (pg_name (i := 2) sc.nd rfl (by first | exact Or.inl rfl | exact Or.inr rfl))
      (pss_cons (ps_set (i := 3) sc.nd rfl (by first | exact Or.inl rfl | exact Or.inr rfl) (C8.pe_c c__law_path_entries hr (by decide) (by rfl) (pa_cons (pv 1) (pa_cons (C8.pe_c c__law_next hr (by decide) (by rfl) (pa_cons (pv 1) (pa_cons (pe_n 11) pa_nil))) pa_nil))))
      (pss_cons (ps_for PassesOwn.never rfl (pi_list (pe_lst (pa_cons (pv 3) (pa_cons (pe_revL (pv 3)) (pa_cons (C8.pe_c c__law_shuffled hr (by decide) (by rfl) (pa_cons (pv 1) (pa_cons (pv 3) pa_nil))) pa_nil))))) (pg_name (i := 4) sc.nd rfl (by first | exact Or.inl rfl | exact Or.inr rfl))
        (pss_cons (ps_par (i := 5) (j := 6) (by rfl) sc.nd rfl rfl (by decide) rfl rfl (pa_cons (C8.pe_c c__law_state hr (by decide) (by rfl) (pa_cons (pv 4) (pa_cons (C8.pe_c c__law_note hr (by decide) (by rfl) (pa_cons (pv 1) pa_nil)) pa_nil))) (pa_cons (pe_lc (own := [("_law_one", 7)]) (g := gName 7) rfl sc.nd (pi_list (pv 4)) (blkOk_by (N := NL) (sc := defScope s_law) (by decide +kernel)) (fun _ _ _ _ _ => pg_name (i := 7) sc.nd rfl (Or.inl rfl)) (fun _ _ _ _ _ => pts_nil) (fun _ _ _ _ _ => (pe_ix (r := rIxT K) ix_tup (pv 7) (pe_n 0) (fun _ _ => rfl)))) pa_nil)) (by rfl))
        (pss_one (ps_if (PW.pt (pw_or (pt_cmpR op_ne (pe_callB (call_reprFc (k := 8) hgu hr) (by rfl) T.b_repr (by decide +kernel) (pa_cons (C8.pe_c c_clash hr (by decide) (by rfl) (pa_cons (pv 5) pa_nil)) pa_nil)) (pe_callB (call_reprFc (k := 8) hgu hr) (by rfl) T.b_repr (by decide +kernel) (pa_cons (C8.pe_c c__law_due hr (by decide) (by rfl) (pa_cons (pv 6) pa_nil)) pa_nil)) (nomark _)) (pw_or1 (pt_cmpR (op_neFc (hu0 hr)) (pe_cK0 k_clash hr (by decide) (by rfl) (pk_cons (pv 5) pk_nil)) (C8.pe_c c_clash hr (by decide) (by rfl) (pa_cons (pv 5) pa_nil)) (nomark _))))) (pss_one (ps_ret pe_bl)) pss_nil))))
      (pss_cons (ps_set (i := 8) sc.nd rfl (by first | exact Or.inl rfl | exact Or.inr rfl) (C8.pe_c c__law_pick hr (by decide) (by rfl) (pa_cons (pv 1) (pa_cons (pe_lst (pa_cons pe_non (pa_cons (pe_n 5) (pa_cons pe_bl (pa_cons pe_str (pa_cons (pe_lst pa_nil) (pa_cons pe_dnewK (pa_cons (pe_lst (pa_cons (C8.pe_mk c_Entry2 hr (by decide) (by rfl) (pa_cons pe_str (pa_cons (pe_lst pa_nil) pa_nil))) pa_nil)) (pa_cons (C8.pe_mk c_Entry2 hr (by decide) (by rfl) (pa_cons pe_str (pa_cons (pe_lst pa_nil) pa_nil))) (pa_cons (pe_tup pa_nil) pa_nil)))))))))) pa_nil))))
      (pss_cons (ps_set (i := 9) sc.nd rfl (by first | exact Or.inl rfl | exact Or.inr rfl) (pe_lst (pa_cons (pe_lam (q := qLam) TB rfl rfl rfl ((LamX.lamS_by (sc := defScope s_law) (by decide +kernel)).free)) pa_nil)))
      (pss_cons (ps_expr (pe_bm PySem.F.plainAttrs_list PySem.F.slot_list_append PySem.F.type_list_append mt_append (pv 9) (pa_cons (pe_lam (q := qLam) TB rfl rfl rfl ((LamX.lamS_by (sc := defScope s_law) (by decide +kernel)).free)) pa_nil)))
      (pss_cons (ps_expr (pe_bm PySem.F.plainAttrs_list PySem.F.slot_list_append PySem.F.type_list_append mt_append (pv 9) (pa_cons (pe_lam (q := qLam) TB rfl rfl rfl ((LamX.lamS_by (sc := defScope s_law) (by decide +kernel)).free)) pa_nil)))
      (pss_one (ps_if (pt_cmpR (op_neE (hu0 hr)) (pe_lcI (own := [("_law_work", 10)]) (g := gName 10) rfl sc.nd (pi_list (pv 9)) (blkOk_by (N := NL) (sc := defScope s_law) (by decide +kernel)) (fun _ _ _ _ _ => pg_name (i := 10) sc.nd rfl (Or.inl rfl)) (tt := fun σ => tNot (tB (tAt 1 (tCons (tVar 10) tNil) (GoodR P w K mg base A ["_law_odd"] qLam [("_law_odd", cOdd s.heap.objs.size f c)] [(σ[8]?).getD none])))) (fun pins σ s' H' C cl fp I hfp => pts_one (pt_not (pt_val (pe_refused (q := qLam) T U (fun pins2 σ2 s2 H2 I2 => CK.run (ck_slot (j := 8) I rfl rfl (cOdd_ok I)) I2 (fun y c1 e1 hm => (hfp c1 hm).2.2.2.2.1 _ _ (cOdd_ok I) (one_lk e1))) rfl hr (by decide) (by rfl) (pa_cons (pv 10) pa_nil))))) (fun pins σ s' H' C cl fp I hfp => pv 10)) (pe_lst pa_nil) (nomark _)) (pss_one (ps_ret pe_bl)) pss_nil)))))))))
    (pss_one (ps_ret pe_bl)))), ?_⟩
  -- the base: all but the table
  let F0 : Hp := fun b => if b = P0 then none else H b
  have fx : Ex F0 H := fun b o e => by
    by_cases hb : b = P0
    · have : F0 b = none := if_pos hb
      rw [this] at e
      cases e
    · have : F0 b = H b := if_neg hb
      rw [← this]
      exact e
  refine ⟨_, rfl, a, ns, rfl, ha, by omega, fun D H2 e2 w2 => ?_⟩
  have f0 : ∀ b, H b = none → F0 b = none := fun b hb => by
    by_cases h : b = P0
    · exact if_pos h
    · exact (if_neg h).trans hb
  have w0 : Dw D 0 F0 H2 := w2.base (fx.trans e2) (f0 _ w2.fd) (f0 _ w2.fg)
  have s0 : LS D P0 qLam 0 F0 H2 := ⟨w0, if_pos rfl, TabS.nil (e2 _ _ hP), (fun z => by have := w2.fd; rw [← z, hP] at this; cases this), (fun z => by have := w2.fg; rw [← z, hP] at this; cases this)⟩
  refine zs_for (F := F0) (xs := vns (List.range 4)) w0.ex (ei_rng1n (ea_cons ev_c ea_nil) (by decide)) (fun i σ' H' => ∃ (G : Hp) (x2 x3 x4 x5 x6 x7 x8 x9 x10 : Option V), LS D P0 qLam (i * 1000) G H' ∧ Ex F0 G ∧ σ' = [some (.ref a), some (.ref D.d), x2, x3, x4, x5, x6, x7, x8, x9, x10]) (fun H3 e3 => ⟨F0, none, none, none, none, none, none, none, none, none, s0.up e3, Ex.refl F0, rfl⟩) (fun i σ' H' ⟨G, x2, x3, x4, x5, x6, x7, x8, x9, x10, s, x, _⟩ => x.trans s.dw.ex) (fun i x σ' H' hx hPv => ?_) (fun σ' H' hPv => z_ret (Ex.refl H') ev_c fun H3 _ => k H3)
  obtain ⟨G, x2, x3, x4, x5, x6, x7, x8, x9, x10, s1, xG, rfl⟩ := hPv
  have hi : i < 4 := (List.getElem?_eq_some_iff.mp hx).1
  have hstep : (i + 1) * 1000 = i * 1000 + 1000 := Nat.succ_mul i 1000
  show tSeq (tAsg _ _) _ _ _ _
  -- the entries
  refine dq_asg (c := 1 + 700) (R := EntsL K) s1.dw (ed_call (c1 := 1) (c2 := 700) (Rs := fun vs _ => ∃ m : Nat, vs = [.ref D.d, vn m] ∧ m ≤ 10) (eda_cons (c1 := 0) (c2 := 1) (Ra := fun v _ => v = .ref D.d) (Rs := fun vs _ => ∃ m : Nat, vs = [vn m] ∧ m ≤ 10) (ed_v (ev_var rfl)) (fun _ F1 x1 _ => eda_cons (c1 := 1) (c2 := 0) (Ra := fun v _ => ∃ r : Nat, r < 11 ∧ v = vn r) (ed_next (ev_var rfl) (by decide) (by decide)) (fun _ _ _ _ => eda_nil) (fun v vs _ _ _ _ ⟨r, h, e⟩ e2 => ⟨r, by rw [e, e2], by omega⟩)) (fun v vs _ _ _ _ e ⟨m, e2, h⟩ => ⟨m, by rw [e, e2], h⟩)) (fun vs F1 x1 ⟨m, e, hm⟩ => by
    rw [e]
    exact SpD.mono (spd_pathE (by omega)) (by omega) fun v F2 _ ⟨p, ps, h1, h2, h3, h4, h5, h6⟩ => ⟨p, ps, h1, sq_of h2, h3, h4, h5, by omega⟩)) (by omega) fun v F2 H3 g2 hEnt => ?_
  have s2 := s1.go g2
  obtain ⟨pE, psE, hvE, hpE, hLE, hOE, hTE, hNE⟩ := id hEnt
  subst hvE
  -- three sequences
  refine zs_forD (c := 10) (Rx := fun xs F3 => xs.length = 3 ∧ ∀ x ∈ xs, EntsL K x F3) s2.dw ?_ (by omega) fun p xs F3 H4 g3 hp hxs => ?_
  · refine ED.mono (ed_lst (c := 0 + (0 + (10 + 0))) (Rs := fun vs F3 => vs.length = 3 ∧ ∀ x ∈ vs, EntsL K x F3) (Rt := fun vs F3 => vs.length = 3 ∧ ∀ x ∈ vs, EntsL K x F3) (eda_cons (c1 := 0) (c2 := 0 + (10 + 0)) (Ra := EntsL K) (Rs := fun vs F3 => vs.length = 2 ∧ ∀ x ∈ vs, EntsL K x F3) (ED.mono (ed_v (ev_var rfl)) (Nat.le_refl _) fun v F4 x4 e => by rw [e]; exact hEnt.mono x4) (fun _ F4 x4 _ => eda_cons (c1 := 0) (c2 := 10 + 0) (Ra := EntsL K) (Rs := fun vs F3 => vs.length = 1 ∧ ∀ x ∈ vs, EntsL K x F3) ?_ (fun _ F5 x5 _ => eda_cons (c1 := 10) (c2 := 0) (Ra := EntsL K) (Rs := fun vs _ => vs = []) ?_ (fun _ _ _ _ => eda_nil) (fun v vs F6 F7 x6 x7 h e => ⟨by rw [e] <;> rfl, fun u hu => by rw [e] at hu; rw [List.mem_singleton.mp hu]; exact h.mono x7⟩)) (fun v vs F6 F7 x6 x7 h ⟨e, kk⟩ => ⟨by rw [List.length_cons, e], fun u hu => by
        rcases List.mem_cons.mp hu with z | z
        · rw [z]; exact h.mono x7
        · exact kk u z⟩)) (fun v vs F6 F7 x6 x7 h ⟨e, kk⟩ => ⟨by rw [List.length_cons, e], fun u hu => by
        rcases List.mem_cons.mp hu with z | z
        · rw [z]; exact h.mono x7
        · exact kk u z⟩)) (fun vs F1 h => by rw [h.1]; decide) (fun vs F1 F2 x h => ⟨h.1, fun u hu => (h.2 u hu).mono x⟩)) (by omega) fun v F3 _ ⟨p, vs, h1, h2, h3⟩ => ⟨p, vs, h1, h2, h3⟩
    · intro n5 H5 w5 hn5 Q5 q5
      refine ⟨_, rfl, pE, psE.map (fun y : V × Ent => y.1), rfl, ex_l (x4.trans w5.ex) hpE, fun p5 hp5 => q5 _ _ _ (w5.goNew hp5 (Ex.new hp5) upd_same) ⟨p5, psE.reverse, rfl, sq_of (by rw [upd_same, List.map_reverse]), ?_, ?_, ?_, ?_⟩⟩
      · exact fun y hy => (hLE y (List.mem_reverse.mp hy)).mono (x4.trans (Ex.new (fresh_back w5.ex hp5)))
      · exact hOE.perm ((List.reverse_perm psE).map _)
      · exact fun y hy => hTE y (List.mem_reverse.mp hy)
      · rw [List.length_reverse]; exact hNE
    · refine ED.mono (ed_call (R := fun v F2 => ∃ p ys, v = .ref p ∧ F2 p = some (.lst ys) ∧ List.Perm ys (psE.map (fun y : V × Ent => y.1))) (c1 := 0) (c2 := (psE.map (fun y : V × Ent => y.1)).length) (eda_v (ea_cons (ev_var rfl) (ea_cons (ev_var rfl) ea_nil))) (fun vs F6 x6 r => by rw [r]; exact spd_shuf (ex_l ((x4.trans x5).trans x6) hpE) (by rw [List.length_map]; omega))) (by rw [List.length_map]; omega) fun v F6 x6 ⟨q6, ys, h1, h2, h3⟩ => ?_
      obtain ⟨qs, hq1, hq2⟩ := perm_pairs h3
      refine ⟨q6, qs, h1, sq_of (by rw [h2, hq1]), fun y hy => (hLE y (hq2.mem_iff.mp hy)).mono ((x4.trans x5).trans x6), hOE.perm (hq2.map _), fun y hy => hTE y (hq2.mem_iff.mp hy), by rw [hq2.length_eq]; exact hNE⟩
  have s3 := s2.go g3
  refine ⟨fun j σ' H' => ∃ (G : Hp) (x4 x5 x6 x7 x8 x9 x10 : Option V), LS D P0 qLam (i * 1000 + (1 + 700) + 10 + j * 50) G H' ∧ Ex F3 G ∧ σ' = [some (.ref a), some (.ref D.d), some x, some (.ref pE), x4, x5, x6, x7, x8, x9, x10], ⟨F3, x4, x5, x6, x7, x8, x9, x10, by rw [Nat.zero_mul]; exact s3, Ex.refl F3, rfl⟩, fun j σ' H' ⟨G, x4, x5, x6, x7, x8, x9, x10, s, x, _⟩ => x.trans s.dw.ex, fun j x' σ' H' hx' hPv => ?_, fun σ' H' hPv => ?_⟩
  · obtain ⟨G, x4, x5, x6, x7, x8, x9, x10, s4, xG4, rfl⟩ := hPv
    have hjl : j < 3 := by
      have := (List.getElem?_eq_some_iff.mp hx').1
      rwa [hxs.1] at this
    obtain ⟨pL, ps, hvL, hpL, hLL, hOL, hTL, hNL⟩ := (hxs.2 x' (List.mem_of_getElem? hx')).mono xG4
    subst hvL
    have hj50 : (j + 1) * 50 = j * 50 + 50 := Nat.succ_mul j 50
    show tSeq (tPar _ _ _) _ _ _ _
    refine dq_par (c1 := 41 + 0) (c2 := 0) (Ra := fun v F5 => ∃ b zs w, v = .ref b ∧ IsSta K A F5 b zs w ∧ zs.map (·.2) = ps.map (·.2)) (Rb := fun v F5 => ∃ q, v = .ref q ∧ F5 q = some (.lst (ps.map fun y => V.str y.2.name))) s4.dw
      (ed_call (c1 := 41) (c2 := 0) (Rs := fun vs _ => ∃ w : Str, vs = [.ref pL, .str w] ∧ comOk w = true) (eda_cons (c1 := 0) (c2 := 41) (Ra := fun v _ => v = .ref pL) (Rs := fun vs _ => ∃ w : Str, vs = [.str w] ∧ comOk w = true) (ed_v (ev_var rfl)) (fun _ F5 x5 _ => eda_cons (c1 := 41) (c2 := 0) (ed_note (ev_var rfl)) (fun _ _ _ _ => eda_nil) (fun v vs _ _ _ _ ⟨w, e, h⟩ e2 => ⟨w, by rw [e, e2], h⟩)) (fun v vs _ _ _ _ e ⟨w, e2, h⟩ => ⟨w, by rw [e, e2], h⟩)) (fun vs F5 x5 ⟨w, e, h⟩ => by
        rw [e]
        exact SpD.mono (spd_state (ex_l x5 hpL) (hLL.mono x5) hOL h) (Nat.le_refl _) fun v F6 _ ⟨b, zs, h1, h2, h3⟩ => ⟨b, zs, w, h1, h2, h3⟩))
      (fun v1 F5 x5 r5 => ED.mono (ed_l (el_map ps (·.1) (fun y => V.str y.2.name) (ei_list (ev_var rfl) (ex_l x5 hpL)) (by omega) (by intro _; rfl) (fun z hz F6 x6 => (let ⟨pz, d, t, e, h, _⟩ := (hLL z hz).mono (x5.trans x6); ev_op (ev_var (by rw [e] <;> rfl)) ev_c (rv_ixT h (atI_nat (j := 0) rfl)))))) (Nat.le_refl _) fun v F6 _ h => h) (by omega) fun v1 v2 F5 F6 H5 x56 g5 hm ht => ?_
    obtain ⟨b, zs, cm, hb, hsta, hzs⟩ := hm
    obtain ⟨q6, hq6, hq62⟩ := ht
    subst hb
    subst hq6
    have s5 := s4.go g5
    have hst6 := hsta.mono x56
    have hnm : zs.map enm = ps.map (fun y => y.2.name) := by
      have e1 : zs.map enm = (zs.map (·.2)).map (·.name) := by rw [List.map_map] <;> rfl
      rw [e1, hzs, List.map_map] <;> rfl
    have hzl : zs.length = ps.length := by
      have := congrArg List.length hzs
      rwa [List.length_map, List.length_map] at this
    have hti : ∀ w ∈ zs.map enm, TiOk w := fun w hw => by
      rw [hnm] at hw
      obtain ⟨y, hy, rfl⟩ := List.mem_map.mp hw
      exact hTL y hy
    have hz1000 : ∀ z ∈ zs, (enm z).length ≤ 1000 := fun z hz => Nat.le_trans (hti _ (List.mem_map_of_mem hz)).2.2 (by decide)
    have hsm : ∀ x y, fcl (zs.map enm) zs.length = some (x, y) → smallS x ∧ smallS y := fun x y h => ⟨ti_small (hti x (fcl_mem h).1), ti_small (hti y (fcl_mem h).2)⟩
    have hlst : SqL K F6 q6 ((zs.map enm).map V.str) := sq_of (by rw [hq62, hnm, List.map_map] <;> rfl)
    have hdue : ∀ F7, Ex F6 F7 → SpD D 0 (spD (A_due K)) [.ref q6] F7 (fun v F2 => FcV K F2 (fcl (zs.map enm) zs.length) v) := fun F7 x7 => by
      have h := spd_due (D := D) (ex_l x7 hlst) (by rw [List.length_map]; omega) (fun w hw => ⟨(hti w hw).2.1, Nat.le_trans (hti w hw).2.2 (by decide)⟩)
      rw [List.length_map] at h
      exact h
    have hcl : ∀ F7, Ex F6 F7 → SpD D 0 (sp_clash K A) [.ref b] F7 (fun v F2 => FcV K F2 (fcl (zs.map enm) zs.length) v) := fun F7 x7 => spd_clash (hst6.mono x7) (by omega) hz1000
    refine d_not (c := (0 + 0) + (0 + 0)) s5.dw (edt_or (c1 := 0 + 0) (c2 := 0 + 0) (Rx := fun b _ => b = false) (Ry := fun b _ => b = false) (edt_testR (ed_op (c1 := 0) (c2 := 0) (ed_repr (ed_call (c1 := 0) (c2 := 0) (eda_v (ea_cons (ev_var rfl) ea_nil)) (fun vs F7 x7 r => by rw [r]; exact hcl F7 x7)) hsm) (fun _ F7 x7 _ => ed_repr (ed_call (c1 := 0) (c2 := 0) (eda_v (ea_cons (ev_var rfl) ea_nil)) (fun vs F8 x8 r => by rw [r]; exact hdue F8 (x7.trans x8))) hsm) (Rz := fun v _ => ∃ b, v = .bl b ∧ b = false) (fun v1 v2 F7 F8 x7 x8 r1 r2 => by
        subst r1
        subst r2
        exact ⟨_, rv_ne rfl, _, rfl, by simp⟩)))
      (fun F7 x7 _ => edt_testR (ed_op (c1 := 0) (c2 := 0) (Ra := fun v F8 => FcV K F8 (fcl (zs.map enm) zs.length) v) (fun n9 H9 w9 hn9 Q9 q9 => ?_) (fun _ F8 x8 _ => ed_call (c1 := 0) (c2 := 0) (eda_v (ea_cons (ev_var rfl) ea_nil)) (fun vs F9 x9 r => by rw [r]; exact hcl F9 ((x7.trans x8).trans x9))) (Rz := fun v _ => ∃ b, v = .bl b ∧ b = false) (fun v1 v2 F8 F9 x8 x9 r1 r2 => ⟨_, rv_neFc (r1.mono x9) r2, _, rfl, rfl⟩))) (fun _ _ h => h) (fun _ h => nomatch h)) (by omega) fun F7 H6 g6 => ?_
    · refine ⟨_, rfl, rfl, rfl, ?_⟩
      exact hcl F7 x7 n9 H9 w9 hn9 Q9 q9 _
    · have s6 := s5.go g6
      exact ⟨F7, _, _, _, _, _, _, _, s6.more (by omega), (xG4.trans g5.ex).trans g6.ex, rfl⟩
  · obtain ⟨G4, y4, y5, y6, y7, y8, y9, y10, s4, xG4, rfl⟩ := hPv
    rw [hxs.1] at s4
    show tSeq (tAsg _ _) _ _ _ _
    -- a value that is no state
    refine dq_asg (c := 0 + 1) (R := fun v F5 => OddV K A F5 v) s4.dw ?_ (by omega) fun vo F5 H5 g5 hodd => ?_
    · refine ed_call (c1 := 0) (c2 := 1) (Rs := fun vs F5 => ∃ q us, vs = [.ref D.d, .ref q] ∧ F5 q = some (.lst us) ∧ RsOdd K A 9 us F5) (eda_cons (c1 := 0) (c2 := 0) (Ra := fun v _ => v = .ref D.d) (Rs := fun vs F5 => ∃ q us, vs = [.ref q] ∧ F5 q = some (.lst us) ∧ RsOdd K A 9 us F5) (ed_v (ev_var rfl)) (fun _ F6 x6 _ => eda_cons (c1 := 0) (c2 := 0) (ed_lst (Rs := RsOdd K A 9) (Rt := RsOdd K A 9) ?_ (fun vs F1 h => by rw [h.1]; decide) (fun vs F1 F2 x h => ⟨h.1, fun u hu => (h.2 u hu).mono x⟩)) (fun _ _ _ _ => eda_nil) (fun v vs F7 F8 x7 x8 ⟨q, us, h1, h2, h3⟩ e => ⟨q, us, by rw [h1, e], x8 _ _ h2, h3.1, fun u hu => (h3.2 u hu).mono x8⟩)) (fun v vs F7 F8 x7 x8 e ⟨q, us, h1, h2⟩ => ⟨q, us, by rw [e, h1], h2⟩)) (fun vs F6 x6 ⟨q, us, h1, h2, h3⟩ => by
        rw [h1]
        exact SpD.mono (spd_pickL (sq_of h2) (by rw [h3.1]; decide) (by rw [h3.1]; decide)) (Nat.le_refl _) fun v F7 x7 hv => (h3.2 v hv).mono x7)
      exact eda_odd (odd_non U) fun _ _ => eda_odd (odd_int U) fun _ _ => eda_odd (odd_bl U) fun _ _ => eda_odd (odd_str U) fun _ _ => eda_odd (odd_lst U (ed_l (el_lst ea_nil (by decide))) (fun v F2 ⟨p, e, h⟩ => ⟨p, _, e, h⟩)) fun _ _ => eda_odd (odd_dct U) fun _ _ => eda_odd (odd_lst U (ed_lst (Rs := fun vs _ => vs.length = 1) (Rt := fun _ _ => True) (eda_cons (c1 := 0) (c2 := 0) (ed_entA T) (fun _ _ _ _ => eda_nil) (fun v vs _ _ _ _ _ e => by rw [e] <;> rfl)) (fun vs F1 h => by rw [h]; decide) (fun _ _ _ _ _ => trivial)) (fun v F2 ⟨p, vs, e, h, _⟩ => ⟨p, vs, e, h⟩)) fun _ _ => eda_odd (odd_ent T U) fun _ _ => eda_odd (odd_tup U (ed_u (eu_tup ea_nil (by decide))) (fun v F2 ⟨p, e, h⟩ => ⟨p, _, e, h⟩)) fun _ _ => eda_odd0
    have s5 := s4.go g5
    -- three lambdas
    generalize hc0 : cOdd s.heap.objs.size f c = c0
    refine sq_lstLam ?_
    refine lam_step (P := P) (w := w) (K := K) (mg := mg) (base := base) (A := A) (c0 := c0) s5 ?_ ?_ fun f1 G6 H6 s6 x56 l1 _ => ?_
    · exact lamRun1 (x := "clash") (c0 := c0) (x_clash T U) (by decide +kernel) (fun _ _ _ _ => rfl)
    · rw [← hc0] <;> rfl
    refine ⟨sz_of (show 1 ≤ 100000 by decide), fun pw hpw => ?_⟩
    have gpw : G6 pw = none := fresh_back s6.dw.ex hpw
    have n1 := s6.dw.fr_d hpw
    have n2 := s6.dw.fr_g hpw
    have n3 := s6.dw.fr_l hpw
    have n4 : pw ≠ P0 := fun z => s6.pn (by rw [← z]; exact hpw)
    have s7 : LS D P0 qLam (i * 1000 + (1 + 700) + 10 + 3 * 50 + (0 + 1)) G6 (upd H6 pw (.lst [.ref f1])) := by
      refine ⟨s6.dw.goMut gpw n1 n2 n3, s6.gp, s6.tb.ext (Ex.new hpw), s6.nd, s6.ng⟩
    generalize hH7 : upd H6 pw (.lst [.ref f1]) = H7 at s7
    have hp7 : H7 pw = some (.lst [.ref f1]) := by rw [← hH7]; exact upd_same
    refine sq_appLam rfl hp7 ?_
    refine lam_step (P := P) (w := w) (K := K) (mg := mg) (base := base) (A := A) (c0 := c0) s7 ?_ ?_ fun f2 G8 H8 s8 x68 l2 kp8 => ?_
    · exact lamRun1 (x := "tree") (c0 := c0) (x_tree T U) (by decide +kernel) (fun _ _ _ _ => rfl)
    · rw [← hc0] <;> rfl
    obtain ⟨gp8, hp8⟩ := kp8 pw _ n4 hp7 gpw
    refine ⟨pw, _, .ref f2, rfl, rfl, hp8, sz_lt (show 1 < 100000 by decide), ?_⟩
    have s9 := s8.mut (ys := [.ref f1] ++ [.ref f2]) hp8 gp8 n1 n2 n3 n4
    generalize hH9 : upd H8 pw (.lst ([.ref f1] ++ [.ref f2])) = H9 at s9
    have hp9 : H9 pw = some (.lst ([.ref f1] ++ [.ref f2])) := by rw [← hH9]; exact upd_same
    refine sq_appLam rfl hp9 ?_
    refine lam_step (P := P) (w := w) (K := K) (mg := mg) (base := base) (A := A) (c0 := c0) s9 ?_ ?_ fun f3 G10 H10 s10 x810 l3 kp10 => ?_
    · exact lamRun2 (x := "unpacked") (c0 := c0) (x_unpacked T U) (by decide +kernel) (fun _ _ _ _ => rfl)
    · rw [← hc0] <;> rfl
    obtain ⟨gp10, hp10⟩ := kp10 pw _ n4 hp9 gp8
    refine ⟨pw, _, .ref f3, rfl, rfl, hp10, sz_lt (show 2 < 100000 by decide), ?_⟩
    have s11 := s10.mut (ys := ([.ref f1] ++ [.ref f2]) ++ [.ref f3]) hp10 gp10 n1 n2 n3 n4
    generalize hH11 : upd H10 pw (.lst (([.ref f1] ++ [.ref f2]) ++ [.ref f3])) = H11 at s11
    have hp11 : H11 pw = some (.lst ([f1, f2, f3].map V.ref)) := by rw [← hH11]; exact upd_same
    have xO : Ex F5 G10 := (x56.trans x68).trans x810
    have hodd10 := hodd.mono xO
    have hall : ∀ z ∈ [f1, f2, f3], LamG P w K mg base A qLam c0 G10 z := fun z hz => by
      simp only [List.mem_cons, List.not_mem_nil, or_false] at hz
      rcases hz with e | e | e
      · rw [e]; exact l1.mono (x68.trans x810)
      · rw [e]; exact l2.mono x810
      · rw [e]; exact l3
    -- what the comprehension rests on
    have x12 : Ex (upd G10 pw (.lst ([f1, f2, f3].map V.ref))) H11 := fun b o e => by
      by_cases hb : b = pw
      · rw [hb, upd_same] at e
        rw [hb, hp11]
        exact e
      · rw [upd_ne hb] at e
        exact s11.dw.ex _ _ e
    have xGp : Ex G10 (upd G10 pw (.lst ([f1, f2, f3].map V.ref))) := Ex.new gp10
    generalize hF12 : upd G10 pw (.lst ([f1, f2, f3].map V.ref)) = F12 at x12 xGp
    have hp12 : F12 pw = some (.lst ([f1, f2, f3].map V.ref)) := by rw [← hF12]; exact upd_same
    have hfalse : ∀ z ∈ [f1, f2, f3], ∀ F1, Ex F12 F1 → EvT (tNot (tB (tAt 1 (tCons (tVar 10) tNil) (GoodR P w K mg base A ["_law_odd"] qLam [("_law_odd", c0)] [some vo])))) ([some (.ref a), some (.ref D.d), some x, some (.ref pE), y4, y5, y6, y7, some vo, some (.ref pw), some (.ref z)]) F1 false := fun z hz F1 x1 H1 e1 Q1 q1 => by
      obtain ⟨cz, params, body, scope, h1, h2, h3⟩ := hall z hz
      have ex := (xGp.trans x1).trans e1
      refine ⟨_, rfl, rfl, z, cz, params, body, scope, vo, rfl, ex _ _ h1, ex _ _ h2, h3, rfl, hodd10.mono ex, fun H2 e2 => ⟨true, rfl, q1 H2 e2⟩⟩
    have hcomp : EvL (tLc (iList K (tVar 9)) (gName 10) (tNot (tB (tAt 1 (tCons (tVar 10) tNil) (GoodR P w K mg base A ["_law_odd"] qLam [("_law_odd", c0)] [some vo])))) (tVar 10) [10]) [some (.ref a), some (.ref D.d), some x, some (.ref pE), y4, y5, y6, y7, some vo, some (.ref pw), y10] F12 [] := by
      have h := el_comp (wi := iList K (tVar 9)) (t := tNot (tB (tAt 1 (tCons (tVar 10) tNil) (GoodR P w K mg base A ["_law_odd"] qLam [("_law_odd", c0)] [some vo])))) (te := tVar 10) (j := 10) (vs := [10]) (σ := [some (.ref a), some (.ref D.d), some x, some (.ref pE), y4, y5, y6, y7, some vo, some (.ref pw), y10]) [f1, f2, f3] V.ref (fun _ => false) (fun z => V.ref z) (ei_list (K := K) (ev_var rfl) (sq_of hp12)) (by show 3 ≤ 100000; decide) (by intro _; rfl) (fun z hz F1 x1 => hfalse z hz F1 x1) (fun _ _ _ _ h => nomatch h)
      exact h
    refine z_if (F := F12) (b := false) x12 (et_test (ev_opLL hcomp (el_lst ea_nil (by decide)) fun p3 q3 H3 h3 h4 e3 => rv_neE (sq_of h3) (sq_of h4))) (fun h => nomatch h) (fun _ H12 e12 => ?_)
    exact ⟨G10, _, _, _, _, _, _, _, _, _, (s11.up e12).more (by omega), ((((xG.trans g2.ex).trans g3.ex).trans xG4).trans g5.ex).trans xO, rfl⟩
end
end EL
set_option maxHeartbeats 4000000
/-! ### LZ: the law's end, at the caller's own frame -/
namespace EL
open PySem PySem.Spec PyProof.Rows L2 Evl LamX
section
variable {P : Program} {w : World} {K : PySem.W.Frag} {mg mb : Str → Option Value} {A : Ads}
abbrev EndR (s1 : Shared) (r : Except Value Flow) (s2 : Shared) : Prop := r = .ok (.ret (.bool true)) ∧ OldK s1.heap s2.heap ∧ s2.os = s1.os ∧ AllBare s2.gens
theorem end_core (T : Txt K mg A) (U : Txe K mg A) {s1 : Shared} {fa a c P0 : Addr} {vs : List Value} {ns : List Int} {fd : FuncData}
    (KX : K.In s1.heap) (gN : s1.heap.Ns mainGlobals mg) (bN : s1.heap.Ns builtinsNs mb) (bb : ∀ x : Str, x ≠ "__name__" → mb x = bootBuiltins x) (li : s1.heap.NoLimit) (g0 : s1.gens = #[])
    (oP : s1.heap.get? P0 = some { cls := .none, data := .fields #[] }) (nP : K.lookup P0 = none) (cd : ∀ h : Heap, K.In h → PySem.W.CodeHd h c P0)
    (bm : ∃ (m : Addr) (ob : Obj), mg "__builtins__" = some (.ref m) ∧ m ≠ builtinsNs ∧ s1.heap.get? m = some ob ∧ ob.cls = .type "module" ∧ ob.dict = some builtinsNs ∧ ob.data = .plain)
    (oa : s1.heap.get? a = some { cls := .type "list", data := .seq vs.toArray }) (hl : ns.length ≤ 63)
    (F : FunD K "law" "law" (defArgs s_law) (defBody s_law) (defScope s_law) [] [] fa fd)
    (hc : ∀ (oc : Value) (od : Option Addr) (f2 : FuncData) (sl : Array (Option Value)) (c2 : Addr), K.lookup fa = some ⟨oc, od, .func f2, sl⟩ → f2.code = .ref c2 → c2 = c)
    {H : Hp} (tP : H P0 = some (.tbl #[])) (el : ∀ b, b ≠ P0 → b ≠ a → H b = none)
    (ta : H a = none ∨ ((∃ xs, H a = some (.frz { cls := .type "list", data := .seq vs.toArray } (.lst xs))) ∧ K.lookup a = none))
    (sa : SqL K H a (ns.map V.int)) (ok : HOk P w H s1.heap) :
    codeAny (model P w) callerA (.call (.ref fa) ⟨[.ref a], []⟩) (EndR s1) s1 := by
  have aP : a ≠ P0 := fun z => by
    rw [z, oP] at oa
    cases oa
  have dN : ∀ {b : Addr} {o : Obj} {es : Array DictEntry} {n : Nat}, s1.heap.get? b = some o → o.data = .dict es n → H b = none := fun {b o es n} e d => el b (fun z => by
    rw [z, oP] at e
    cases e
    cases d) (fun z => by
    rw [z, oa] at e
    cases e
    cases d)
  have nB : ∀ {b : Addr} {m : Str → Option Value}, s1.heap.Ns b m → (hidT s1.heap H).Ns b m := fun {b m} z => by
    obtain ⟨o, es, ep, e, d, r⟩ := z
    exact ⟨o, es, ep, hidT_get e (dN e d), d, r⟩
  have Kb : K.In (hidT s1.heap H) := fun b o e => by
    refine hidT_get (KX b o e) ?_
    by_cases h1 : b = P0
    · rw [h1, nP] at e
      cases e
    · by_cases h2 : b = a
      · rcases ta with z | ⟨_, z⟩
        · rw [h2]; exact z
        · rw [h2, z] at e
          cases e
      · exact el b h1 h2
  have M : L2.Mod K mg (hidT s1.heap H) := ⟨Kb, nB gN, ⟨mb, nB bN, bb⟩, by
    obtain ⟨mc, z1, z2⟩ := li
    exact ⟨mc, nB z1, z2⟩⟩
  have TB : TabB (hidT s1.heap H) mg c P0 := by
    refine ⟨cd _ Kb, ?_, fun z => ?_⟩
    · obtain ⟨m, ob, b1, b2, b3, b4, b5, b6⟩ := bm
      have m1 : m ≠ mainGlobals := fun q => by
        obtain ⟨o, es, ep, e, d, _⟩ := gN
        rw [q, e] at b3
        cases b3
        rw [d] at b6
        cases b6
      have m2 : m ≠ P0 := fun q => by
        rw [q, oP] at b3
        cases b3
        cases b6
      have m3 : m ≠ a := fun q => by
        rw [q, oa] at b3
        cases b3
        cases b6
      exact ⟨m, ob, b1, b2, m1, m2, hidT_get b3 (el m m2 m3), b4, b5, b6⟩
    · obtain ⟨o, es, ep, e, d, _⟩ := gN
      rw [z, oP] at e
      cases e
      cases d
  have e0 : Env0 P w K mg (hidT s1.heap H) callerA [] s1 H := ⟨rfl, M, fun b o e => of_hidT e, Nat.le_of_eq (hidT_size _ _), trivial, fun b hb => absurd (show b ∈ ([] : List Addr) from hb) (by simp), ok, .of_eq g0⟩
  have Bd : BindsTo s1 fd ⟨[.ref a], []⟩ [("_law_script", .ref a)] := FunD.bindsA (ps := ["_law_script"]) F (fun _ _ _ _ _ _ us hl => match us, hl with | [_], _ => rfl) s1 [.ref a] rfl
  obtain ⟨oc, od, dV, kV, doc, pm, an, cdv, ct, sl, rfl, lk, hcd, _, _⟩ := F.ex
  obtain ⟨c2, ec⟩ := He.codeIn_ref hcd
  have ec2 : c2 = c := hc _ _ _ _ c2 lk ec
  subst ec2
  subst ec
  have run := run_ofS (CX := C8.CX0) (k := 8) (vs := [.ref a]) (us := [.ref a]) (E := C8.E0) (Q := fun v _ => v = .bl true) lk hcd sc_law (A := callerA) ⟨rfl, by decide, by decide⟩ e0 Bd (.cons rfl .nil) rfl fun hr => by
    obtain ⟨t, h1, h2⟩ := law_body (Q := fun v _ => v = .bl true) (outer := []) (s := s1) (f := fa) (w := w) (P := P) T U TB (A0 := callerA) rfl hr tP sa hl aP fun _ => rfl
    exact ⟨t, PSs.nox h1, h2⟩
  refine codeAny_mono run fun r s2 h => ?_
  cases r with
  | error e => exact False.elim h
  | ok fl =>
    cases fl with
    | next => exact False.elim h
    | brk => exact False.elim h
    | cont => exact False.elim h
    | ret u =>
      obtain ⟨v, H2, os, bare, un, ok2, rv, q⟩ := h
      cases (show v = .bl true from q)
      cases (show u = Value.bool true from rv)
      have old : ∀ b o, b ≠ P0 → s1.heap.get? b = some o → s2.heap.get? b = some o := fun b o nb e => by
        by_cases h2 : b = a
        · subst h2
          rcases ta with z | ⟨⟨xs, z⟩, _⟩
          · exact un.keep b o e z (by intro y; exact absurd (show b ∈ ([] : List Addr) from y) (by simp)) (by simp)
          · have z2 := un.frzs b _ _ z
            have e2 := (ok2 b _ z2).1
            rw [oa] at e
            cases e
            exact e2
        · exact un.keep b o e (el b nb h2) (by intro y; exact absurd (show b ∈ ([] : List Addr) from y) (by simp)) (by simp)
      obtain ⟨more, z⟩ := un.tbls P0 #[] tP
      have grown := ok2 P0 _ z
      refine ⟨rfl, ⟨fun b o e => ?_, fun b o e => ?_⟩, os, bare⟩
      · by_cases hb : b = P0
        · subst hb
          rw [oP] at e
          cases e
          exact .inr (.inl ⟨((cd _ KX).tab oP).isCodeTable, rfl, #[], _, rfl, by rw [Array.empty_append]; exact grown⟩)
        · exact .inl (old b o hb e)
      · by_cases hb : b = P0
        · rw [hb]
          exact ⟨_, grown⟩
        · exact ⟨o, old b o hb e⟩
theorem end_call (T : Txt K mg A) (U : Txe K mg A) {s1 : Shared} {fa a c P0 : Addr} {vs : List Value} {ns : List Int} {fd : FuncData}
    (KX : K.In s1.heap) (gN : s1.heap.Ns mainGlobals mg) (bN : s1.heap.Ns builtinsNs mb) (bb : ∀ x : Str, x ≠ "__name__" → mb x = bootBuiltins x) (li : s1.heap.NoLimit) (g0 : s1.gens = #[])
    (oP : s1.heap.get? P0 = some { cls := .none, data := .fields #[] }) (nP : K.lookup P0 = none) (cd : ∀ h : Heap, K.In h → PySem.W.CodeHd h c P0)
    (bm : ∃ (m : Addr) (ob : Obj), mg "__builtins__" = some (.ref m) ∧ m ≠ builtinsNs ∧ s1.heap.get? m = some ob ∧ ob.cls = .type "module" ∧ ob.dict = some builtinsNs ∧ ob.data = .plain)
    (oa : s1.heap.get? a = some { cls := .type "list", data := .seq vs.toArray }) (hi : IntsAre vs ns) (hl : ns.length ≤ 63)
    (F : FunD K "law" "law" (defArgs s_law) (defBody s_law) (defScope s_law) [] [] fa fd)
    (hc : ∀ (oc : Value) (od : Option Addr) (f2 : FuncData) (sl : Array (Option Value)) (c2 : Addr), K.lookup fa = some ⟨oc, od, .func f2, sl⟩ → f2.code = .ref c2 → c2 = c) :
    codeAny (model P w) callerA (.call (.ref fa) ⟨[.ref a], []⟩) (EndR s1) s1 := by
  have rv := vals_ints hi
  have n63 : ns.length ≤ sizeLine := Nat.le_trans hl (by decide)
  have aP : a ≠ P0 := fun z => by
    rw [z, oP] at oa
    cases oa
  have okP : ∀ {H : Hp}, ObjOk P w H s1.heap P0 (.tbl #[]) := oP
  cases hk : K.lookup a with
  | some o =>
    have e := KX a o hk
    rw [oa] at e
    cases e
    refine end_core T U KX gN bN bb li g0 oP nP cd bm oa hl F hc (H := fun b => if b = P0 then some (.tbl #[]) else none) (if_pos rfl) (fun b h1 _ => if_neg h1) (.inl (if_neg aP)) ?_ fun b u z => ?_
    · exact .inr ⟨_, vs.toArray, _, hk, rfl, rfl, rfl, by rw [List.size_toArray, hi.length]; exact n63, by simpa using rv⟩
    · by_cases hb : b = P0
      · rw [hb]
        rw [hb] at z
        cases (if_pos rfl : (if P0 = P0 then some (HO.tbl #[]) else none) = _).symm.trans z
        exact okP
      · cases (if_neg hb).symm.trans z
  | none =>
    refine end_core T U KX gN bN bb li g0 oP nP cd bm oa hl F hc (H := fun b => if b = P0 then some (.tbl #[]) else if b = a then some (.frz { cls := .type "list", data := .seq vs.toArray } (.lst (ns.map V.int))) else none) (if_pos rfl) (fun b h1 h2 => (if_neg h1).trans (if_neg h2))
      (.inr ⟨⟨_, (if_neg aP).trans (if_pos rfl)⟩, hk⟩) (.inl (.inr ⟨{ cls := .type "list", data := .seq vs.toArray }, (if_neg aP).trans (if_pos rfl)⟩)) fun b u z => ?_
    by_cases hb : b = P0
    · rw [hb]
      rw [hb] at z
      cases (if_pos rfl : (if P0 = P0 then some (HO.tbl #[]) else _) = _).symm.trans z
      exact okP
    · by_cases h2 : b = a
      · cases ((if_neg hb).trans (if_pos h2)).symm.trans z
        rw [h2]
        exact ⟨oa, by rw [List.length_map]; exact n63, vs, _, rv, oa⟩
      · cases ((if_neg hb).trans (if_neg h2)).symm.trans z
end
end EL
set_option maxHeartbeats 0
/-! ### HEAD: what the top has written, by names -/
namespace EL
open PySem PySem.Spec PyProof.Rows L2
def dD (x : Str) (st : Stmt) : He.DefD := ⟨(x, none), x, x, defArgs st, defBody st, defScope st, [], []⟩
def dM (C m q : Str) (st : Stmt) : He.DefD := ⟨(C, some m), m, q, defArgs st, defBody st, defScope st, [], []⟩
def dI (C : Str) (st : Stmt) (ds : List He.Dv) (ks : List (Str × He.Dv)) : He.DefD := ⟨(C, some "__init__"), "__init__", C ++ ".__init__", defArgs st, defBody st, defScope st, ds, ks⟩
/-- a property's getter -/
def getr (K : PySem.W.Frag) (p : Addr) : Addr := match PySem.W.recIn K p "property" with
  | some (Value.ref g :: _) => g
  | _ => 0
def propB (K : PySem.W.Frag) (C f : Str) : Bool := He.eqO (PySem.W.findIn K (.ref (He.ga K C)) f) (some (some (.ref (He.ma K (He.ga K C) f)))) &&
  (He.eqO (PySem.W.specialIn K (.ref (He.ma K (He.ga K C) f)) "__get__") (some (some (.builtin "property.__get__"))) &&
  (decide (PySem.W.takesIn K (.ref (He.ma K (He.ga K C) f)) = some true) && (match PySem.W.recIn K (He.ma K (He.ga K C) f) "property" with
    | some (Value.ref _ :: _) => true
    | _ => false)))
theorem propB_ok {K : PySem.W.Frag} {C f : Str} (h : propB K C f = true) : PropOf K (He.ga K C) f (He.ma K (He.ga K C) f) (getr K (He.ma K (He.ga K C) f)) := by
  obtain ⟨h1, h⟩ := He.ba h
  obtain ⟨h2, h⟩ := He.ba h
  obtain ⟨h3, h4⟩ := He.ba h
  refine ⟨He.eqO_ok h1, He.eqO_ok h2, of_decide_eq_true h3, ?_⟩
  unfold getr
  split at h4
  · rename_i g rest q
    rw [q]
    exact ⟨rest, rfl⟩
  · cases h4
abbrev Gt : Type := Str × Str × Stmt
def gAd (K : PySem.W.Frag) (d : Gt) : Addr := getr K (He.ma K (He.ga K d.1) d.2.1)
def gFn (K : PySem.W.Frag) (d : Gt) : He.FnW := match K.lookup (gAd K d) with
  | some ⟨_, _, .func u, _⟩ => some (u.name, u.qualname, u.params, u.body, u.scope, u.globals, u.closure, u.builtins)
  | _ => none
def gVal (d : Gt) : He.FnW := some (d.2.1, d.1 ++ ("." ++ d.2.1), defArgs d.2.2, .stmts (defBody d.2.2), defScope d.2.2, mainGlobals, [], builtinsNs)
def isNon : Value → Bool
  | .none => true
  | _ => false
def getB (K : PySem.W.Frag) (d : Gt) : Bool := PySem.W.keepIn K (.ref (gAd K d)) && (match K.lookup (gAd K d) with
  | some ⟨_, _, .func u, _⟩ => PySem.W.codeIn K u.code (d.1 ++ ("." ++ d.2.1)) && isNon u.defaults
  | _ => false)
theorem getB_ok {K : PySem.W.Frag} {d : Gt} (e : gFn K d = gVal d) (h : getB K d = true) : ∃ fd, FunD K d.2.1 (d.1 ++ ("." ++ d.2.1)) (defArgs d.2.2) (defBody d.2.2) (defScope d.2.2) [] [] (gAd K d) fd := by
  obtain ⟨kp, h⟩ := He.ba h
  unfold gFn at e
  split at e
  · rename_i oc od u sl q
    rw [q] at h
    obtain ⟨h1, h2⟩ := He.ba h
    obtain ⟨u1, u2, u3, u4, u5, u6, u7, u8, u9, u10, u11, u12, u13, u14, u15⟩ := u
    have e2 := Option.some.inj e
    simp only [Prod.mk.injEq] at e2
    obtain ⟨rfl, rfl, rfl, rfl, rfl, rfl, rfl, rfl⟩ := e2
    have e3 : u8 = .none := by
      cases u8 with
      | none => rfl
      | _ => cases h2
    subst e3
    exact ⟨_, ⟨oc, od, .none, u9, u10, u11, u12, u13, u14, sl, rfl, q, h1, .inl ⟨rfl, rfl⟩, .inl rfl⟩, kp⟩
  · cases e
theorem exAt {l : List Bool} (h : l.all id = true) (i : Nat) {b : Bool} (e : l[i]? = some b) : b = true := List.all_eq_true.mp h b (List.mem_of_getElem? e)
def fa_0 : List He.Fa := [.glo "_wall", .glo "is_printable", .glo "is_text", .glo "is_name", .glo "is_comment", .glo "is_number", .glo "is_bytes", .glo "need_bytes", .glo "forward", .glo "check", .glo "days_in", .glo "is_time", .glo "are_entries", .glo "need_state", .glo "is_folder", .glo "parts_of", .glo "bad_part", .glo "do_clash", .glo "first_clash", .glo "clash", .glo "need_tree", .glo "lay", .glo "tree_of", .glo "tree", .glo "unpacked"]
def fa_1 : List He.Fa := [.glo "_law_begun", .glo "_law_next", .glo "_law_pick", .glo "_law_shuffled", .glo "_law_signs", .glo "_law_note", .glo "_law_moment", .glo "_law_some", .glo "_law_entry", .glo "_law_made", .glo "_law_state", .glo "_law_paths", .glo "_law_path_entries", .glo "_law_split", .glo "_law_do_clash", .glo "_law_due", .glo "_law_is_refused", .glo "law", .int "LONGEST_NAME" 24, .int "LONGEST_COMMENT" 40, .int "FIRST_SIGN" 32, .int "LAST_SIGN" 126, .int "PERCENT" 37, .int "GREATEST_BYTE" 255, .int "GREATEST_CHECK" 4294967295]
def fa_2 : List He.Fa := [.glo "STEPS", .glo "EARLIEST", .int "LATEST_YEAR" 2107, .glo "MONTHS", .int "MOST_DATA" 1500, .glo "FIRST_TIME", .int "MOST" 20, .glo "ArchiveError", .glo "NoBytes", .glo "NoTime", .glo "NoName", .glo "NoComment", .glo "NoData", .glo "NoState", .glo "NoEntry", .glo "NoTree", .glo "Entry", .glo "State", .cls "Entry", .noat "Entry" "name", .noat "Entry" "own_data", .noat "Entry" "time", .noat "Entry" "comment", .noat "Entry" "own_check", .mkr "Entry"]
def fa_3 : List He.Fa := [.meth "Entry" "renamed", .meth "Entry" "described", .meth "Entry" "__eq__", .cls "State", .noat "State" "rows", .noat "State" "comment", .mkr "State", .meth "State" "__len__", .meth "State" "__bool__", .meth "State" "__contains__", .meth "State" "__getitem__", .meth "State" "__iter__", .meth "State" "__eq__", .meth "State" "names", .meth "State" "entries", .meth "State" "place_of", .meth "State" "with_rows", .meth "State" "put", .meth "State" "renamed", .meth "State" "moved", .meth "State" "removed", .meth "State" "described", .meth "State" "commented", .free "ValueError", .free "abs"]
def fa_4 : List He.Fa := [.free "all", .free "any", .free "bool", .free "enumerate", .free "int", .free "isinstance", .free "len", .free "list", .free "ord", .free "range", .free "repr", .free "sorted", .free "str", .free "tuple", .exc "NoState", .exm "NoState" "ArchiveError" true]
def fa_ : List He.Fa := fa_0 ++ fa_1 ++ fa_2 ++ fa_3 ++ fa_4
def fn_0 : List He.DefD := [dD "_wall" s__wall, dD "is_printable" s_is_printable, dD "is_text" s_is_text, dD "is_name" s_is_name, dD "is_comment" s_is_comment, dD "is_number" s_is_number, dD "is_bytes" s_is_bytes, dD "need_bytes" s_need_bytes, dD "forward" s_forward, dD "check" s_check, dD "days_in" s_days_in, dD "is_time" s_is_time, dD "are_entries" s_are_entries, dD "need_state" s_need_state, dD "is_folder" s_is_folder, dD "parts_of" s_parts_of, dD "bad_part" s_bad_part, dD "do_clash" s_do_clash, dD "first_clash" s_first_clash, dD "clash" s_clash, dD "need_tree" s_need_tree, dD "lay" s_lay, dD "tree_of" s_tree_of, dD "tree" s_tree, dD "unpacked" s_unpacked]
def fn_1 : List He.DefD := [dD "_law_begun" s__law_begun, dD "_law_next" s__law_next, dD "_law_pick" s__law_pick, dD "_law_shuffled" s__law_shuffled, dD "_law_signs" s__law_signs, dD "_law_note" s__law_note, dD "_law_moment" s__law_moment, dD "_law_some" s__law_some, dD "_law_entry" s__law_entry, dD "_law_made" s__law_made, dD "_law_state" s__law_state, dD "_law_paths" s__law_paths, dD "_law_path_entries" s__law_path_entries, dD "_law_split" s__law_split, dD "_law_do_clash" s__law_do_clash, dD "_law_due" s__law_due, dD "_law_is_refused" s__law_is_refused, dD "law" s_law, dI "Entry" s_Entry___init__ [] [("time", .glo "FIRST_TIME"), ("comment", .str "")], dM "Entry" "renamed" "Entry.renamed" s_Entry_renamed, dM "Entry" "described" "Entry.described" s_Entry_described, dM "Entry" "__eq__" "Entry.__eq__" s_Entry___eq__, dI "State" s_State___init__ [.adr (He.dflAt ("State", some "__init__") 0)] [("comment", .str "")], dM "State" "__len__" "State.__len__" s_State___len__, dM "State" "__bool__" "State.__bool__" s_State___bool__]
def fn_2 : List He.DefD := [dM "State" "__contains__" "State.__contains__" s_State___contains__, dM "State" "__getitem__" "State.__getitem__" s_State___getitem__, dM "State" "__iter__" "State.__iter__" s_State___iter__, dM "State" "__eq__" "State.__eq__" s_State___eq__, dM "State" "names" "State.names" s_State_names, dM "State" "entries" "State.entries" s_State_entries, dM "State" "place_of" "State.place_of" s_State_place_of, dM "State" "with_rows" "State.with_rows" s_State_with_rows, dM "State" "put" "State.put" s_State_put, dM "State" "renamed" "State.renamed" s_State_renamed, dM "State" "moved" "State.moved" s_State_moved, dM "State" "removed" "State.removed" s_State_removed, dM "State" "described" "State.described" s_State_described, dM "State" "commented" "State.commented" s_State_commented]
def fn_ : List He.DefD := fn_0 ++ fn_1 ++ fn_2
def ex_0 (K : PySem.W.Frag) : List Bool := [He.eqO (PySem.W.nsIn K mainGlobals "check_checks") (some (some (.ref (He.ga K "check")))), He.tupB K "STEPS" [.int 0, .int 498536548, .int 997073096, .int 651767980, .int 1994146192, .int 1802195444, .int 1303535960, .int 1342533948, .int 3988292384, .int 4027552580, .int 3604390888, .int 3412177804, .int 2607071920, .int 2262029012, .int 2685067896, .int 3183342108], He.tupB K "EARLIEST" [.int 1980, .int 1, .int 1, .int 0, .int 0, .int 0], He.tupB K "MONTHS" [.int 31, .int 28, .int 31, .int 30, .int 31, .int 30, .int 31, .int 31, .int 30, .int 31, .int 30, .int 31], He.tupB K "FIRST_TIME" [.int 1980, .int 1, .int 1, .int 0, .int 0, .int 0], He.eqO (PySem.W.findIn K (.ref (He.ga K "Entry")) "__class__") (some (some (.builtin "object.__class__"))), He.eqO (PySem.W.specialIn K (.builtin "object.__class__") "__get__") (some (some (.builtin "getset_descriptor.__get__"))), decide (PySem.W.takesIn K (.builtin "object.__class__") = some true), decide (PySem.W.mroIn K (He.ga K "Entry") (.type "object") = some true), decide (PySem.W.kitOne K (.ref (He.ga K "Entry")) (.ref (He.ga K "Entry")) = some true)]
def ex_1 (K : PySem.W.Frag) : List Bool := [propB K "Entry" "data", getB K ("Entry", "data", s_Entry_data), propB K "Entry" "size", getB K ("Entry", "size", s_Entry_size), propB K "Entry" "check", getB K ("Entry", "check", s_Entry_check), He.eqO (PySem.W.findIn K (.ref (He.ga K "State")) "__class__") (some (some (.builtin "object.__class__"))), decide (PySem.W.mroIn K (He.ga K "State") (.type "object") = some true), decide (PySem.W.kitOne K (.ref (He.ga K "State")) (.ref (He.ga K "State")) = some true), He.eqO (PySem.W.findIn K (.ref (He.ga K "NoState")) "__getattribute__") (some (some (.builtin "BaseException.__getattribute__")))]
def ex_2 (K : PySem.W.Frag) : List Bool := [He.eqO (PySem.W.findIn K (.ref (He.ga K "NoState")) "__getattr__") (some none), decide (PySem.W.subIn K (.ref (He.ga K "NoState")) (.type "BaseException") = some true), PySem.W.hasDictIn K (He.ga K "NoState"), He.eqO (PySem.W.findIn K (.ref (He.ga K "NoState")) "__class__") (some (some (.builtin "object.__class__"))), decide (PySem.W.mroIn K (He.ga K "NoState") (.type "object") = some true), decide (PySem.W.kitOne K (.ref (He.ga K "NoState")) (.ref (He.ga K "NoState")) = some true), decide (PySem.W.kitOne K (.ref (He.ga K "NoState")) (.type "ValueError") = some true), decide (PySem.W.kitAny K (.ref (He.ga K "NoState")) [.ref (He.ga K "NoEntry"), .ref (He.ga K "NoName"), .ref (He.ga K "NoTree")] = some false), decide (PySem.W.kitOne K (.type "NoneType") (.ref (He.ga K "State")) = some false), decide (PySem.W.kitOne K (.type "int") (.ref (He.ga K "State")) = some false)]
def ex_3 (K : PySem.W.Frag) : List Bool := [decide (PySem.W.kitOne K (.type "bool") (.ref (He.ga K "State")) = some false), decide (PySem.W.kitOne K (.type "str") (.ref (He.ga K "State")) = some false), decide (PySem.W.kitOne K (.type "list") (.ref (He.ga K "State")) = some false), decide (PySem.W.kitOne K (.type "dict") (.ref (He.ga K "State")) = some false), decide (PySem.W.kitOne K (.type "tuple") (.ref (He.ga K "State")) = some false), decide (PySem.W.kitOne K (.ref (He.ga K "Entry")) (.ref (He.ga K "State")) = some false)]
def ex_ (K : PySem.W.Frag) : List Bool := ex_0 K ++ ex_1 K ++ ex_2 K ++ ex_3 K
def gt_ : List Gt := [("Entry", "data", s_Entry_data), ("Entry", "size", s_Entry_size), ("Entry", "check", s_Entry_check)]
def nm0 : List PySem.Str := ["_wall", "ArchiveError", "NoBytes", "NoTime", "NoName", "NoComment", "NoData", "NoState", "NoEntry", "NoTree", "LONGEST_NAME", "LONGEST_COMMENT", "FIRST_SIGN", "LAST_SIGN", "PERCENT", "is_printable", "is_text", "is_name", "is_comment", "GREATEST_BYTE", "is_number", "is_bytes", "need_bytes", "GREATEST_CHECK", "STEPS", "forward", "check", "check_checks", "EARLIEST", "LATEST_YEAR"]
def nm1 : List PySem.Str := ["MONTHS", "days_in", "is_time", "MOST_DATA", "FIRST_TIME", "Entry", "MOST", "are_entries", "State", "need_state", "is_folder", "parts_of", "bad_part", "do_clash", "first_clash", "clash", "need_tree", "lay", "tree_of", "tree", "unpacked", "_law_begun", "_law_next", "_law_pick", "_law_shuffled", "_law_signs", "_law_note", "_law_moment", "_law_some", "_law_entry"]
def nm2 : List PySem.Str := ["_law_made", "_law_state", "_law_paths", "_law_path_entries", "_law_split", "_law_do_clash", "_law_due", "_law_is_refused"]
def names : List PySem.Str := nm0 ++ nm1 ++ nm2
def lawP : Str × Option Str := ("law", none)
def spots : List Addr := mainGlobals :: List.range' 4 640
def frH (g : Addr → Option Obj) : PySem.W.Frag := He.frT g spots
def tbH (g : Addr → Option Obj) (K : PySem.W.Frag) : Bool := PySem.W.codeHdIn K (He.cT K lawP).1 (He.cT K lawP).2 && (match g (He.cT K lawP).2 with
  | some o => He.emptyTab o
  | none => false)
abbrev AlH : Type := (He.AlD × List He.FnW) × Bool
def obsH (g : Addr → Option Obj) : AlH := ((He.obsD fa_ fn_ (frH g), gt_.map (gFn (frH g))), (ex_ (frH g)).all id && tbH g (frH g))
def valH : AlH := ((He.valD fn_, gt_.map gVal), true)
structure SaysH (h : Heap) (K : PySem.W.Frag) : Prop where
  d : He.SaysD fa_ fn_ K
  g : gt_.map (gFn K) = gt_.map gVal
  ex : (ex_ K).all id = true
  hd : PySem.W.codeHdIn K (He.cT K lawP).1 (He.cT K lawP).2 = true
  out : K.lookup (He.cT K lawP).2 = none
  emp : h.get? (He.cT K lawP).2 = some { cls := .none, data := .fields #[] }
theorem saysH_of {h : Heap} (e : obsH h.get? = valH) : SaysH h (frH h.get?) := by
  have e1 := congrArg (fun z : AlH => z.1.1) e
  have e2 := congrArg (fun z : AlH => z.1.2) e
  have e3 : ((ex_ (frH h.get?)).all id && tbH h.get? (frH h.get?)) = true := congrArg (fun z : AlH => z.2) e
  obtain ⟨e4, e5⟩ := He.ba e3
  obtain ⟨e6, e7⟩ := He.ba e5
  have key : ∃ o, h.get? (He.cT (frH h.get?) lawP).2 = some o ∧ He.emptyTab o = true := by
    split at e7
    · rename_i o q
      exact ⟨o, q, e7⟩
    · cases e7
  obtain ⟨o, q, z⟩ := key
  exact ⟨e1, e2, e4, e6, He.frT_none q z, by rw [q, He.emptyTab_eq z]⟩
def hookH : PySem.W.Hook where
  α := AlH
  obs := fun s => obsH s.heap.get?
  val := fun _ => valH
  says := fun _ h => ∃ K : PySem.W.Frag, K.In h ∧ SaysH h K
  of := fun _ _ e => ⟨_, He.frT_in, saysH_of e⟩
  keeps := fun _ _ _ ⟨K, hK, c⟩ k => ⟨K, PySem.W.Frag.In.keeps hK k, c.d, c.g, c.ex, c.hd, c.out, k _ _ c.emp⟩
abbrev RowH : PySem.W.OpenRow := PySem.W.OpenLaw.row PySem.Challenge.rw_endlist_k50_clashes_by_definition
def obH (s : PySem.W.SharedT) : AlH := obsH (HandSHeadRun.getT s)
theorem obH_eq (s : PySem.W.SharedT) : obH s = hookH.obs s.abs := by
  have e : HandSHeadRun.getT s = s.abs.heap.get? := funext (HandSHeadRun.getT_eq s)
  show obsH (HandSHeadRun.getT s) = obsH s.abs.heap.get?
  rw [e]
theorem runH (w : World) : HandSHeadRun.RunEq RowH (PySem.W.view RowH.prog [78]) hookH obH 6000 names w := by
  intro os
  kernel_rfl
section
variable {K : PySem.W.Frag} {h : Heap} {mg : Str → Option Value}
theorem mk_dfn (KX : K.In h) (G : h.Ns mainGlobals mg) (c : He.SaysD fa_ fn_ K) {x : Str} {st : Stmt} (i j : Nat) (hi : fn_[i]? = some (dD x st)) (hj : fa_[j]? = some (.glo x)) : Dfn K mg x st := by
  obtain ⟨fd, F⟩ := c.def_ i hi
  exact ⟨_, fd, F, He.glo_ok KX G (c.fact j hj)⟩
theorem mk_mth (c : He.SaysD fa_ fn_ K) {C m q : Str} {st : Stmt} (i j : Nat) (hi : fn_[i]? = some (dM C m q st)) (hj : fa_[j]? = some (.meth C m)) : Mth K (He.ga K C) m q st := by
  obtain ⟨fd, F⟩ := c.def_ i hi
  exact ⟨_, fd, F, He.meth_ok (c.fact j hj)⟩
theorem getOk (g : gt_.map (gFn K) = gt_.map gVal) (i : Nat) {d : Gt} (hd : gt_[i]? = some d) (hb : getB K d = true) : ∃ fd, FunD K d.2.1 (d.1 ++ ("." ++ d.2.1)) (defArgs d.2.2) (defBody d.2.2) (defScope d.2.2) [] [] (gAd K d) fd := by
  have e := congrArg (fun l : List He.FnW => l[i]?) g
  simp only [List.getElem?_map, hd] at e
  exact getB_ok (Option.some.inj e) hb
def adsK (K : PySem.W.Frag) : Ads := ⟨He.dflAt ("State", some "__init__") 0 K, He.ga K "ArchiveError", He.ga K "NoBytes", He.ga K "NoTime", He.ga K "NoName", He.ga K "NoComment", He.ga K "NoData", He.ga K "NoState", He.ga K "NoEntry", He.ga K "NoTree", He.ga K "Entry", He.ga K "State", He.ga K "STEPS", He.ga K "EARLIEST", He.ga K "MONTHS", He.ga K "FIRST_TIME", He.ma K (He.ga K "Entry") "data", getr K (He.ma K (He.ga K "Entry") "data"), He.ma K (He.ga K "Entry") "size", getr K (He.ma K (He.ga K "Entry") "size"), He.ma K (He.ga K "Entry") "check", getr K (He.ma K (He.ga K "Entry") "check"), He.ma K (He.ga K "Entry") "__init__", He.ma K (He.ga K "State") "__init__"⟩
theorem txt_of (KX : K.In h) (G : h.Ns mainGlobals mg) (c : SaysH h K) : Txt K mg (adsK K) :=
  ⟨mk_dfn KX G c.d 0 0 rfl rfl,
   mk_dfn KX G c.d 1 1 rfl rfl,
   mk_dfn KX G c.d 2 2 rfl rfl,
   mk_dfn KX G c.d 3 3 rfl rfl,
   mk_dfn KX G c.d 4 4 rfl rfl,
   mk_dfn KX G c.d 5 5 rfl rfl,
   mk_dfn KX G c.d 6 6 rfl rfl,
   mk_dfn KX G c.d 7 7 rfl rfl,
   mk_dfn KX G c.d 8 8 rfl rfl,
   mk_dfn KX G c.d 9 9 rfl rfl,
   mk_dfn KX G c.d 10 10 rfl rfl,
   mk_dfn KX G c.d 11 11 rfl rfl,
   mk_dfn KX G c.d 12 12 rfl rfl,
   mk_dfn KX G c.d 13 13 rfl rfl,
   mk_dfn KX G c.d 14 14 rfl rfl,
   mk_dfn KX G c.d 15 15 rfl rfl,
   mk_dfn KX G c.d 16 16 rfl rfl,
   mk_dfn KX G c.d 17 17 rfl rfl,
   mk_dfn KX G c.d 18 18 rfl rfl,
   mk_dfn KX G c.d 19 19 rfl rfl,
   mk_dfn KX G c.d 20 20 rfl rfl,
   mk_dfn KX G c.d 21 21 rfl rfl,
   mk_dfn KX G c.d 22 22 rfl rfl,
   mk_dfn KX G c.d 23 23 rfl rfl,
   mk_dfn KX G c.d 24 24 rfl rfl,
   mk_dfn KX G c.d 25 25 rfl rfl,
   mk_dfn KX G c.d 26 26 rfl rfl,
   mk_dfn KX G c.d 27 27 rfl rfl,
   mk_dfn KX G c.d 28 28 rfl rfl,
   mk_dfn KX G c.d 29 29 rfl rfl,
   mk_dfn KX G c.d 30 30 rfl rfl,
   mk_dfn KX G c.d 31 31 rfl rfl,
   mk_dfn KX G c.d 32 32 rfl rfl,
   mk_dfn KX G c.d 33 33 rfl rfl,
   mk_dfn KX G c.d 34 34 rfl rfl,
   mk_dfn KX G c.d 35 35 rfl rfl,
   mk_dfn KX G c.d 36 36 rfl rfl,
   mk_dfn KX G c.d 37 37 rfl rfl,
   mk_dfn KX G c.d 38 38 rfl rfl,
   mk_dfn KX G c.d 39 39 rfl rfl,
   mk_dfn KX G c.d 40 40 rfl rfl,
   mk_dfn KX G c.d 41 41 rfl rfl,
   mk_dfn KX G c.d 42 42 rfl rfl,
   (PySem.W.mg_of KX G (He.eqO_ok (exAt c.ex 0 (b := He.eqO (PySem.W.nsIn K mainGlobals "check_checks") (some (some (.ref (He.ga K "check"))))) rfl))).trans (He.glo_ok KX G (c.d.fact 9 (f := .glo "check") rfl)).symm,
   He.int_ok KX G (c.d.fact 43 (f := .int "LONGEST_NAME" 24) rfl),
   He.int_ok KX G (c.d.fact 44 (f := .int "LONGEST_COMMENT" 40) rfl),
   He.int_ok KX G (c.d.fact 45 (f := .int "FIRST_SIGN" 32) rfl),
   He.int_ok KX G (c.d.fact 46 (f := .int "LAST_SIGN" 126) rfl),
   He.int_ok KX G (c.d.fact 47 (f := .int "PERCENT" 37) rfl),
   He.int_ok KX G (c.d.fact 48 (f := .int "GREATEST_BYTE" 255) rfl),
   He.int_ok KX G (c.d.fact 49 (f := .int "GREATEST_CHECK" 4294967295) rfl),
   ⟨(He.glo_ok KX G (c.d.fact 50 (f := .glo "STEPS") rfl)), fun H => He.tupB_ok (exAt c.ex 1 (b := He.tupB K "STEPS" [.int 0, .int 498536548, .int 997073096, .int 651767980, .int 1994146192, .int 1802195444, .int 1303535960, .int 1342533948, .int 3988292384, .int 4027552580, .int 3604390888, .int 3412177804, .int 2607071920, .int 2262029012, .int 2685067896, .int 3183342108]) rfl) H⟩,
   ⟨(He.glo_ok KX G (c.d.fact 51 (f := .glo "EARLIEST") rfl)), fun H => He.tupB_ok (exAt c.ex 2 (b := He.tupB K "EARLIEST" [.int 1980, .int 1, .int 1, .int 0, .int 0, .int 0]) rfl) H⟩,
   He.int_ok KX G (c.d.fact 52 (f := .int "LATEST_YEAR" 2107) rfl),
   ⟨(He.glo_ok KX G (c.d.fact 53 (f := .glo "MONTHS") rfl)), fun H => He.tupB_ok (exAt c.ex 3 (b := He.tupB K "MONTHS" [.int 31, .int 28, .int 31, .int 30, .int 31, .int 30, .int 31, .int 31, .int 30, .int 31, .int 30, .int 31]) rfl) H⟩,
   He.int_ok KX G (c.d.fact 54 (f := .int "MOST_DATA" 1500) rfl),
   ⟨(He.glo_ok KX G (c.d.fact 55 (f := .glo "FIRST_TIME") rfl)), fun H => He.tupB_ok (exAt c.ex 4 (b := He.tupB K "FIRST_TIME" [.int 1980, .int 1, .int 1, .int 0, .int 0, .int 0]) rfl) H⟩,
   He.int_ok KX G (c.d.fact 56 (f := .int "MOST" 20) rfl),
   ⟨(He.glo_ok KX G (c.d.fact 57 (f := .glo "ArchiveError") rfl))⟩,
   ⟨(He.glo_ok KX G (c.d.fact 58 (f := .glo "NoBytes") rfl))⟩,
   ⟨(He.glo_ok KX G (c.d.fact 59 (f := .glo "NoTime") rfl))⟩,
   ⟨(He.glo_ok KX G (c.d.fact 60 (f := .glo "NoName") rfl))⟩,
   ⟨(He.glo_ok KX G (c.d.fact 61 (f := .glo "NoComment") rfl))⟩,
   ⟨(He.glo_ok KX G (c.d.fact 62 (f := .glo "NoData") rfl))⟩,
   ⟨(He.glo_ok KX G (c.d.fact 63 (f := .glo "NoState") rfl))⟩,
   ⟨(He.glo_ok KX G (c.d.fact 64 (f := .glo "NoEntry") rfl))⟩,
   ⟨(He.glo_ok KX G (c.d.fact 65 (f := .glo "NoTree") rfl))⟩,
   ⟨(He.glo_ok KX G (c.d.fact 66 (f := .glo "Entry") rfl))⟩,
   ⟨(He.glo_ok KX G (c.d.fact 67 (f := .glo "State") rfl))⟩,
   He.cls_ok (c.d.fact 68 (f := .cls "Entry") rfl),
   ⟨He.cls_ok (c.d.fact 68 (f := .cls "Entry") rfl), He.eqO_ok (exAt c.ex 5 (b := He.eqO (PySem.W.findIn K (.ref (He.ga K "Entry")) "__class__") (some (some (.builtin "object.__class__")))) rfl), He.eqO_ok (exAt c.ex 6 (b := He.eqO (PySem.W.specialIn K (.builtin "object.__class__") "__get__") (some (some (.builtin "getset_descriptor.__get__")))) rfl), of_decide_eq_true (exAt c.ex 7 (b := decide (PySem.W.takesIn K (.builtin "object.__class__") = some true)) rfl), of_decide_eq_true (exAt c.ex 8 (b := decide (PySem.W.mroIn K (He.ga K "Entry") (.type "object") = some true)) rfl), of_decide_eq_true (exAt c.ex 9 (b := decide (PySem.W.kitOne K (.ref (He.ga K "Entry")) (.ref (He.ga K "Entry")) = some true)) rfl)⟩,
   He.noat_ok (c.d.fact 69 (f := .noat "Entry" "name") rfl),
   He.noat_ok (c.d.fact 70 (f := .noat "Entry" "own_data") rfl),
   He.noat_ok (c.d.fact 71 (f := .noat "Entry" "time") rfl),
   He.noat_ok (c.d.fact 72 (f := .noat "Entry" "comment") rfl),
   He.noat_ok (c.d.fact 73 (f := .noat "Entry" "own_check") rfl),
   He.mkr_ok (c.d.fact 74 (f := .mkr "Entry") rfl),
   c.d.def_ 43 (d := dI "Entry" s_Entry___init__ [] [("time", .glo "FIRST_TIME"), ("comment", .str "")]) rfl,
   propB_ok (exAt c.ex 10 (b := propB K "Entry" "data") rfl),
   getOk c.g 0 (d := ("Entry", "data", s_Entry_data)) rfl (exAt c.ex 11 (b := getB K ("Entry", "data", s_Entry_data)) rfl),
   propB_ok (exAt c.ex 12 (b := propB K "Entry" "size") rfl),
   getOk c.g 1 (d := ("Entry", "size", s_Entry_size)) rfl (exAt c.ex 13 (b := getB K ("Entry", "size", s_Entry_size)) rfl),
   propB_ok (exAt c.ex 14 (b := propB K "Entry" "check") rfl),
   getOk c.g 2 (d := ("Entry", "check", s_Entry_check)) rfl (exAt c.ex 15 (b := getB K ("Entry", "check", s_Entry_check)) rfl),
   mk_mth c.d 44 75 rfl rfl,
   mk_mth c.d 45 76 rfl rfl,
   mk_mth c.d 46 77 rfl rfl,
   He.cls_ok (c.d.fact 78 (f := .cls "State") rfl),
   ⟨He.cls_ok (c.d.fact 78 (f := .cls "State") rfl), He.eqO_ok (exAt c.ex 16 (b := He.eqO (PySem.W.findIn K (.ref (He.ga K "State")) "__class__") (some (some (.builtin "object.__class__")))) rfl), He.eqO_ok (exAt c.ex 6 (b := He.eqO (PySem.W.specialIn K (.builtin "object.__class__") "__get__") (some (some (.builtin "getset_descriptor.__get__")))) rfl), of_decide_eq_true (exAt c.ex 7 (b := decide (PySem.W.takesIn K (.builtin "object.__class__") = some true)) rfl), of_decide_eq_true (exAt c.ex 17 (b := decide (PySem.W.mroIn K (He.ga K "State") (.type "object") = some true)) rfl), of_decide_eq_true (exAt c.ex 18 (b := decide (PySem.W.kitOne K (.ref (He.ga K "State")) (.ref (He.ga K "State")) = some true)) rfl)⟩,
   He.noat_ok (c.d.fact 79 (f := .noat "State" "rows") rfl),
   He.noat_ok (c.d.fact 80 (f := .noat "State" "comment") rfl),
   He.mkr_ok (c.d.fact 81 (f := .mkr "State") rfl),
   c.d.def_ 47 (d := dI "State" s_State___init__ [.adr (He.dflAt ("State", some "__init__") 0)] [("comment", .str "")]) rfl,
   mk_mth c.d 48 82 rfl rfl,
   mk_mth c.d 49 83 rfl rfl,
   mk_mth c.d 50 84 rfl rfl,
   mk_mth c.d 51 85 rfl rfl,
   mk_mth c.d 52 86 rfl rfl,
   mk_mth c.d 53 87 rfl rfl,
   mk_mth c.d 54 88 rfl rfl,
   mk_mth c.d 55 89 rfl rfl,
   mk_mth c.d 56 90 rfl rfl,
   mk_mth c.d 57 91 rfl rfl,
   mk_mth c.d 58 92 rfl rfl,
   mk_mth c.d 59 93 rfl rfl,
   mk_mth c.d 60 94 rfl rfl,
   mk_mth c.d 61 95 rfl rfl,
   mk_mth c.d 62 96 rfl rfl,
   mk_mth c.d 63 97 rfl rfl,
   He.free_ok KX G (c.d.fact 98 (f := .free "ValueError") rfl),
   He.free_ok KX G (c.d.fact 99 (f := .free "abs") rfl),
   He.free_ok KX G (c.d.fact 100 (f := .free "all") rfl),
   He.free_ok KX G (c.d.fact 101 (f := .free "any") rfl),
   He.free_ok KX G (c.d.fact 102 (f := .free "bool") rfl),
   He.free_ok KX G (c.d.fact 103 (f := .free "enumerate") rfl),
   He.free_ok KX G (c.d.fact 104 (f := .free "int") rfl),
   He.free_ok KX G (c.d.fact 105 (f := .free "isinstance") rfl),
   He.free_ok KX G (c.d.fact 106 (f := .free "len") rfl),
   He.free_ok KX G (c.d.fact 107 (f := .free "list") rfl),
   He.free_ok KX G (c.d.fact 108 (f := .free "ord") rfl),
   He.free_ok KX G (c.d.fact 109 (f := .free "range") rfl),
   He.free_ok KX G (c.d.fact 110 (f := .free "repr") rfl),
   He.free_ok KX G (c.d.fact 111 (f := .free "sorted") rfl),
   He.free_ok KX G (c.d.fact 112 (f := .free "str") rfl),
   He.free_ok KX G (c.d.fact 113 (f := .free "tuple") rfl)⟩
theorem txe_of (KX : K.In h) (G : h.Ns mainGlobals mg) (c : SaysH h K) : Txe K mg (adsK K) :=
  ⟨⟨(He.glo_ok KX G (c.d.fact 63 (f := .glo "NoState") rfl)), (He.exc_ok (c.d.fact 114 (f := .exc "NoState") rfl)).1, (He.exc_ok (c.d.fact 114 (f := .exc "NoState") rfl)).2.1, (He.exc_ok (c.d.fact 114 (f := .exc "NoState") rfl)).2.2.1, (He.exc_ok (c.d.fact 114 (f := .exc "NoState") rfl)).2.2.2⟩,
   He.exm_ok (c.d.fact 115 (f := .exm "NoState" "ArchiveError" true) rfl),
   ⟨He.eqO_ok (exAt c.ex 19 (b := He.eqO (PySem.W.findIn K (.ref (He.ga K "NoState")) "__getattribute__") (some (some (.builtin "BaseException.__getattribute__")))) rfl), He.eqO_ok (exAt c.ex 20 (b := He.eqO (PySem.W.findIn K (.ref (He.ga K "NoState")) "__getattr__") (some none)) rfl), of_decide_eq_true (exAt c.ex 21 (b := decide (PySem.W.subIn K (.ref (He.ga K "NoState")) (.type "BaseException") = some true)) rfl), (exAt c.ex 22 (b := PySem.W.hasDictIn K (He.ga K "NoState")) rfl), He.eqO_ok (exAt c.ex 23 (b := He.eqO (PySem.W.findIn K (.ref (He.ga K "NoState")) "__class__") (some (some (.builtin "object.__class__")))) rfl), He.eqO_ok (exAt c.ex 6 (b := He.eqO (PySem.W.specialIn K (.builtin "object.__class__") "__get__") (some (some (.builtin "getset_descriptor.__get__")))) rfl), of_decide_eq_true (exAt c.ex 7 (b := decide (PySem.W.takesIn K (.builtin "object.__class__") = some true)) rfl), of_decide_eq_true (exAt c.ex 24 (b := decide (PySem.W.mroIn K (He.ga K "NoState") (.type "object") = some true)) rfl)⟩,
   of_decide_eq_true (exAt c.ex 25 (b := decide (PySem.W.kitOne K (.ref (He.ga K "NoState")) (.ref (He.ga K "NoState")) = some true)) rfl),
   of_decide_eq_true (exAt c.ex 26 (b := decide (PySem.W.kitOne K (.ref (He.ga K "NoState")) (.type "ValueError") = some true)) rfl),
   of_decide_eq_true (exAt c.ex 27 (b := decide (PySem.W.kitAny K (.ref (He.ga K "NoState")) [.ref (He.ga K "NoEntry"), .ref (He.ga K "NoName"), .ref (He.ga K "NoTree")] = some false)) rfl),
   of_decide_eq_true (exAt c.ex 28 (b := decide (PySem.W.kitOne K (.type "NoneType") (.ref (He.ga K "State")) = some false)) rfl),
   of_decide_eq_true (exAt c.ex 29 (b := decide (PySem.W.kitOne K (.type "int") (.ref (He.ga K "State")) = some false)) rfl),
   of_decide_eq_true (exAt c.ex 30 (b := decide (PySem.W.kitOne K (.type "bool") (.ref (He.ga K "State")) = some false)) rfl),
   of_decide_eq_true (exAt c.ex 31 (b := decide (PySem.W.kitOne K (.type "str") (.ref (He.ga K "State")) = some false)) rfl),
   of_decide_eq_true (exAt c.ex 32 (b := decide (PySem.W.kitOne K (.type "list") (.ref (He.ga K "State")) = some false)) rfl),
   of_decide_eq_true (exAt c.ex 33 (b := decide (PySem.W.kitOne K (.type "dict") (.ref (He.ga K "State")) = some false)) rfl),
   of_decide_eq_true (exAt c.ex 34 (b := decide (PySem.W.kitOne K (.type "tuple") (.ref (He.ga K "State")) = some false)) rfl),
   of_decide_eq_true (exAt c.ex 35 (b := decide (PySem.W.kitOne K (.ref (He.ga K "Entry")) (.ref (He.ga K "State")) = some false)) rfl)⟩
theorem law_fun (c : SaysH h K) : ∃ fd, FunD K "law" "law" (defArgs s_law) (defBody s_law) (defScope s_law) [] [] (He.ga K "law") fd := c.d.def_ 42 (d := dD "law" s_law) rfl
end
end EL
open PySem PySem.W PySem.Calls PyProof.Rows
theorem PySem.Challenge.cw_endlist_k50_clashes_by_definition_holds : PySem.Challenge.rw_endlist_k50_clashes_by_definition.Holds := by
  w_on; o_law
  refine HandSHeadRun.head_any (r := EL.RowH) (q := view EL.RowH.prog [78]) (H := EL.hookH) (ob := EL.obH) (M := 6000) (loose := EL.names) (d := HandSHeadRun.topDef EL.RowH.prog 78) (kwd := []) EL.obH_eq
    (by kernel_rfl) (fun s => by kernel_rfl) EL.runH (by kernel_rfl) (by kernel_rfl) (by kernel_rfl) (by rfl) (by first | assumption | decide +kernel) (by decide +kernel) ⟨rfl, rfl, rfl, rfl, rfl, by decide +kernel⟩ ?hw ?hc
  case hw => w_witness2
  case hc =>
    refine Att.attach_callB (l := PySem.Challenge.rw_endlist_k50_clashes_by_definition) (n := 63) rfl (by kernel_rfl) fun w s0 s1 mg mb fa o pm cd doc a vs ns G Y ho hd hcd hmg0 hobj hints hlen hbits hg => ?_
    obtain ⟨K, KX, c⟩ := Y
    have hmg : mg ("law" : PySem.Str) = some (.ref fa) := by
      have e : (HandSHeadRun.topDef EL.RowH.prog 78).name = ("law" : PySem.Str) := by kernel_rfl
      rw [← e]
      exact hmg0
    have e := hmg.symm.trans (He.glo_ok KX G.T.g (c.d.fact 42 (f := .glo "law") rfl))
    cases e
    obtain ⟨fd, F⟩ := EL.law_fun c
    exact EL.end_call (EL.txt_of KX G.T.g c) (EL.txe_of KX G.T.g c) KX G.T.g G.T.b G.T.builtins G.T.nolimit hg c.emp c.out (fun h X => PySem.W.codeHd_of_K X c.hd) G.T.bmain hobj hints hlen F fun _ _ _ _ _ lk e => (He.codeOf_eq (p := EL.lawP) lk e).symm
