import PyProof.Rows.All
import Wide.All
import OpenK.AllK
import Wide.FinOn
import HandS.ForMost
import HandS.Star
import HandS.Walk
import HandS.IsInst
import HandS.NoneIn
import HandS.TupMul
import HandS.TupAny
import HandS.TupLe
import HandS.Conv
import HandS.Wide
import HandS.Strs
import HandS.Zip
import PySem.Challenge.RW_errandwide_k27_whole_plays_of_five_copie
import KE.GoesEnum
import HandS.SetFor
import PyProof.Rows.SeqMore
import HandS.Ends
import PyProof.ReprLen
set_option Elab.async false
set_option linter.all false
set_option maxRecDepth 100000
set_option maxHeartbeats 4000000
/-! K1: a layer over HandS for code that changes nothing: what an expression, a test, a statement comes to, told by data (PyData). -/
namespace KD
open PySem L2
variable {K : PySem.W.Frag}

theorem sqt_mono {H H' : Hp} {a : Addr} {xs : List V} (e : Same H H') (h : SqT K H a xs) : SqT K H' a xs := by
  rcases h with (h | ⟨o, h⟩) | h
  · exact .inl (.inl (e _ _ h))
  · exact .inl (.inr ⟨o, e _ _ h⟩)
  · exact .inr h
mutual
theorem dp_mono {H H' : Hp} (e : Same H H') : ∀ (d : PyData) (v : V), Dp K H v d → Dp K H' v d
  | .none, _, h => by cases h; exact .non
  | .bool b, _, h => by cases h; exact .bl b
  | .int i, _, h => by cases h; exact .int i
  | .str x, _, h => by cases h; exact .str x
  | .list ds, _, h => by
    cases h with
    | lst h1 h2 => exact .lst (e.seq h1) (dpa_mono e ds _ h2)
  | .tuple ds, _, h => by
    cases h with
    | tup h1 h2 => exact .tup (sqt_mono e h1) (dpa_mono e ds _ h2)
  | .dict _, _, h => by cases h
theorem dpa_mono {H H' : Hp} (e : Same H H') : ∀ (ds : List PyData) (vs : List V), DpAll K H vs ds → DpAll K H' vs ds
  | [], _, h => by cases h; exact .nil
  | d :: ds, _, h => by
    cases h with
    | cons h1 h2 => exact .cons (dp_mono e d _ h1) (dpa_mono e ds _ h2)
end

section
variable {H : Hp}
theorem dpa_len : ∀ {vs : List V} {ds : List PyData}, DpAll K H vs ds → vs.length = ds.length
  | _, _, .nil => rfl
  | _, _, .cons _ t => by rw [List.length_cons, List.length_cons, dpa_len t]
theorem dpa_get : ∀ {vs : List V} {ds : List PyData} {i : Nat} {d : PyData}, DpAll K H vs ds → ds[i]? = some d → ∃ v, vs[i]? = some v ∧ Dp K H v d
  | _, _, _, _, .nil, e => by cases e
  | _, _, 0, _, .cons r _, e => by cases e; exact ⟨_, rfl, r⟩
  | _, _, i + 1, _, .cons _ t, e => dpa_get (i := i) t e
theorem dpa_at : ∀ {vs : List V} {ds : List PyData} {i : Nat} {v : V}, DpAll K H vs ds → vs[i]? = some v → ∃ d, ds[i]? = some d ∧ Dp K H v d
  | _, _, _, _, .nil, e => by cases e
  | _, _, 0, _, .cons r _, e => by cases e; exact ⟨_, rfl, r⟩
  | _, _, i + 1, _, .cons _ t, e => dpa_at (i := i) t e
theorem dpa_app : ∀ {vs ws : List V} {ds es : List PyData}, DpAll K H vs ds → DpAll K H ws es → DpAll K H (vs ++ ws) (ds ++ es)
  | _, _, _, _, .nil, h => h
  | _, _, _, _, .cons a t, h => .cons a (dpa_app t h)
theorem dpa_take : ∀ {vs : List V} {ds : List PyData} (n : Nat), DpAll K H vs ds → DpAll K H (vs.take n) (ds.take n)
  | _, _, 0, _ => by rw [List.take_zero, List.take_zero]; exact .nil
  | _, _, _ + 1, .nil => .nil
  | _, _, n + 1, .cons a t => .cons a (dpa_take n t)
theorem dpa_drop : ∀ {vs : List V} {ds : List PyData} (n : Nat), DpAll K H vs ds → DpAll K H (vs.drop n) (ds.drop n)
  | _, _, 0, h => h
  | _, _, _ + 1, .nil => .nil
  | _, _, n + 1, .cons _ t => dpa_drop n t
theorem dpa_rep : ∀ (n : Nat) {vs : List V} {ds : List PyData}, DpAll K H vs ds → DpAll K H (List.replicate n vs).flatten (List.replicate n ds).flatten
  | 0, _, _, _ => .nil
  | n + 1, _, _, h => by
    rw [List.replicate_succ, List.replicate_succ, List.flatten_cons, List.flatten_cons]
    exact dpa_app h (dpa_rep n h)
theorem dp_int {v : V} {i : Int} (h : Dp K H v (.int i)) : v = .int i := by cases h; rfl
theorem dp_bool {v : V} {b : Bool} (h : Dp K H v (.bool b)) : v = .bl b := by cases h; rfl
theorem dp_str {v : V} {x : Str} (h : Dp K H v (.str x)) : v = .str x := by cases h; rfl
theorem dp_none {v : V} (h : Dp K H v .none) : v = .non := by cases h; rfl
theorem dp_tup {v : V} {ds : List PyData} (h : Dp K H v (.tuple ds)) : ∃ a vs, v = .ref a ∧ SqT K H a vs ∧ DpAll K H vs ds := by
  cases h with
  | tup h1 h2 => exact ⟨_, _, rfl, h1, h2⟩
theorem dp_lst {v : V} {ds : List PyData} (h : Dp K H v (.list ds)) : ∃ a vs, v = .ref a ∧ SqL K H a vs ∧ DpAll K H vs ds := by
  cases h with
  | lst h1 h2 => exact ⟨_, _, rfl, h1, h2⟩
theorem dpa_ints : ∀ {vs : List V} {ns : List Int}, DpAll K H vs (ns.map .int) → vs = ns.map V.int
  | _, [], h => by cases h; rfl
  | _, n :: ns, h => by
    cases h with
    | cons h1 h2 => rw [dp_int h1, dpa_ints h2]; rfl
theorem ints_dpa : ∀ (ns : List Int), DpAll K H (ns.map V.int) (ns.map .int)
  | [] => .nil
  | _ :: ns => .cons (.int _) (ints_dpa ns)
theorem dpa_bools : ∀ {vs : List V} {bs : List Bool}, DpAll K H vs (bs.map .bool) → vs = bs.map V.bl
  | _, [], h => by cases h; rfl
  | _, n :: ns, h => by
    cases h with
    | cons h1 h2 => rw [dp_bool h1, dpa_bools h2]; rfl
theorem dpa_strs : ∀ {vs : List V} {bs : List Str}, DpAll K H vs (bs.map .str) → vs = bs.map V.str
  | _, [], h => by cases h; rfl
  | _, n :: ns, h => by
    cases h with
    | cons h1 h2 => rw [dp_str h1, dpa_strs h2]; rfl
end

/-! ### the heap in two parts: G, of which data are told; the rest of H stays out of it -/
structure Stp (G H G2 H2 : Hp) : Prop where
  sub : Same G2 H2
  ext : Same H H2
  old : ∀ b, H b ≠ none → G2 b = G b
theorem Stp.refl {G H : Hp} (h : Same G H) : Stp G H G H := ⟨h, Same.refl _, fun _ _ => rfl⟩
theorem Stp.trans {G H G1 H1 G2 H2 : Hp} (a : Stp G H G1 H1) (b : Stp G1 H1 G2 H2) : Stp G H G2 H2 :=
  ⟨b.sub, a.ext.trans b.ext, fun c h => by
    have h1 : H1 c ≠ none := by
      cases e : H c with
      | none => exact absurd e h
      | some o => rw [a.ext c o e]; simp
    rw [b.old c h1, a.old c h]⟩
theorem Stp.up {G H G2 H2 : Hp} (a : Stp G H G2 H2) (h : Same G H) : Same G G2 := fun b o e => by
  rw [a.old b (by rw [h b o e]; simp)]; exact e
theorem Stp.new {G H : Hp} (h : Same G H) {p : Addr} (hp : H p = none) (o : HO) : Stp G H (upd G p o) (upd H p o) where
  sub := fun b u e => by
    by_cases q : b = p
    · subst q; rw [upd_same] at e ⊢; exact e
    · rw [upd_ne q] at e ⊢; exact h b u e
  ext := fun b u e => by rw [upd_ne (ne_of_none e hp)]; exact e
  old := fun b e => upd_ne fun q => by subst q; exact e hp
theorem Stp.keep {G H G2 H2 : Hp} (a : Stp G H G2 H2) {b : Addr} {o : HO} (h : H b = some o) : H2 b = some o := a.ext b o h
theorem Stp.out {G H G2 H2 : Hp} (a : Stp G H G2 H2) {b : Addr} (h : H b ≠ none) (g : G b = none) : G2 b = none := by rw [a.old b h]; exact g

/-! ### slots told by data -/
abbrev En := List (Option PyData)
def SD (K : PySem.W.Frag) (σ : L2.St) (G : Hp) (ρ : En) : Prop := σ.length = ρ.length ∧ ∀ (i : Nat) (d : PyData), ρ[i]? = some (some d) → ∃ v, σ[i]? = some (some v) ∧ Dp K G v d
section
variable {σ : L2.St} {G G' : Hp} {ρ : En}
theorem SD.mono (h : SD K σ G ρ) (e : Same G G') : SD K σ G' ρ := ⟨h.1, fun i d q => let ⟨v, a, b⟩ := h.2 i d q; ⟨v, a, dp_mono e _ _ b⟩⟩
theorem SD.set (h : SD K σ G ρ) {i : Nat} {v : V} {d : PyData} (hv : Dp K G v d) : SD K (σ.set i (some v)) G (ρ.set i (some d)) := by
  refine ⟨by rw [List.length_set, List.length_set, h.1], fun j e q => ?_⟩
  by_cases c : i = j
  · subst c
    by_cases hl : i < ρ.length
    · rw [List.getElem?_set_self hl] at q
      cases q
      exact ⟨v, List.getElem?_set_self (by rw [h.1]; exact hl), hv⟩
    · rw [List.getElem?_eq_none (by rw [List.length_set]; omega)] at q; cases q
  · rw [List.getElem?_set_ne c] at q ⊢
    exact h.2 j e q
theorem SD.forget (h : SD K σ G ρ) {i : Nat} (o : Option V) : SD K (σ.set i o) G (ρ.set i none) := by
  refine ⟨by rw [List.length_set, List.length_set, h.1], fun j e q => ?_⟩
  by_cases c : i = j
  · subst c
    by_cases hl : i < ρ.length
    · rw [List.getElem?_set_self hl] at q; cases q
    · rw [List.getElem?_eq_none (by rw [List.length_set]; omega)] at q; cases q
  · rw [List.getElem?_set_ne c] at q ⊢
    exact h.2 j e q
def wipeE (ρ : En) : List Nat → En
  | [] => ρ
  | v :: vs => (wipeE ρ vs).set v none
theorem SD.wipe (h : SD K σ G ρ) : ∀ vs : List Nat, SD K (wipe σ vs) G (wipeE ρ vs)
  | [] => h
  | _ :: vs => (SD.wipe h vs).forget _
/-- a def's slots at its entry -/
def startE (n : Nat) (ds : List PyData) : En := ds.map some ++ List.replicate (n - ds.length) none
theorem sd_start {N : List Str} {vs : List V} {ds : List PyData} (h : DpAll K G vs ds) (hl : ds.length ≤ N.length) : SD K (L2.start N vs) G (startE N.length ds) := by
  have e := dpa_len h
  refine ⟨by unfold L2.start startE; simp [e], fun i d q => ?_⟩
  unfold startE at q
  by_cases c : i < ds.length
  · rw [List.getElem?_append_left (by simpa using c), List.getElem?_map] at q
    cases r : ds[i]? with
    | none => rw [r] at q; cases q
    | some d' =>
      rw [r] at q
      cases q
      obtain ⟨v, hv, dv⟩ := dpa_get h r
      refine ⟨v, ?_, dv⟩
      unfold L2.start
      rw [List.getElem?_append_left (by simp; omega), List.getElem?_map, hv]
      rfl
  · rw [List.getElem?_append_right (by simp; omega), List.getElem?_replicate] at q
    split at q <;> cases q
end

def isNone : PyData → Bool
  | .none => true
  | _ => false
/-! ### what expressions come to -/
def EvE (K : PySem.W.Frag) (te : TE) (ρ : En) (d : PyData) : Prop :=
  ∀ (σ : L2.St) (G H : Hp), Same G H → SD K σ G ρ → ∀ Q : VK, (∀ v G2 H2, Stp G H G2 H2 → Dp K G2 v d → Q v H2) → te σ H Q
def EvT (K : PySem.W.Frag) (tt : TT) (ρ : En) (b : Bool) : Prop :=
  ∀ (σ : L2.St) (G H : Hp), Same G H → SD K σ G ρ → ∀ Q : Bool → Hp → Prop, (∀ G2 H2, Stp G H G2 H2 → Q b H2) → tt σ H Q
def EvA (K : PySem.W.Frag) (ta : TA) (ρ : En) (ds : List PyData) : Prop :=
  ∀ (σ : L2.St) (G H : Hp), Same G H → SD K σ G ρ → ∀ Q : List V → Hp → Prop, (∀ vs G2 H2, Stp G H G2 H2 → DpAll K G2 vs ds → Q vs H2) → ta σ H Q
def EvO (K : PySem.W.Frag) (to : TO) (ρ : En) (o : Option Int) : Prop :=
  ∀ (σ : L2.St) (G H : Hp), Same G H → SD K σ G ρ → ∀ Q : Option Int → Hp → Prop, (∀ G2 H2, Stp G H G2 H2 → Q o H2) → to σ H Q
/-- an operation on values, a call on values -/
def RD (K : PySem.W.Frag) (r : R2) (x y z : PyData) : Prop :=
  ∀ (a b : V) (G H : Hp), Same G H → Dp K G a x → Dp K G b y → ∀ Q : VK, (∀ v G2 H2, Stp G H G2 H2 → Dp K G2 v z → Q v H2) → r a b H Q
def RC (K : PySem.W.Frag) (r : List V → Hp → VK → Prop) (ds : List PyData) (z : PyData) : Prop :=
  ∀ (vs : List V) (G H : Hp), Same G H → DpAll K G vs ds → ∀ Q : VK, (∀ v G2 H2, Stp G H G2 H2 → Dp K G2 v z → Q v H2) → r vs H Q

section
variable {ρ : En} {ta tb tc te : TE} {tt tu : TT} {x y z d : PyData} {b c : Bool} {r r' : R2}
theorem ev_var {i : Nat} (h : ρ[i]? = some (some d)) : EvE K (tVar i) ρ d := fun _ _ _ hs hd _ q => let ⟨v, e, dv⟩ := hd.2 i d h; ⟨v, e, q v _ _ (.refl hs) dv⟩
theorem ev_int {i : Int} : EvE K (tC (.int i)) ρ (.int i) := fun _ _ _ hs _ _ q => q _ _ _ (.refl hs) (.int i)
theorem ev_bl {i : Bool} : EvE K (tC (.bl i)) ρ (.bool i) := fun _ _ _ hs _ _ q => q _ _ _ (.refl hs) (.bl i)
theorem ev_str {i : Str} : EvE K (tC (.str i)) ρ (.str i) := fun _ _ _ hs _ _ q => q _ _ _ (.refl hs) (.str i)
theorem ev_non : EvE K (tC .non) ρ .none := fun _ _ _ hs _ _ q => q _ _ _ (.refl hs) .non
theorem ev_op (ha : EvE K ta ρ x) (hb : EvE K tb ρ y) (hr : RD K r x y z) : EvE K (tOp r ta tb) ρ z := fun σ G H hs hd Q q =>
  ha σ G H hs hd _ fun v G2 H2 s1 d1 => hb σ G2 H2 s1.sub (hd.mono (s1.up hs)) _ fun w G3 H3 s2 d2 =>
    hr v w G3 H3 s2.sub (dp_mono (s2.up s1.sub) _ _ d1) d2 Q fun u G4 H4 s3 d3 => q u G4 H4 ((s1.trans s2).trans s3) d3
theorem ev_test {t : TE} (h : EvE K t ρ (.bool b)) : EvT K (tTest t) ρ b := fun σ G H hs hd Q q =>
  h σ G H hs hd _ fun v G2 H2 s1 d1 => ⟨b, dp_bool d1, q G2 H2 s1⟩
theorem ev_tB {t : TE} (h : EvE K t ρ (.bool b)) : EvT K (tB t) ρ b := fun σ G H hs hd Q q =>
  h σ G H hs hd _ fun v G2 H2 s1 d1 => ⟨b, dp_bool d1, q G2 H2 s1⟩
theorem ev_andT (h : EvT K tt ρ b) (h2 : b = true → EvT K tu ρ c) : EvT K (tAnd tt tu) ρ (b && c) := fun σ G H hs hd Q q =>
  h σ G H hs hd _ fun G2 H2 s1 => by
    cases b with
    | false => exact iteF (q G2 H2 s1)
    | true => exact iteT (h2 rfl σ G2 H2 s1.sub (hd.mono (s1.up hs)) _ fun G3 H3 s2 => q G3 H3 (s1.trans s2))
theorem ev_orT (h : EvT K tt ρ b) (h2 : b = false → EvT K tu ρ c) : EvT K (tOr tt tu) ρ (b || c) := fun σ G H hs hd Q q =>
  h σ G H hs hd _ fun G2 H2 s1 => by
    cases b with
    | true => exact iteT (q G2 H2 s1)
    | false => exact iteF (h2 rfl σ G2 H2 s1.sub (hd.mono (s1.up hs)) _ fun G3 H3 s2 => q G3 H3 (s1.trans s2))
theorem ev_notT (h : EvT K tt ρ b) : EvT K (tNot tt) ρ (!b) := fun σ G H hs hd Q q => h σ G H hs hd _ fun G2 H2 s1 => q G2 H2 s1
theorem ev_andV (h : EvE K ta ρ (.bool b)) (h2 : b = true → EvE K tb ρ d) (h3 : b = false → d = .bool false) : EvE K (tAndV ta tb) ρ d := fun σ G H hs hd Q q =>
  h σ G H hs hd _ fun v G2 H2 s1 d1 => ⟨b, dp_bool d1, by
    cases b with
    | false => exact iteF (q _ G2 H2 s1 (by rw [h3 rfl]; exact .bl _))
    | true => exact iteT (h2 rfl σ G2 H2 s1.sub (hd.mono (s1.up hs)) _ fun w G3 H3 s2 d2 => q w G3 H3 (s1.trans s2) d2)⟩
theorem ev_notV (h : EvE K ta ρ (.bool b)) : EvE K (tNotV ta) ρ (.bool (!b)) := fun σ G H hs hd Q q =>
  h σ G H hs hd _ fun v G2 H2 s1 d1 => ⟨b, dp_bool d1, q _ G2 H2 s1 (.bl _)⟩
theorem ev_orV (h : EvE K ta ρ (.bool b)) (h2 : b = false → EvE K tb ρ d) (h3 : b = true → d = .bool true) : EvE K (tOrV ta tb) ρ d := fun σ G H hs hd Q q =>
  h σ G H hs hd _ fun v G2 H2 s1 d1 => ⟨b, dp_bool d1, by
    cases b with
    | true => exact iteT (q _ G2 H2 s1 (by rw [h3 rfl]; exact .bl _))
    | false => exact iteF (h2 rfl σ G2 H2 s1.sub (hd.mono (s1.up hs)) _ fun w G3 H3 s2 d2 => q w G3 H3 (s1.trans s2) d2)⟩
theorem ev_ifE (h : EvT K tt ρ b) (h1 : b = true → EvE K ta ρ d) (h2 : b = false → EvE K tb ρ d) : EvE K (tIf tt ta tb) ρ d := fun σ G H hs hd Q q =>
  h σ G H hs hd _ fun G2 H2 s1 => by
    cases b with
    | true => exact iteT (h1 rfl σ G2 H2 s1.sub (hd.mono (s1.up hs)) _ fun w G3 H3 s2 d2 => q w G3 H3 (s1.trans s2) d2)
    | false => exact iteF (h2 rfl σ G2 H2 s1.sub (hd.mono (s1.up hs)) _ fun w G3 H3 s2 d2 => q w G3 H3 (s1.trans s2) d2)
theorem ev_chain (ha : EvE K ta ρ x) (hb : EvE K tb ρ y) (hr : RD K r x y (.bool b)) (hc : b = true → EvE K tc ρ z) (hr' : b = true → RD K r' y z d) (h3 : b = false → d = .bool false) : EvE K (tChain r r' ta tb tc) ρ d := fun σ G H hs hd Q q =>
  ha σ G H hs hd _ fun v G2 H2 s1 d1 => hb σ G2 H2 s1.sub (hd.mono (s1.up hs)) _ fun w G3 H3 s2 d2 =>
    hr v w G3 H3 s2.sub (dp_mono (s2.up s1.sub) _ _ d1) d2 _ fun u G4 H4 s3 d3 => ⟨b, dp_bool d3, by
      have s13 := (s1.trans s2).trans s3
      cases b with
      | false => exact iteF (q _ G4 H4 s13 (by rw [h3 rfl]; exact .bl _))
      | true =>
        exact iteT (hc rfl σ G4 H4 s3.sub (hd.mono (s13.up hs)) _ fun w' G5 H5 s4 d4 =>
          hr' rfl w w' G5 H5 s4.sub (dp_mono ((s3.trans s4).up s2.sub) _ _ d2) d4 Q fun u' G6 H6 s5 d5 => q u' G6 H6 ((s13.trans s4).trans s5) d5)⟩
theorem ev_isN (h : EvE K ta ρ x) : EvE K (tIsN ta) ρ (.bool (isNone x)) := fun σ G H hs hd Q q =>
  h σ G H hs hd _ fun v G2 H2 s1 d1 => q _ G2 H2 s1 (by
    have e : decide (v = V.non) = isNone x := by
      cases d1 <;> rfl
    rw [e]; exact .bl _)
theorem ev_notN (h : EvE K ta ρ x) : EvE K (tNotN ta) ρ (.bool (!isNone x)) := fun σ G H hs hd Q q =>
  h σ G H hs hd _ fun v G2 H2 s1 d1 => q _ G2 H2 s1 (by
    have e : (!decide (v = V.non)) = !isNone x := by
      cases d1 <;> rfl
    rw [e]; exact .bl _)
theorem ev_un {ru : V → Hp → VK → Prop} (h : EvE K ta ρ x) (hr : ∀ (a : V) (G H : Hp), Same G H → Dp K G a x → ∀ Q : VK, (∀ v G2 H2, Stp G H G2 H2 → Dp K G2 v z → Q v H2) → ru a H Q) : EvE K (tUn ru ta) ρ z := fun σ G H hs hd Q q =>
  h σ G H hs hd _ fun v G2 H2 s1 d1 => hr v G2 H2 s1.sub d1 Q fun u G3 H3 s2 d2 => q u G3 H3 (s1.trans s2) d2
theorem ev_neg {i : Int} (h : EvE K ta ρ (.int i)) : EvE K (tUn (rU fun i => .int (-i)) ta) ρ (.int (-i)) :=
  ev_un h fun a G H hs da Q q => ⟨i, dp_int da, q _ G H (.refl hs) (.int _)⟩

/-! arguments, displays -/
theorem ev_nil : EvA K tNil ρ [] := fun _ _ _ hs _ _ q => q [] _ _ (.refl hs) .nil
theorem ev_cons {tr : TA} {ds : List PyData} (h : EvE K te ρ d) (h2 : EvA K tr ρ ds) : EvA K (tCons te tr) ρ (d :: ds) := fun σ G H hs hd Q q =>
  h σ G H hs hd _ fun v G2 H2 s1 d1 => h2 σ G2 H2 s1.sub (hd.mono (s1.up hs)) _ fun vs G3 H3 s2 d2 =>
    q _ G3 H3 (s1.trans s2) (.cons (dp_mono (s2.up s1.sub) _ _ d1) d2)
theorem ev_star {tr : TA} {ds es : List PyData} (h : EvE K te ρ (.tuple es)) (h2 : EvA K tr ρ ds) : EvA K (StX.tStar K te tr) ρ (es ++ ds) := fun σ G H hs hd Q q =>
  h σ G H hs hd _ fun v G2 H2 s1 d1 => by
    obtain ⟨a, ws, e1, e2, e3⟩ := dp_tup d1
    exact ⟨a, ws, e1, .inl (sqt_mono s1.sub e2), h2 σ G2 H2 s1.sub (hd.mono (s1.up hs)) _ fun vs G3 H3 s2 d2 =>
      q _ G3 H3 (s1.trans s2) (dpa_app (dpa_mono (s2.up s1.sub) _ _ e3) d2)⟩
theorem ev_tup {t : TA} {ds : List PyData} (h : EvA K t ρ ds) (hz : ds.length ≤ sizeLine) : EvE K (tTup t) ρ (.tuple ds) := fun σ G H hs hd Q q =>
  h σ G H hs hd _ fun vs G2 H2 s1 d1 => ⟨by rw [dpa_len d1]; exact hz, fun p hp => by
    have st := Stp.new s1.sub hp (.tup vs)
    exact q _ _ _ (s1.trans st) (.tup (.inl (.inl upd_same)) (dpa_mono (st.up s1.sub) _ _ d1))⟩
theorem ev_lst {t : TA} {ds : List PyData} (h : EvA K t ρ ds) (hz : ds.length ≤ sizeLine) : EvE K (tLst t) ρ (.list ds) := fun σ G H hs hd Q q =>
  h σ G H hs hd _ fun vs G2 H2 s1 d1 => ⟨by rw [dpa_len d1]; exact hz, fun p hp => by
    have st := Stp.new s1.sub hp (.lst vs)
    exact q _ _ _ (s1.trans st) (.lst (.inl (.inl upd_same)) (dpa_mono (st.up s1.sub) _ _ d1))⟩
theorem ev_cb {r : List V → Hp → VK → Prop} {t : TA} {ds : List PyData} (h : EvA K t ρ ds) (hr : RC K r ds z) : EvE K (tCB r t) ρ z := fun σ G H hs hd Q q =>
  h σ G H hs hd _ fun vs G2 H2 s1 d1 => hr vs G2 H2 s1.sub d1 Q fun u G3 H3 s2 d2 => q u G3 H3 (s1.trans s2) d2

/-! a def that changes nothing: its promise -/
def spP (K : PySem.W.Frag) (F : List PyData → PyData → Prop) : Sp := fun vs H Q _ =>
  ∃ (G : Hp) (ds : List PyData) (z : PyData), Same G H ∧ DpAll K G vs ds ∧ F ds z ∧ ∀ v G2 H2, Stp G H G2 H2 → Dp K G2 v z → Q v H2
theorem ev_call {F : List PyData → PyData → Prop} {E : XK} {t : TA} {ds : List PyData} (h : EvA K t ρ ds) (hF : F ds z) : EvE K (tCall (spP K F) [] E t) ρ z := fun σ G H hs hd Q q =>
  h σ G H hs hd _ fun vs G2 H2 s1 d1 => ⟨G2, ds, z, s1.sub, by rw [List.append_nil]; exact d1, hF, fun u G3 H3 s2 d2 => q u G3 H3 (s1.trans s2) d2⟩
end
end KD

/-! K2: operations by data; statements, loops, comprehensions. -/
namespace KD
open PySem L2
variable {K : PySem.W.Frag}
section
variable {ρ ρ' ρ1 ρ2 : En} {ta tb tc te tl : TE} {tt tu : TT} {x y z d : PyData} {b c : Bool} {ds es : List PyData}
theorem rd_i0 {g : Int → Int → V} {i j : Int} (h : ∀ G, Dp K G (g i j) z) : RD K (rI0 g) (.int i) (.int j) z := fun a b G H hs da db Q q => ⟨i, j, dp_int da, dp_int db, q _ G H (.refl hs) (h G)⟩
theorem rd_i {C : Int → Int → Prop} {g : Int → Int → V} {i j : Int} (hc : C i j) (h : ∀ G, Dp K G (g i j) z) : RD K (rI C g) (.int i) (.int j) z := fun a b G H hs da db Q q => ⟨i, j, dp_int da, dp_int db, hc, q _ G H (.refl hs) (h G)⟩
theorem rd_add {i j : Int} : RD K (rI0 fun i j => .int (i + j)) (.int i) (.int j) (.int (i + j)) := rd_i0 fun _ => .int _
theorem rd_sub {i j : Int} : RD K (rI0 fun i j => .int (i - j)) (.int i) (.int j) (.int (i - j)) := rd_i0 fun _ => .int _
theorem rd_mul {i j : Int} (h : CMul i j) : RD K (rI CMul fun i j => .int (i * j)) (.int i) (.int j) (.int (i * j)) := rd_i h fun _ => .int _
theorem rd_lt {i j : Int} : RD K (rI0 fun i j => .bl (decide (i < j))) (.int i) (.int j) (.bool (decide (i < j))) := rd_i0 fun _ => .bl _
theorem rd_le {i j : Int} : RD K (rI0 fun i j => .bl (decide (i ≤ j))) (.int i) (.int j) (.bool (decide (i ≤ j))) := rd_i0 fun _ => .bl _
theorem rd_gt {i j : Int} : RD K (rI0 fun i j => .bl (decide (j < i))) (.int i) (.int j) (.bool (decide (j < i))) := rd_i0 fun _ => .bl _
theorem rd_ge {i j : Int} : RD K (rI0 fun i j => .bl (decide (j ≤ i))) (.int i) (.int j) (.bool (decide (j ≤ i))) := rd_i0 fun _ => .bl _
theorem rd_eq (hx : SeqAt.shaped x = true) (hy : SeqAt.shaped y = true) : RD K (rEqD K) x y (.bool (PyData.eqv x y)) := fun a b G H hs da db Q q => ⟨x, y, dp_mono hs _ _ da, dp_mono hs _ _ db, hx, hy, q _ G H (.refl hs) (.bl _)⟩
theorem rd_ne (hx : SeqAt.shaped x = true) (hy : SeqAt.shaped y = true) : RD K (rNeD K) x y (.bool (!PyData.eqv x y)) := fun a b G H hs da db Q q => ⟨x, y, dp_mono hs _ _ da, dp_mono hs _ _ db, hx, hy, q _ G H (.refl hs) (.bl _)⟩
theorem at_get {vs : List V} {H : Hp} {i : Int} (h : DpAll K H vs ds) (e : atI ds i = some d) : ∃ v, atI vs i = some v ∧ Dp K H v d := by
  unfold atI at e ⊢
  rw [dpa_len h]
  cases q : ixN ds.length i with
  | none => rw [q] at e; cases e
  | some j =>
    rw [q] at e
    exact dpa_get h e
theorem rd_ixT {i : Int} (e : atI ds i = some d) : RD K (rIxT K) (.tuple ds) (.int i) d := fun a b G H hs da db Q q => by
  obtain ⟨p, vs, e1, e2, e3⟩ := dp_tup da
  obtain ⟨v, hv, dv⟩ := at_get e3 e
  exact ⟨p, vs, i, v, e1, dp_int db, sqt_mono hs e2, hv, q v G H (.refl hs) dv⟩
theorem rd_ixL {i : Int} (e : atI ds i = some d) : RD K (rIxL K) (.list ds) (.int i) d := fun a b G H hs da db Q q => by
  obtain ⟨p, vs, e1, e2, e3⟩ := dp_lst da
  obtain ⟨v, hv, dv⟩ := at_get e3 e
  exact ⟨p, vs, i, v, e1, dp_int db, hs.seq e2, hv, q v G H (.refl hs) dv⟩
theorem in_ints {i : Int} {ns : List Int} : inV (.int i) (ns.map V.int) = ns.contains i := by
  unfold inV
  induction ns with
  | nil => rfl
  | cons n ns ih =>
    rw [List.map_cons, List.any_cons, ih, List.contains_cons]
    show ((n == i) || _) = _
    congr 1
    exact Bool.beq_comm
theorem in_strs {i : Str} {ns : List Str} : inV (.str i) (ns.map V.str) = ns.contains i := by
  unfold inV
  induction ns with
  | nil => rfl
  | cons n ns ih =>
    rw [List.map_cons, List.any_cons, ih, List.contains_cons]
    show ((n == i) || _) = _
    congr 1
    exact Bool.beq_comm
theorem flat_ints (ns : List Int) : (ns.map V.int).all flatV = true := by
  rw [List.all_eq_true]
  intro v hv
  obtain ⟨n, _, rfl⟩ := List.mem_map.mp hv
  rfl
theorem flat_strs (ns : List Str) : (ns.map V.str).all flatV = true := by
  rw [List.all_eq_true]
  intro v hv
  obtain ⟨n, _, rfl⟩ := List.mem_map.mp hv
  rfl
theorem rd_inI {i : Int} {ns : List Int} {neg : Bool} : RD K (rIn K neg) (.int i) (.tuple (ns.map .int)) (.bool (if neg then !ns.contains i else ns.contains i)) := fun a b G H hs da db Q q => by
  obtain ⟨p, vs, e1, e2, e3⟩ := dp_tup db
  have e := dpa_ints e3
  subst e
  have ea := dp_int da
  subst ea
  refine ⟨p, _, e1, .inr (sqt_mono hs e2), rfl, flat_ints ns, ?_⟩
  rw [in_ints]
  exact q _ G H (.refl hs) (.bl _)
theorem rd_inS {i : Str} {ns : List Str} {neg : Bool} : RD K (rIn K neg) (.str i) (.tuple (ns.map .str)) (.bool (if neg then !ns.contains i else ns.contains i)) := fun a b G H hs da db Q q => by
  obtain ⟨p, vs, e1, e2, e3⟩ := dp_tup db
  have e := dpa_strs e3
  subst e
  have ea := dp_str da
  subst ea
  refine ⟨p, _, e1, .inr (sqt_mono hs e2), rfl, flat_strs ns, ?_⟩
  rw [in_strs]
  exact q _ G H (.refl hs) (.bl _)
theorem rd_lexLt {ns ms : List Int} : RD K (rLtT K) (.tuple (ns.map .int)) (.tuple (ms.map .int)) (.bool (HT.lexLt ns ms)) := fun a b G H hs da db Q q => by
  obtain ⟨p, vs, e1, e2, e3⟩ := dp_tup da
  obtain ⟨p', vs', e1', e2', e3'⟩ := dp_tup db
  have e := dpa_ints e3
  have e' := dpa_ints e3'
  subst e e'
  exact ⟨p, p', ns, ms, e1, e1', sqt_mono hs e2, sqt_mono hs e2', q _ G H (.refl hs) (.bl _)⟩
theorem rd_rep {k : Int} (h0 : ds ≠ []) (h1 : 2 ≤ k) (h2 : k ≤ 1000) (h3 : ds.length ≤ 1000) : RD K (rRepT K) (.tuple ds) (.int k) (.tuple (List.replicate k.toNat ds).flatten) := fun a b G H hs da db Q q => by
  obtain ⟨p, vs, e1, e2, e3⟩ := dp_tup da
  refine ⟨p, k, vs, e1, dp_int db, sqt_mono hs e2, fun z => h0 ?_, h1, h2, by rw [dpa_len e3]; exact h3, fun r hr => ?_⟩
  · subst z
    exact List.eq_nil_of_length_eq_zero (dpa_len e3).symm
  · have st := Stp.new hs hr (.tup (List.replicate k.toNat vs).flatten)
    exact q _ _ _ st (.tup (.inl (.inl upd_same)) (dpa_mono (st.up hs) _ _ (dpa_rep _ e3)))
theorem rd_catT (hz : ds.length + es.length ≤ sizeLine) : RD K (rCatA K) (.tuple ds) (.tuple es) (.tuple (ds ++ es)) := fun a b G H hs da db Q q => by
  obtain ⟨p, vs, e1, e2, e3⟩ := dp_tup da
  obtain ⟨p', vs', e1', e2', e3'⟩ := dp_tup db
  refine ⟨p, p', vs, vs', e1, e1', sqt_mono hs e2, sqt_mono hs e2', by rw [dpa_len e3, dpa_len e3']; exact hz, fun z => ?_, fun z1 z2 => ?_, fun z1 z2 r hr => ?_⟩
  · subst z
    cases e3
    exact q _ G H (.refl hs) (by rw [← e1']; exact db)
  · subst z2
    cases e3'
    rw [List.append_nil] at q
    exact q _ G H (.refl hs) (by rw [← e1]; exact da)
  · have st := Stp.new hs hr (.tup (vs ++ vs'))
    exact q _ _ _ st (.tup (.inl (.inl upd_same)) (dpa_mono (st.up hs) _ _ (dpa_app e3 e3')))

/-! slices of tuples -/
def cutD (xs : List PyData) (lo hi : Option Int) : List PyData := (xs.drop (HT.sIx xs.length 0 lo)).take (HT.sIx xs.length xs.length hi - HT.sIx xs.length 0 lo)
theorem ev_none : EvO K tNoPart ρ none := fun _ _ _ hs _ _ q => q _ _ (.refl hs)
theorem ev_part {i : Int} (h : EvE K te ρ (.int i)) : EvO K (tPart te) ρ (some i) := fun σ G H hs hd Q q =>
  h σ G H hs hd _ fun v G2 H2 s1 d1 => ⟨i, dp_int d1, q G2 H2 s1⟩
theorem ev_slT {tl th : TO} {lo hi : Option Int} (h : EvE K te ρ (.tuple ds)) (hl : EvO K tl ρ lo) (hh : EvO K th ρ hi) : EvE K (tSl (rSlA K) te tl th) ρ (.tuple (cutD ds lo hi)) := fun σ G H hs hd Q q =>
  h σ G H hs hd _ fun v G2 H2 s1 d1 => hl σ G2 H2 s1.sub (hd.mono (s1.up hs)) _ fun G3 H3 s2 => hh σ G3 H3 s2.sub (hd.mono ((s1.trans s2).up hs)) _ fun G4 H4 s3 => by
    have s13 := (s1.trans s2).trans s3
    have d4 := dp_mono ((s2.trans s3).up s1.sub) _ _ d1
    obtain ⟨p, vs, e1, e2, e3⟩ := dp_tup d4
    refine ⟨p, vs, e1, sqt_mono s3.sub e2, fun z => ?_, fun _ r hr => ?_⟩
    · refine q _ G4 H4 s13 ?_
      have e : cutD ds lo hi = ds := by
        unfold cutD
        rw [dpa_len e3] at z
        rw [z.1, z.2, List.drop_zero, Nat.sub_zero, List.take_length]
      rw [e, ← e1]
      exact d4
    · have st := Stp.new s3.sub hr (.tup (cutV vs lo hi))
      refine q _ _ _ (s13.trans st) (.tup (.inl (.inl upd_same)) (dpa_mono (st.up s3.sub) _ _ ?_))
      unfold cutV cutD
      rw [dpa_len e3]
      exact dpa_take _ (dpa_drop _ e3)

/-! calls of built-ins -/
theorem rc_lenT : RC K (fun xs H Q => ∃ p ys, xs = [.ref p] ∧ (SqL K H p ys ∨ SqT K H p ys) ∧ Q (.int ys.length) H) [.tuple ds] (.int (ds.length : Nat)) := fun vs G H hs dv Q q => by
  cases dv with
  | cons d1 d2 =>
    cases d2
    obtain ⟨p, ws, e1, e2, e3⟩ := dp_tup d1
    subst e1
    exact ⟨p, ws, rfl, .inr (sqt_mono hs e2), by rw [dpa_len e3]; exact q _ G H (.refl hs) (.int _)⟩
theorem rc_lenL : RC K (fun xs H Q => ∃ p ys, xs = [.ref p] ∧ (SqL K H p ys ∨ SqT K H p ys) ∧ Q (.int ys.length) H) [.list ds] (.int (ds.length : Nat)) := fun vs G H hs dv Q q => by
  cases dv with
  | cons d1 d2 =>
    cases d2
    obtain ⟨p, ws, e1, e2, e3⟩ := dp_lst d1
    subst e1
    exact ⟨p, ws, rfl, .inl (hs.seq e2), by rw [dpa_len e3]; exact q _ G H (.refl hs) (.int _)⟩
theorem rc_all {bs : List Bool} : RC K (rAll K) [.list (bs.map .bool)] (.bool (bs.all id)) := fun vs G H hs dv Q q => by
  cases dv with
  | cons d1 d2 =>
    cases d2
    obtain ⟨p, ws, e1, e2, e3⟩ := dp_lst d1
    have e := dpa_bools e3
    subst e1 e
    exact ⟨p, bs, rfl, hs.seq e2, q _ G H (.refl hs) (.bl _)⟩
theorem rc_max {ns : List Int} {m : Int} (h0 : 0 < ns.length) (h : ∀ k, k ∈ ns → (∀ y, y ∈ ns → y ≤ k) → k = m) : RC K (rMax K) [.list (ns.map .int)] (.int m) := fun vs G H hs dv Q q => by
  cases dv with
  | cons d1 d2 =>
    cases d2
    obtain ⟨p, ws, e1, e2, e3⟩ := dp_lst d1
    have e := dpa_ints e3
    subst e1 e
    exact ⟨p, ns, rfl, hs.seq e2, h0, fun k hk hall => by rw [h k hk hall]; exact q _ G H (.refl hs) (.int _)⟩
theorem rc_max2 {i j : Int} : RC K (fun xs H Q => ∃ i j, xs = [.int i, .int j] ∧ Q (.int (if j > i then j else i)) H) [.int i, .int j] (.int (if j > i then j else i)) := fun vs G H hs dv Q q => by
  cases dv with
  | cons d1 d2 =>
    cases d2 with
    | cons d2 d3 =>
      cases d3
      exact ⟨i, j, by rw [dp_int d1, dp_int d2], q _ G H (.refl hs) (.int _)⟩
theorem rc_min2 {i j : Int} : RC K (fun xs H Q => ∃ i j, xs = [.int i, .int j] ∧ Q (.int (if j < i then j else i)) H) [.int i, .int j] (.int (if j < i then j else i)) := fun vs G H hs dv Q q => by
  cases dv with
  | cons d1 d2 =>
    cases d2 with
    | cons d2 d3 =>
      cases d3
      exact ⟨i, j, by rw [dp_int d1, dp_int d2], q _ G H (.refl hs) (.int _)⟩
theorem rc_tupL : RC K (fun xs H Q => ∃ p ys, xs = [.ref p] ∧ ((SqL K H p ys ∧ ∀ l, H l = none → Q (.ref l) (upd H l (.tup ys))) ∨ (SqT K H p ys ∧ Q (.ref p) H))) [.list ds] (.tuple ds) := fun vs G H hs dv Q q => by
  cases dv with
  | cons d1 d2 =>
    cases d2
    obtain ⟨p, ws, e1, e2, e3⟩ := dp_lst d1
    subst e1
    refine ⟨p, ws, rfl, .inl ⟨hs.seq e2, fun l hl => ?_⟩⟩
    have st := Stp.new hs hl (.tup ws)
    exact q _ _ _ st (.tup (.inl (.inl upd_same)) (dpa_mono (st.up hs) _ _ e3))
theorem rc_listT : RC K (fun xs H Q => ∃ p ys, xs = [.ref p] ∧ (SqL K H p ys ∨ SqT K H p ys) ∧ ∀ l, H l = none → Q (.ref l) (upd H l (.lst ys))) [.tuple ds] (.list ds) := fun vs G H hs dv Q q => by
  cases dv with
  | cons d1 d2 =>
    cases d2
    obtain ⟨p, ws, e1, e2, e3⟩ := dp_tup d1
    subst e1
    refine ⟨p, ws, rfl, .inr (sqt_mono hs e2), fun l hl => ?_⟩
    have st := Stp.new hs hl (.lst ws)
    exact q _ _ _ st (.lst (.inl (.inl upd_same)) (dpa_mono (st.up hs) _ _ e3))
theorem rc_listL : RC K (fun xs H Q => ∃ p ys, xs = [.ref p] ∧ (SqL K H p ys ∨ SqT K H p ys) ∧ ∀ l, H l = none → Q (.ref l) (upd H l (.lst ys))) [.list ds] (.list ds) := fun vs G H hs dv Q q => by
  cases dv with
  | cons d1 d2 =>
    cases d2
    obtain ⟨p, ws, e1, e2, e3⟩ := dp_lst d1
    subst e1
    refine ⟨p, ws, rfl, .inl (hs.seq e2), fun l hl => ?_⟩
    have st := Stp.new hs hl (.lst ws)
    exact q _ _ _ st (.lst (.inl (.inl upd_same)) (dpa_mono (st.up hs) _ _ e3))
theorem rc_int {i : Int} : RC K (fun xs H Q => (∃ i, xs = [.int i] ∧ Q (.int i) H) ∨ ∃ k, xs = [.bl k] ∧ Q (.int (if k then 1 else 0)) H) [.int i] (.int i) := fun vs G H hs dv Q q => by
  cases dv with
  | cons d1 d2 =>
    cases d2
    exact .inl ⟨i, by rw [dp_int d1], q _ G H (.refl hs) (.int _)⟩

/-! isinstance -/
def tyD : PyData → String
  | .none => "NoneType"
  | .bool _ => "bool"
  | .int _ => "int"
  | .str _ => "str"
  | .list _ => "list"
  | .tuple _ => "tuple"
  | .dict _ => "dict"
theorem dp_ty {H : Hp} {v : V} (h : Dp K H v d) : TyX K H v (.type (tyD d)) := by
  cases h with
  | non => exact .base .non
  | bl b => exact .base (.bl b)
  | int i => exact .base (.int i)
  | str x => exact .base (.str x)
  | lst h1 h2 =>
    rcases h1 with (h1 | ⟨o, h1⟩) | ⟨o, _, _, h1, h2, _⟩
    · exact .base (.lst h1)
    · exact .base (.frz h1)
    · exact .kList h1 h2
  | tup h1 h2 =>
    rcases h1 with (h1 | ⟨o, h1⟩) | ⟨o, _, _, h1, h2, _⟩
    · exact .base (.tup h1)
    · exact .fTuple h1
    · exact .kTuple h1 h2
theorem ev_isi {T : String} (h : EvE K te ρ x) (e : kitB (tyD x) T = some b) : EvE K (tCB (rIsi K) (tCons te (tCons (tC (.ty T)) tNil))) ρ (.bool b) := fun σ G H hs hd Q q =>
  h σ G H hs hd _ fun v G2 H2 s1 d1 => ⟨v, .ty T, _, _, b, rfl, .ty T, dp_ty (dp_mono s1.sub _ _ d1), kit_ty e, q _ G2 H2 s1 (.bl _)⟩

/-! ### statements -/
inductive Out where
  | nx (ρ : En)
  | rt (d : PyData)
  | ct (ρ : En)
def Meet (K : PySem.W.Frag) (D : Ends) (G H : Hp) : Out → Prop
  | .nx ρ => ∀ σ' G2 H2, Stp G H G2 H2 → SD K σ' G2 ρ → D.nx σ' H2
  | .rt d => ∀ v G2 H2, Stp G H G2 H2 → Dp K G2 v d → D.rt v H2
  | .ct ρ => ∀ σ' G2 H2, Stp G H G2 H2 → SD K σ' G2 ρ → D.ct σ' H2
theorem Meet.on {D : Ends} {G H G2 H2 : Hp} {o : Out} (m : Meet K D G H o) (s : Stp G H G2 H2) : Meet K D G2 H2 o := by
  cases o with
  | nx ρ => exact fun σ' G3 H3 s2 d => m σ' G3 H3 (s.trans s2) d
  | rt d => exact fun v G3 H3 s2 d => m v G3 H3 (s.trans s2) d
  | ct ρ => exact fun σ' G3 H3 s2 d => m σ' G3 H3 (s.trans s2) d
def EvS (K : PySem.W.Frag) (ts : TS) (ρ : En) (o : Out) : Prop := ∀ (D : Ends) (σ : L2.St) (G H : Hp), Same G H → SD K σ G ρ → Meet K D G H o → ts D σ H
variable {t u : TS} {o : Out}
theorem es_seq (h : EvS K t ρ (.nx ρ1)) (h2 : EvS K u ρ1 o) : EvS K (tSeq t u) ρ o := fun D σ G H hs hd m =>
  h { D with nx := u D } σ G H hs hd fun σ' G2 H2 s d => h2 D σ' G2 H2 s.sub d (m.on s)
theorem es_rt (h : EvS K t ρ (.rt d)) : EvS K (tSeq t u) ρ (.rt d) := fun D σ G H hs hd m => h { D with nx := u D } σ G H hs hd m
theorem es_ct (h : EvS K t ρ (.ct ρ1)) : EvS K (tSeq t u) ρ (.ct ρ1) := fun D σ G H hs hd m => h { D with nx := u D } σ G H hs hd m
theorem es_if (h : EvT K tt ρ b) (h1 : b = true → EvS K t ρ o) (h2 : b = false → EvS K u ρ o) : EvS K (tIfS tt t u) ρ o := fun D σ G H hs hd m =>
  h σ G H hs hd _ fun G2 H2 s => by
    cases b with
    | true => exact iteT (h1 rfl D σ G2 H2 s.sub (hd.mono (s.up hs)) (m.on s))
    | false => exact iteF (h2 rfl D σ G2 H2 s.sub (hd.mono (s.up hs)) (m.on s))
theorem es_ret (h : EvE K te ρ d) : EvS K (tRet te) ρ (.rt d) := fun D σ G H hs hd m => h σ G H hs hd _ m
theorem es_next : EvS K tNext ρ (.nx ρ) := fun D σ G H hs hd m => m σ G H (.refl hs) hd
theorem es_cont : EvS K tCont ρ (.ct ρ) := fun D σ G H hs hd m => m σ G H (.refl hs) hd

/-! targets -/
def EvG (K : PySem.W.Frag) (g : TG) (d : PyData) (ρ ρ' : En) (is : List Nat) : Prop := ∀ (v : V) (σ : L2.St) (G H : Hp), Same G H → Dp K G v d → SD K σ G ρ → ∀ Q : L2.St → Hp → Prop, (∀ σ', SD K σ' G ρ' → σ'.length = σ.length → (∀ i, i ∉ is → σ'[i]? = σ[i]?) → Q σ' H) → g v σ H Q
def EvGs (K : PySem.W.Frag) (g : TGs) (ds : List PyData) (ρ ρ' : En) (is : List Nat) : Prop := ∀ (vs : List V) (σ : L2.St) (G H : Hp), Same G H → DpAll K G vs ds → SD K σ G ρ → ∀ Q : L2.St → Hp → Prop, (∀ σ', SD K σ' G ρ' → σ'.length = σ.length → (∀ i, i ∉ is → σ'[i]? = σ[i]?) → Q σ' H) → g vs σ H Q
theorem eg_name {i : Nat} : EvG K (gName i) d ρ (ρ.set i (some d)) [i] := fun v σ G H hs dv hd Q q => q _ (hd.set dv) List.length_set fun j hj => List.getElem?_set_ne fun e => hj (by rw [e]; exact List.mem_singleton.mpr rfl)
theorem eg_nil : EvGs K gNil [] ρ ρ [] := fun vs σ G H hs dv hd Q q => by
  cases dv
  exact ⟨rfl, q σ hd rfl fun _ _ => rfl⟩
theorem eg_cons {g : TG} {gs : TGs} {is js : List Nat} (h : EvG K g d ρ ρ1 is) (h2 : EvGs K gs ds ρ1 ρ2 js) : EvGs K (gCons g gs) (d :: ds) ρ ρ2 (is ++ js) := fun vs σ G H hs dv hd Q q => by
  cases dv with
  | cons d1 d2 =>
    exact ⟨_, _, rfl, h _ σ G H hs d1 hd _ fun σ1 hd1 l1 k1 => h2 _ σ1 G H hs d2 hd1 _ fun σ2 hd2 l2 k2 => q σ2 hd2 (l2.trans l1) fun i hi => by
      rw [List.mem_append] at hi
      rw [k2 i fun z => hi (.inr z), k1 i fun z => hi (.inl z)]⟩
theorem eg_tup {gs : TGs} {is : List Nat} {n : Nat} (h : EvGs K gs ds ρ ρ' is) (hn : ds.length = n) : EvG K (gTup K n gs) (.tuple ds) ρ ρ' is := fun v σ G H hs dv hd Q q => by
  obtain ⟨a, vs, e1, e2, e3⟩ := dp_tup dv
  exact ⟨a, vs, e1, sqt_mono hs e2, by rw [dpa_len e3, hn], h vs σ G H hs e3 hd Q q⟩
theorem eg_lst {gs : TGs} {is : List Nat} {n : Nat} (h : EvGs K gs ds ρ ρ' is) (hn : ds.length = n) : EvG K (gUnl K n gs) (.list ds) ρ ρ' is := fun v σ G H hs dv hd Q q => by
  obtain ⟨a, vs, e1, e2, e3⟩ := dp_lst dv
  exact ⟨a, vs, e1, hs.seq e2, by rw [dpa_len e3, hn], h vs σ G H hs e3 hd Q q⟩
theorem es_asg {g : TG} {is : List Nat} (h : EvE K te ρ d) (hg : EvG K g d ρ ρ' is) : EvS K (tAsg te g) ρ (.nx ρ') := fun D σ G H hs hd m =>
  h σ G H hs hd _ fun v G2 H2 s dv => hg v σ G2 H2 s.sub dv (hd.mono (s.up hs)) _ fun σ' hd' _ _ => m σ' G2 H2 s hd'
theorem es_set {i : Nat} (h : EvE K te ρ d) : EvS K (tAsg te (gName i)) ρ (.nx (ρ.set i (some d))) := es_asg h eg_name
theorem es_par {i j : Nat} {tA : TA} (h : EvA K tA ρ [x, y]) : EvS K (tPar i j tA) ρ (.nx ((ρ.set i (some x)).set j (some y))) := fun D σ G H hs hd m =>
  h σ G H hs hd _ fun vs G2 H2 s dv => by
    cases dv with
    | cons d1 d2 =>
      cases d2 with
      | cons d2 d3 =>
        cases d3
        exact ⟨_, _, rfl, m _ G2 H2 s (((hd.mono (s.up hs)).set d1).set d2)⟩

/-! what is walked -/
def Itd (K : PySem.W.Frag) (J : It) (G : Hp) (ds : List PyData) : Prop := ∀ (i : Nat) (G1 H1 : Hp), Same G G1 → Same G1 H1 →
  (i < ds.length → J.go i H1 ∧ ∀ v H2, J.yld i H1 v H2 → ∃ G2 d, Stp G1 H1 G2 H2 ∧ ds[i]? = some d ∧ Dp K G2 v d) ∧ (i = ds.length → J.stop i H1)
def EvI (K : PySem.W.Frag) (wi : TI) (ρ : En) (ds : List PyData) : Prop := ∀ (σ : L2.St) (G H : Hp), Same G H → SD K σ G ρ → ∀ R : It → Hp → Prop, (∀ J G1 H1, Stp G H G1 H1 → Itd K J G1 ds → R J H1) → wi σ H R
theorem ei_tup (h : EvE K tl ρ (.tuple ds)) : EvI K (iTup K tl) ρ ds := fun σ G H hs hd R r =>
  h σ G H hs hd _ fun v G2 H2 s dv => by
    obtain ⟨a, vs, e1, e2, e3⟩ := dp_tup dv
    refine ⟨a, e1, ⟨vs, sqt_mono s.sub e2⟩, r _ G2 H2 s fun i G1 H1 k1 k2 => ⟨fun hi => ?_, fun hi => ?_⟩⟩
    · have q := sqt_mono (k1.trans k2) e2
      have hv : i < vs.length := by rw [dpa_len e3]; exact hi
      refine ⟨⟨vs, vs[i], q, List.getElem?_eq_getElem hv⟩, fun w H3 y => ?_⟩
      obtain ⟨rfl, y⟩ := y
      obtain ⟨d, hd, dw⟩ := dpa_at (dpa_mono k1 _ _ e3) (y vs q)
      exact ⟨G1, d, .refl k2, hd, dw⟩
    · exact ⟨vs, sqt_mono (k1.trans k2) e2, by rw [dpa_len e3]; omega⟩
theorem ei_lst (h : EvE K tl ρ (.list ds)) : EvI K (iList K tl) ρ ds := fun σ G H hs hd R r =>
  h σ G H hs hd _ fun v G2 H2 s dv => by
    obtain ⟨a, vs, e1, e2, e3⟩ := dp_lst dv
    refine ⟨a, e1, ⟨vs, s.sub.seq e2⟩, r _ G2 H2 s fun i G1 H1 k1 k2 => ⟨fun hi => ?_, fun hi => ?_⟩⟩
    · have q := (k1.trans k2).seq e2
      have hv : i < vs.length := by rw [dpa_len e3]; exact hi
      refine ⟨⟨vs, vs[i], q, List.getElem?_eq_getElem hv⟩, fun w H3 y => ?_⟩
      obtain ⟨rfl, y⟩ := y
      obtain ⟨d, hd, dw⟩ := dpa_at (dpa_mono k1 _ _ e3) (y vs q)
      exact ⟨G1, d, .refl k2, hd, dw⟩
    · exact ⟨vs, (k1.trans k2).seq e2, by rw [dpa_len e3]; omega⟩
theorem ei_range1 {j : Int} {tA : TA} (h : EvA K tA ρ [.int j]) (h0 : 0 ≤ j) (h1 : j < 2 ^ 62) : EvI K (iRng1 tA) ρ ((List.range j.toNat).map fun i => .int (i : Nat)) := fun σ G H hs hd R r =>
  h σ G H hs hd _ fun vs G2 H2 s dv => by
    cases dv with
    | cons d1 d2 =>
      cases d2
      refine ⟨j, by rw [dp_int d1], by omega, h1, r _ G2 H2 s fun i G1 H1 k1 k2 => ⟨fun hi => ?_, fun hi => ?_⟩⟩
      · rw [List.length_map, List.length_range] at hi
        refine ⟨hi, fun w H3 y => ?_⟩
        obtain ⟨rfl, rfl⟩ := y
        refine ⟨G1, .int (i : Nat), .refl k2, ?_, ?_⟩
        · rw [List.getElem?_map, List.getElem?_range hi]; rfl
        · have e : (0 : Int) + (i : Nat) = (i : Nat) := by omega
          rw [e]; exact .int _
      · rw [List.length_map, List.length_range] at hi
        show j.toNat ≤ i
        omega

/-! for -/
inductive FR (K : PySem.W.Frag) (g : TG) (tb : TS) : List PyData → En → Out → Prop
  | nil {ρ : En} : FR K g tb [] ρ (.nx ρ)
  | next {d : PyData} {ds : List PyData} {ρ ρ1 ρ2 : En} {o : Out} {is : List Nat} : EvG K g d ρ ρ1 is → EvS K tb ρ1 (.nx ρ2) → FR K g tb ds ρ2 o → FR K g tb (d :: ds) ρ o
  | skip {d : PyData} {ds : List PyData} {ρ ρ1 ρ2 : En} {o : Out} {is : List Nat} : EvG K g d ρ ρ1 is → EvS K tb ρ1 (.ct ρ2) → FR K g tb ds ρ2 o → FR K g tb (d :: ds) ρ o
  | ret {d z : PyData} {ds : List PyData} {ρ ρ1 : En} {is : List Nat} : EvG K g d ρ ρ1 is → EvS K tb ρ1 (.rt z) → FR K g tb (d :: ds) ρ (.rt z)
theorem es_for {wi : TI} {g : TG} {tb : TS} (h : EvI K wi ρ ds) (hf : FR K g tb ds ρ o) : EvS K (tFor wi g tb) ρ o := fun D σ G H hs hd m =>
  h σ G H hs hd _ fun J G1 H1 s hJ => by
    refine ⟨fun i n σ' H' => n = ds.length - i ∧ i ≤ ds.length ∧ ∃ G' ρ', Stp G1 H1 G' H' ∧ SD K σ' G' ρ' ∧ FR K g tb (ds.drop i) ρ' o, ⟨ds.length, by simp, Nat.zero_le _, G1, ρ, .refl s.sub, hd.mono (s.up hs), hf⟩, ?_⟩
    rintro i n σ' H' ⟨rfl, hi, G', ρ', s', hd', f⟩
    have J' := hJ i G' H' (s'.up s.sub) s'.sub
    by_cases hlt : i < ds.length
    · obtain ⟨hgo, hy⟩ := J'.1 hlt
      refine .inr ⟨hgo, fun σ2 H2 => i + 1 ≤ ds.length ∧ ∃ G2 ρ2, Stp G1 H1 G2 H2 ∧ SD K σ2 G2 ρ2 ∧ FR K g tb (ds.drop (i + 1)) ρ2 o, fun σ2 H2 q => ⟨ds.length - (i + 1), by omega, rfl, q⟩, fun v H2 y => ?_⟩
      obtain ⟨G2, d, s2, e, dv⟩ := hy v H2 y
      have e' : ds.drop i = d :: ds.drop (i + 1) := by
        rw [List.drop_eq_getElem_cons hlt]
        rw [List.getElem?_eq_getElem hlt] at e
        cases e
        rfl
      rw [e'] at f
      have st := s'.trans s2
      cases f with
      | next hg hb hr =>
        exact hg v σ' G2 H2 s2.sub dv (hd'.mono (s2.up s'.sub)) _ fun σ2 hd2 _ _ => hb _ σ2 G2 H2 s2.sub hd2 fun σ3 G3 H3 s3 hd3 => ⟨hlt, G3, _, st.trans s3, hd3, hr⟩
      | skip hg hb hr =>
        exact hg v σ' G2 H2 s2.sub dv (hd'.mono (s2.up s'.sub)) _ fun σ2 hd2 _ _ => hb _ σ2 G2 H2 s2.sub hd2 fun σ3 G3 H3 s3 hd3 => ⟨hlt, G3, _, st.trans s3, hd3, hr⟩
      | ret hg hb =>
        exact hg v σ' G2 H2 s2.sub dv (hd'.mono (s2.up s'.sub)) _ fun σ2 hd2 _ _ => hb _ σ2 G2 H2 s2.sub hd2 fun w G3 H3 s3 d3 => m w G3 H3 ((s.trans st).trans s3) d3
    · have e : i = ds.length := by omega
      subst e
      rw [List.drop_length] at f
      cases f
      exact .inl ⟨J'.2 rfl, m σ' G' H' (s.trans s') hd'⟩

/-! comprehensions -/
inductive LR (K : PySem.W.Frag) (g : TG) (tt : TT) (te : TE) (ρ : En) (vs : List Nat) : List PyData → List PyData → Prop
  | nil : LR K g tt te ρ vs [] []
  | yes {d e : PyData} {ds es : List PyData} {ρ1 : En} {is : List Nat} : EvG K g d ρ ρ1 is → (∀ i ∈ is, i ∈ vs) → EvT K tt ρ1 true → EvE K te ρ1 e → LR K g tt te ρ vs ds es → LR K g tt te ρ vs (d :: ds) (e :: es)
  | no {d : PyData} {ds es : List PyData} {ρ1 : En} {is : List Nat} : EvG K g d ρ ρ1 is → (∀ i ∈ is, i ∈ vs) → EvT K tt ρ1 false → LR K g tt te ρ vs ds es → LR K g tt te ρ vs (d :: ds) es
theorem et_yes : EvT K tYes ρ true := fun _ _ _ hs _ _ q => q _ _ (.refl hs)
theorem wipe_in {σ σ' : L2.St} (hl : σ'.length = σ.length) : ∀ {vs : List Nat}, (∀ i, i ∉ vs → σ'[i]? = σ[i]?) → wipe σ' vs = wipe σ vs := fun {vs} h => by
  apply List.ext_getElem?
  intro j
  by_cases hj : j ∈ vs
  · have key : ∀ (τ : L2.St) (ws : List Nat), j ∈ ws → (wipe τ ws)[j]? = if j < τ.length then some none else none := fun τ ws => by
      induction ws with
      | nil => intro z; cases z
      | cons w ws ih =>
        intro z
        show ((wipe τ ws).set w none)[j]? = _
        by_cases e : w = j
        · subst e
          rw [List.getElem?_set, if_pos rfl, wipe_length]
        · rw [List.getElem?_set_ne e]
          exact ih ((List.mem_cons.mp z).resolve_left fun q => e q.symm)
    rw [key _ _ hj, key _ _ hj, hl]
  · rw [wipe_out hj, wipe_out hj, h j hj]
theorem ev_lc {wi : TI} {g : TG} {vs : List Nat} (h : EvI K wi ρ ds) (hr : LR K g tt te (wipeE ρ vs) vs ds es) (hz : ds.length ≤ sizeLine) : EvE K (tLc wi g tt te vs) ρ (.list es) := fun σ G H hs hd Q q =>
  h σ G H hs hd _ fun J G1 H1 s hJ D hD => by
    have hlen : ∀ {as bs : List PyData}, LR K g tt te (wipeE ρ vs) vs as bs → bs.length ≤ as.length := fun {as bs} z => by
      induction z with
      | nil => exact Nat.le_refl _
      | yes _ _ _ _ _ ih => exact Nat.succ_le_succ ih
      | no _ _ _ _ ih => exact Nat.le_succ_of_le ih
    -- D is built: what stands in it so far, and what is still to come
    refine ⟨fun i n H' => n = ds.length - i ∧ i ≤ ds.length ∧ ∃ G' acc ws as bs, Same G' H' ∧ Same H1 H' ∧ (∀ b, H1 b ≠ none → G' b = G1 b) ∧ G' D = none ∧ H' D = some (.lst ws) ∧ DpAll K G' ws acc ∧ acc ++ bs = es ∧ acc.length ≤ i ∧ as = ds.drop i ∧ LR K g tt te (wipeE ρ vs) vs as bs,
      ⟨ds.length, by simp, Nat.zero_le _, G1, [], [], ds, es, ?_, ?_, fun _ _ => rfl, ?_, upd_same, .nil, rfl, Nat.le_refl _, rfl, hr⟩, ?_⟩
    · intro b o e
      rw [upd_ne (ne_of_none (s.sub b o e) hD)]
      exact s.sub b o e
    · intro b o e
      rw [upd_ne (ne_of_none e hD)]
      exact e
    · cases e : G1 D with
      | none => rfl
      | some o => rw [s.sub D o e] at hD; cases hD
    rintro i n H' ⟨rfl, hi, G', acc, ws, as, bs, c1, c2, c3, c4, c5, c6, c7, c8, rfl, f⟩
    have gg : Same G1 G' := fun b o e => by rw [c3 b (by rw [s.sub b o e]; simp)]; exact e
    have J' := hJ i G' H' gg c1
    by_cases hlt : i < ds.length
    · obtain ⟨hgo, hy⟩ := J'.1 hlt
      refine .inr ⟨hgo, fun H2 => i + 1 ≤ ds.length ∧ ∃ G' acc ws as bs, Same G' H2 ∧ Same H1 H2 ∧ (∀ b, H1 b ≠ none → G' b = G1 b) ∧ G' D = none ∧ H2 D = some (.lst ws) ∧ DpAll K G' ws acc ∧ acc ++ bs = es ∧ acc.length ≤ i + 1 ∧ as = ds.drop (i + 1) ∧ LR K g tt te (wipeE ρ vs) vs as bs,
        fun H2 z => ⟨ds.length - (i + 1), by omega, rfl, z⟩, fun v H2 y => ?_⟩
      obtain ⟨G2, d, s2, e, dv⟩ := hy v H2 y
      have e' : ds.drop i = d :: ds.drop (i + 1) := by
        rw [List.drop_eq_getElem_cons hlt]
        rw [List.getElem?_eq_getElem hlt] at e
        cases e
        rfl
      rw [e'] at f
      have nD : H' D ≠ none := by rw [c5]; simp
      have hdw : SD K (wipe σ vs) G2 (wipeE ρ vs) := (hd.wipe vs).mono (((s.up hs).trans gg).trans (s2.up c1))
      have old2 : ∀ b, H1 b ≠ none → H' b ≠ none := fun b hb => by
        cases e : H1 b with
        | none => exact absurd e hb
        | some o => rw [c2 b o e]; simp
      have side : ∀ {σ2 : L2.St} {is : List Nat}, (∀ i ∈ is, i ∈ vs) → σ2.length = (wipe σ vs).length → (∀ i, i ∉ is → σ2[i]? = (wipe σ vs)[i]?) → wipe σ2 vs = wipe σ vs := fun {σ2 is} hin hl k => by
        have e3 := wipe_in hl (vs := vs) fun i hi => k i fun z => hi (hin i z)
        rw [e3]
        exact wipe_in (wipe_length σ vs) fun i hi => wipe_out hi
      cases f with
      | yes hg hin ht he hr' =>
        rename_i e1 bs' ρ1 is
        refine hg v (wipe σ vs) G2 H2 s2.sub dv hdw _ fun σ2 hd2 l2 k2 => ⟨side hin l2 k2, ht σ2 G2 H2 s2.sub hd2 _ fun G3 H3 s3 => iteT (he σ2 G3 H3 s3.sub (hd2.mono (s3.up s2.sub)) _ fun w G4 H4 s4 dw => ?_)⟩
        have st := (s2.trans s3).trans s4
        · have hD4 : H4 D = some (.lst ws) := st.keep c5
          refine ⟨ws, hD4, ?_, hlt, G4, acc ++ [e1], ws ++ [w], _, bs', ?_, ?_, fun b hb => ?_, st.out nD c4, upd_same, ?_, by rw [← c7, List.append_assoc]; rfl, ?_, rfl, hr'⟩
          · rw [dpa_len c6]; omega
          · intro b o eb
            rw [upd_ne fun z => by rw [z, st.out nD c4] at eb; cases eb]
            exact st.sub b o eb
          · intro b o eb
            rw [upd_ne (ne_of_none eb hD)]
            exact st.ext b o (c2 b o eb)
          · rw [st.old b (old2 b hb), c3 b hb]
          · exact dpa_app (dpa_mono (st.up c1) _ _ c6) (.cons dw .nil)
          · rw [List.length_append, List.length_singleton]; omega
      | no hg hin ht hr' =>
        refine hg v (wipe σ vs) G2 H2 s2.sub dv hdw _ fun σ2 hd2 l2 k2 => ⟨side hin l2 k2, ht σ2 G2 H2 s2.sub hd2 _ fun G3 H3 s3 => iteF ?_⟩
        have st := s2.trans s3
        exact ⟨hlt, G3, acc, ws, _, bs, st.sub, fun b o eb => st.ext b o (c2 b o eb), fun b hb => by rw [st.old b (old2 b hb), c3 b hb], st.out nD c4, st.keep c5, dpa_mono (st.up c1) _ _ c6, c7, Nat.le_succ_of_le c8, rfl, hr'⟩
    · have e : i = ds.length := by omega
      subst e
      rw [List.drop_length] at f
      cases f
      rw [List.append_nil] at c7
      subst c7
      refine .inl ⟨J'.2 rfl, ?_⟩
      have nD : H D = none := by
        cases e : H D with
        | none => rfl
        | some o => rw [s.ext D o e] at hD; cases hD
      refine q (.ref D) (upd G' D (.lst ws)) H' ⟨fun b o eb => ?_, s.ext.trans c2, fun b hb => ?_⟩ (.lst (.inl (.inl upd_same)) (dpa_mono (fun b o eb => ?_) _ _ c6))
      · by_cases z : b = D
        · subst z; rw [upd_same] at eb; rw [c5, eb]
        · rw [upd_ne z] at eb; exact c1 b o eb
      · rw [upd_ne fun (z : b = D) => hb (by rw [z]; exact nD)]
        have h1 : H1 b ≠ none := by
          cases e : H b with
          | none => exact absurd e hb
          | some o => rw [s.ext b o e]; simp
        rw [c3 b h1, s.old b hb]
      · rw [upd_ne fun z => by rw [z, c4] at eb; cases eb]
        exact eb
end
end KD

/-! K3: the text by places, what the top has left, the rule for a def that changes nothing. -/
namespace KD
open PySem L2 PySem.Spec PyProof.Rows
def top (i : Nat) : Stmt := PySem.Challenge.pw_errandwide_k27_whole_plays_of_five_copie.main.body.getD i (.Pass ⟨0, 0, 0, 0⟩)
theorem bt_len : bootBuiltins "len" = some (.builtin "len") := by decide +kernel
theorem bt_isinstance : bootBuiltins "isinstance" = some (.builtin "isinstance") := by decide +kernel
theorem bt_all : bootBuiltins "all" = some (.builtin "all") := by decide +kernel
theorem bt_repr : bootBuiltins "repr" = some (.builtin "repr") := by decide +kernel
theorem bt_abs : bootBuiltins "abs" = some (.builtin "abs") := by decide +kernel
theorem bt_max : bootBuiltins "max" = some (.builtin "max") := by decide +kernel
theorem bt_min : bootBuiltins "min" = some (.builtin "min") := by decide +kernel
theorem bt_sorted : bootBuiltins "sorted" = some (.builtin "sorted") := by decide +kernel
theorem bt_int : bootBuiltins "int" = some (.type "int") := by decide +kernel
theorem bt_str : bootBuiltins "str" = some (.type "str") := by decide +kernel
theorem bt_bool : bootBuiltins "bool" = some (.type "bool") := by decide +kernel
theorem bt_tuple : bootBuiltins "tuple" = some (.type "tuple") := by decide +kernel
theorem bt_list : bootBuiltins "list" = some (.type "list") := by decide +kernel
theorem bt_set : bootBuiltins "set" = some (.type "set") := by decide +kernel
/-- the module's names: the built-in ones are as they were, the constants hold what is written -/
structure Tx (mg : Str → Option Value) : Prop where
  b_len : mg "len" = none
  b_isinstance : mg "isinstance" = none
  b_all : mg "all" = none
  b_repr : mg "repr" = none
  b_abs : mg "abs" = none
  b_max : mg "max" = none
  b_min : mg "min" = none
  b_sorted : mg "sorted" = none
  b_int : mg "int" = none
  b_str : mg "str" = none
  b_bool : mg "bool" = none
  b_tuple : mg "tuple" = none
  b_list : mg "list" = none
  b_set : mg "set" = none
  b_range : mg "range" = none
  b_zip : mg "zip" = none
  b_enumerate : mg "enumerate" = none
  k_LAST : ∃ t, mg "LAST" = some (.int 1000000006 t)
  k_MOST_DEEDS : ∃ t, mg "MOST_DEEDS" = some (.int 400 t)
  k_LAST_COPY : ∃ t, mg "LAST_COPY" = some (.int 4 t)
  k_PLAY : ∃ t, mg "PLAY" = some (.str "play" t)
  k_WRONG : ∃ t, mg "WRONG" = some (.str "wrong" t)
/-- a def of the text as it stands behind the top -/
def Kn (K : PySem.W.Frag) (mg : Str → Option Value) (x : Str) (st : Stmt) (ps : List Str) : Prop := ∃ f fd, Fun K x x st f fd ∧ mg x = some (.ref f) ∧ Binds K fd ps []
/-- a def that keeps a promise, ready to be called -/
def Rdy (P : Program) (w : World) (K : PySem.W.Frag) (mg : Str → Option Value) (base : Heap) (k : Nat) (x : Str) (ps : List Str) (sp : Sp) : Prop :=
  ∃ f fd, FnOk P w K mg base CX0 k f fd ps sp ∧ mg x = some (.ref f) ∧ PySem.W.keepIn K (.ref f) = true ∧ Binds K fd ps []
section
variable {P : Program} {w : World} {K : PySem.W.Frag} {mg : Str → Option Value} {base : Heap}
theorem pe_fn {X : Cx} {k : Nat} {x : Str} {ps : List Str} {sp : Sp} {e : Expr} {es : List Expr} {t : TA} {p pos : Pos} (R : Rdy X.prog X.w X.K X.mg X.base k x ps sp) (hr : Room k X.A) (hg : Gl X x) (ha : PA X (e :: es) t)
    (hdb : (x == ("__debug__" : Str)) = false := by decide) (he : starEach (e :: es) X.env = (false, eval e X.env) :: starEach es X.env := by rfl) (hpl : (backTo pos (starEach es X.env)).any (·.1) = false := by rfl) :
    PE X (.Call (.Name x p) (e :: es) [] pos) (tCall sp [] E0 t) := by
  obtain ⟨f, fd, F, hm, hk, hb⟩ := R
  exact pe_call F hr hg hm hk hb .nil pass0 ha hdb he hpl
/-- the rule for a def that changes nothing -/
theorem rdy_of {x : Str} {st : Stmt} {N ps : List Str} {k : Nat} {F : List PyData → PyData → Prop} (kn : Kn K mg x st ps) (S : FnScope N ps (defScope st)) (len : ∀ ds z, F ds z → ds.length = ps.length) (hN : ps.length ≤ N.length)
    (body : ∀ (f : Addr) (cdv : Value) (A : Around) (outer : List Env) (s : Shared) (H : Hp) (E : XK), Room k (A.deeper (envOfC x (defScope st) s.heap.objs.size f cdv)) → ∀ ds z, F ds z →
      ∃ t, PSs (cxOf CX0 P w K mg base N x (defScope st) f cdv A outer s H E).nox (defBody st) t ∧ EvS K t (startE N.length ds) (.rt z)) :
    Rdy P w K mg base (k + 1) x ps (spP K F) := by
  obtain ⟨f, fd, hf, hm, hb⟩ := kn
  refine ⟨f, fd, hf.ok S (fun vs H Q E h => ?_) (fun cdv A outer s H vs Q E hr h => ?_), hm, hf.kp, hb⟩
  · obtain ⟨G, ds, z, hs, hd, hz, _⟩ := h
    rw [dpa_len hd, len ds z hz]
  · obtain ⟨G, ds, z, hs, hd, hz, q⟩ := h
    obtain ⟨t, ht, ev⟩ := body f cdv A outer s H E hr ds z hz
    exact ⟨t, ht, ev _ _ G H hs (sd_start hd (by rw [len ds z hz]; exact hN)) q⟩
end
/-! small facts of data -/
theorem shaped_int (i : Int) : SeqAt.shaped (.int i) = true := rfl
end KD

namespace K27
inductive Ev where
  | ans (a b : Nat) (g : Bool) (n : Nat)
  | off
  deriving DecidableEq, Inhabited
structure Row where
  term : Nat
  ev : Ev
  deriving DecidableEq, Inhabited
structure Cp where
  up : Bool
  term : Nat
  rows : List Row
  deriving DecidableEq, Inhabited
structure St where
  cs : List Cp
  lead : Option Nat
  done : Nat
  deriving DecidableEq, Inhabited
inductive Dd where
  | elect (i : Nat) (vs : List Nat)
  | append (e : Ev)
  | copy (i : Nat)
  | commit (n : Nat)
  | stop (i : Nat)
  | start (i : Nat)
  | go
  | non
  | app0
  | lst
  deriving DecidableEq, Inhabited

def lastT (rows : List Row) : Nat := match rows.getLast? with
  | some r => r.term
  | none => 0
/-- rows are newer than others -/
def newer (a b : List Row) : Bool := decide (lastT b < lastT a) || (decide (lastT a = lastT b) && decide (b.length < a.length))
def cp (s : St) (i : Nat) : Cp := s.cs.getD i default
def half (cs : List Cp) (p : Cp → Bool) : Bool := decide (2 * cs.countP p > cs.length)
def setTerms (t : Nat) (vs : List Nat) (cs : List Cp) : List Cp := vs.foldl (fun cs v => cs.set v ⟨true, t, (cs.getD v default).rows⟩) cs
def maxT (cs : List Cp) (vs : List Nat) : Nat := vs.foldl (fun m v => max m (cs.getD v default).term) 0
def hasFirst (rows : List Row) (n : Nat) (c : Cp) : Bool := decide (c.rows.take n = rows.take n)

def can (s : St) : Dd → Bool
  | .elect i vs => decide (2 * vs.length > s.cs.length) && vs.all (fun v => decide (v < s.cs.length)) && vs.contains i &&
      vs.all (fun v => (cp s v).up && !newer (cp s v).rows (cp s i).rows)
  | .append _ => s.lead.isSome
  | .copy i => match s.lead with
    | some l => decide (i < s.cs.length) && decide (i ≠ l) && (cp s i).up
    | none => false
  | .commit n => match s.lead with
    | some l => decide (s.done < n) && decide (n ≤ (cp s l).rows.length) && decide (((cp s l).rows.getD (n - 1) default).term = (cp s l).term) &&
        half s.cs (hasFirst (cp s l).rows n)
    | none => false
  | .stop i => decide (i < s.cs.length) && (cp s i).up
  | .start i => decide (i < s.cs.length) && !(cp s i).up
  | _ => false
def beh (s : St) : Dd → St
  | .elect i vs => { s with cs := setTerms (maxT s.cs vs + 1) vs s.cs, lead := some i }
  | .append e => match s.lead with
    | some l => { s with cs := s.cs.set l ⟨(cp s l).up, (cp s l).term, (cp s l).rows ++ [⟨(cp s l).term, e⟩]⟩ }
    | none => s
  | .copy i => match s.lead with
    | some l => { s with cs := s.cs.set i ⟨true, (cp s l).term, (cp s l).rows⟩ }
    | none => s
  | .commit n => { s with done := n }
  | .stop i => { s with cs := s.cs.set i ⟨false, (cp s i).term, (cp s i).rows⟩, lead := if s.lead = some i then none else s.lead }
  | .start i => { s with cs := s.cs.set i ⟨true, (cp s i).term, (cp s i).rows⟩ }
  | _ => s
def init (many : Nat) : St := ⟨List.replicate many ⟨true, 0, []⟩, none, 0⟩

/-! ### counting -/
theorem both {α : Type} (p q : α → Bool) : ∀ l : List α, l.length < l.countP p + l.countP q → ∃ x ∈ l, p x = true ∧ q x = true
  | [], h => by simp at h
  | x :: l, h => by
    by_cases hp : p x = true
    · by_cases hq : q x = true
      · exact ⟨x, List.mem_cons_self, hp, hq⟩
      · rw [List.countP_cons_of_pos hp, List.countP_cons_of_neg hq, List.length_cons] at h
        obtain ⟨y, hy, z⟩ := both p q l (by omega)
        exact ⟨y, List.mem_cons_of_mem _ hy, z⟩
    · by_cases hq : q x = true
      · rw [List.countP_cons_of_neg hp, List.countP_cons_of_pos hq, List.length_cons] at h
        obtain ⟨y, hy, z⟩ := both p q l (by omega)
        exact ⟨y, List.mem_cons_of_mem _ hy, z⟩
      · rw [List.countP_cons_of_neg hp, List.countP_cons_of_neg hq, List.length_cons] at h
        obtain ⟨y, hy, z⟩ := both p q l (by omega)
        exact ⟨y, List.mem_cons_of_mem _ hy, z⟩
theorem nodup_len : ∀ {vs l : List Nat}, vs.Nodup → (∀ v ∈ vs, v ∈ l) → vs.length ≤ l.length
  | [], l, _, _ => Nat.zero_le _
  | v :: vs, l, hn, h => by
    have hv := h v List.mem_cons_self
    rw [List.nodup_cons] at hn
    have := nodup_len (vs := vs) (l := l.erase v) hn.2 fun u hu => (List.mem_erase_of_ne (fun (e : u = v) => hn.1 (e ▸ hu))).mpr (h u (List.mem_cons_of_mem _ hu))
    rw [List.length_erase_of_mem hv] at this
    have : 0 < l.length := List.length_pos_of_mem hv
    rw [List.length_cons]
    omega
/-- unlike places below n of which there are many: a test that holds at more than the rest holds at one of them -/
theorem pick {α : Type} [Inhabited α] (p : α → Bool) (cs : List α) (vs : List Nat) (hn : vs.Nodup) (hv : ∀ v ∈ vs, v < cs.length) (h : cs.length < vs.length + cs.countP p) :
    ∃ v ∈ vs, p (cs.getD v default) = true := by
  have e1 : cs = (List.range cs.length).map fun i => cs.getD i default := by
    apply List.ext_getElem
    · simp
    · intro i h1 h2
      simp [List.getD_eq_getElem?_getD, List.getElem?_eq_getElem h1]
  have e2 : cs.countP p = (List.range cs.length).countP fun i => p (cs.getD i default) := by
    conv => lhs; rw [e1]
    rw [List.countP_map]
    rfl
  have e3 : vs.length ≤ (List.range cs.length).countP fun i => vs.contains i := by
    rw [List.countP_eq_length_filter]
    apply nodup_len hn
    intro v hm
    rw [List.mem_filter]
    exact ⟨List.mem_range.mpr (hv v hm), by simpa using hm⟩
  obtain ⟨i, _, h1, h2⟩ := both (fun i => vs.contains i) (fun i => p (cs.getD i default)) (List.range cs.length) (by rw [List.length_range]; omega)
  exact ⟨i, by simpa using h1, h2⟩

/-! ### elections -/
theorem setTerms_len (t : Nat) : ∀ (vs : List Nat) (cs : List Cp), (setTerms t vs cs).length = cs.length
  | [], _ => rfl
  | v :: vs, cs => by
    show (setTerms t vs (cs.set v ⟨true, t, (cs.getD v default).rows⟩)).length = _
    rw [setTerms_len t vs, List.length_set]
theorem setTerms_at (t : Nat) : ∀ (vs : List Nat) (cs : List Cp) (j : Nat), (setTerms t vs cs)[j]? = if j ∈ vs ∧ j < cs.length then some ⟨true, t, (cs.getD j default).rows⟩ else cs[j]?
  | [], cs, j => by simp [setTerms]
  | v :: vs, cs, j => by
    show (setTerms t vs (cs.set v ⟨true, t, (cs.getD v default).rows⟩))[j]? = _
    rw [setTerms_at t vs, List.length_set]
    by_cases hj : j < cs.length
    · by_cases hv : j ∈ vs
      · have h1 : j ∈ v :: vs := List.mem_cons_of_mem _ hv
        rw [if_pos ⟨hv, hj⟩, if_pos ⟨h1, hj⟩]
        by_cases e : v = j
        · subst e
          simp [List.getD_eq_getElem?_getD, hj]
        · simp [List.getD_eq_getElem?_getD, List.getElem?_set_ne e]
      · rw [if_neg (fun h => hv h.1)]
        by_cases e : v = j
        · subst e
          rw [if_pos ⟨List.mem_cons_self, hj⟩, List.getElem?_set_self hj]
        · rw [if_neg (fun h => (List.mem_cons.mp h.1).elim (fun z => e z.symm) hv), List.getElem?_set_ne e]
    · rw [if_neg (fun h => hj h.2), if_neg (fun h => hj h.2), List.getElem?_eq_none (by rw [List.length_set]; omega), List.getElem?_eq_none (by omega)]
theorem setTerms_rows (t : Nat) (vs : List Nat) (cs : List Cp) : (setTerms t vs cs).map Cp.rows = cs.map Cp.rows := by
  apply List.ext_getElem?
  intro j
  rw [List.getElem?_map, List.getElem?_map, setTerms_at]
  by_cases hj : j < cs.length
  · rw [List.getD_eq_getElem?_getD, List.getElem?_eq_getElem hj]
    split <;> rfl
  · rw [if_neg (fun h => hj h.2)]
theorem setTerms_mem {t : Nat} {vs : List Nat} {cs : List Cp} {c : Cp} (h : c ∈ setTerms t vs cs) : ∃ c0 ∈ cs, c.rows = c0.rows ∧ (c.term = t ∨ c = c0) := by
  obtain ⟨j, hj⟩ := List.getElem?_of_mem h
  rw [setTerms_at] at hj
  split at hj
  · rename_i q
    cases hj
    refine ⟨cs[j]'q.2, List.getElem_mem _, ?_, .inl rfl⟩
    simp [List.getD_eq_getElem?_getD, List.getElem?_eq_getElem q.2]
  · exact ⟨c, List.mem_of_getElem? hj, rfl, .inr rfl⟩
theorem maxT_le {cs : List Cp} {M : Nat} (h : ∀ c ∈ cs, c.term ≤ M) (vs : List Nat) (hv : ∀ v ∈ vs, v < cs.length) : ∀ m, m ≤ M → vs.foldl (fun m v => max m (cs.getD v default).term) m ≤ M := by
  induction vs with
  | nil => intro m hm; exact hm
  | cons v vs ih =>
    intro m hm
    refine ih (fun u hu => hv u (List.mem_cons_of_mem _ hu)) _ ?_
    have q := hv v List.mem_cons_self
    have := h (cs[v]'q) (List.getElem_mem _)
    show max m (cs.getD v default).term ≤ M
    rw [List.getD_eq_getElem?_getD, List.getElem?_eq_getElem q]
    exact Nat.max_le.mpr ⟨hm, this⟩
theorem maxT_ge {cs : List Cp} (vs : List Nat) : ∀ m, m ≤ vs.foldl (fun m v => max m (cs.getD v default).term) m ∧ ∀ v ∈ vs, (cs.getD v default).term ≤ vs.foldl (fun m v => max m (cs.getD v default).term) m := by
  induction vs with
  | nil => intro m; exact ⟨Nat.le_refl _, fun v hv => nomatch hv⟩
  | cons v vs ih =>
    intro m
    obtain ⟨h1, h2⟩ := ih (max m (cs.getD v default).term)
    refine ⟨Nat.le_trans (Nat.le_max_left _ _) h1, fun u hu => ?_⟩
    rcases List.mem_cons.mp hu with rfl | hu
    · exact Nat.le_trans (Nat.le_max_right _ _) h1
    · exact h2 u hu

/-! ### the invariant -/
def pre (C : List Row) (c : Cp) : Bool := decide (c.rows.take C.length = C)
theorem pre_iff {C : List Row} {c : Cp} : pre C c = true ↔ C <+: c.rows := by
  unfold pre
  rw [decide_eq_true_iff, List.prefix_iff_eq_take]
  exact ⟨Eq.symm, Eq.symm⟩
structure Inv (s : St) (M : Nat) (C : List Row) : Prop where
  terms : ∀ c ∈ s.cs, c.term ≤ M
  high : s.cs.length < 2 * s.cs.countP (fun c => decide (c.term = M))
  rowsM : ∀ c ∈ s.cs, ∀ r ∈ c.rows, 1 ≤ r.term ∧ r.term ≤ M
  sorted : ∀ c ∈ s.cs, c.rows.Pairwise (fun a b => a.term ≤ b.term)
  lead : ∀ l, s.lead = some l → ∃ c, s.cs[l]? = some c ∧ c.up = true ∧ c.term = M ∧ 1 ≤ M ∧ C <+: c.rows ∧ ∀ c' ∈ s.cs, ∀ r, c'.rows.getLast? = some r → r.term = M → c'.rows <+: c.rows
  lm : ∀ c ∈ s.cs, ∀ c' ∈ s.cs, ∀ (p : Nat) (r r' : Row), c.rows[p]? = some r → c'.rows[p]? = some r' → r.term = r'.term → c.rows.take (p + 1) = c'.rows.take (p + 1)
  clen : C.length = s.done
  cmaj : s.cs.length < 2 * s.cs.countP (pre C)
  cnew : ∀ c ∈ s.cs, newer C c.rows = false → C <+: c.rows

theorem inv_init (many : Nat) (h : 0 < many) : Inv (init many) 0 [] where
  terms := fun c hc => by rw [List.eq_of_mem_replicate hc]; exact Nat.le_refl _
  high := by
    show (List.replicate many (⟨true, 0, []⟩ : Cp)).length < 2 * (List.replicate many (⟨true, 0, []⟩ : Cp)).countP (fun c => decide (c.term = 0))
    rw [List.length_replicate, List.countP_replicate]
    simp; omega
  rowsM := fun c hc r hr => by rw [List.eq_of_mem_replicate hc] at hr; cases hr
  sorted := fun c hc => by rw [List.eq_of_mem_replicate hc]; exact .nil
  lead := fun l h => nomatch h
  lm := fun c hc c' _ p r r' h1 _ _ => by rw [List.eq_of_mem_replicate hc] at h1; cases h1
  clen := rfl
  cmaj := by
    show (List.replicate many (⟨true, 0, []⟩ : Cp)).length < 2 * (List.replicate many (⟨true, 0, []⟩ : Cp)).countP (pre [])
    rw [List.length_replicate, List.countP_replicate]
    simp [pre]; omega
  cnew := fun c _ _ => List.nil_prefix

theorem lastT_prefix_le {a b : List Row} (h : a <+: b) (hs : b.Pairwise (fun x y => x.term ≤ y.term)) : lastT a ≤ lastT b := by
  obtain ⟨t, rfl⟩ := h
  unfold lastT
  cases ha : a.getLast? with
  | none => exact Nat.zero_le _
  | some r =>
    have hr : r ∈ a := List.mem_of_getLast? ha
    cases t with
    | nil => rw [List.append_nil, ha]; exact Nat.le_refl _
    | cons x t =>
      have hne : (x :: t) ≠ [] := by simp
      have e : (a ++ x :: t).getLast? = some ((x :: t).getLast hne) := by
        rw [List.getLast?_append, List.getLast?_eq_some_getLast hne]; rfl
      rw [e]
      exact (List.pairwise_append.mp hs).2.2 r hr _ (List.getLast_mem hne)
/-- whoever is not older than one that has C is not older than C -/
theorem newer_trans {C a b : List Row} (h : C <+: a) (hs : a.Pairwise (fun x y => x.term ≤ y.term)) (hn : newer a b = false) : newer C b = false := by
  have h1 := lastT_prefix_le h hs
  have h2 := h.length_le
  unfold newer at *
  simp only [Bool.or_eq_false_iff, Bool.and_eq_false_iff, decide_eq_false_iff_not] at *
  omega

theorem half_iff {cs : List Cp} {p : Cp → Bool} : half cs p = true ↔ cs.length < 2 * cs.countP p := by
  unfold half; rw [decide_eq_true_iff]
theorem cp_at {s : St} {i : Nat} (h : i < s.cs.length) : s.cs[i]? = some (cp s i) := by
  unfold cp; rw [List.getD_eq_getElem?_getD, List.getElem?_eq_getElem h]; rfl
theorem cp_of {s : St} {i : Nat} {c : Cp} (h : s.cs[i]? = some c) : cp s i = c := by
  unfold cp; rw [List.getD_eq_getElem?_getD, h]; rfl
theorem cp_mem {s : St} {i : Nat} (h : i < s.cs.length) : cp s i ∈ s.cs := List.mem_of_getElem? (cp_at h)
theorem countP_set_ge {p : Cp → Bool} {cs : List Cp} {i : Nat} {x c : Cp} (hc : cs[i]? = some c) (h : p c = true → p x = true) : cs.countP p ≤ (cs.set i x).countP p := by
  obtain ⟨hi, e⟩ := List.getElem?_eq_some_iff.mp hc
  rw [List.countP_set hi, e]
  by_cases q : p c = true
  · rw [if_pos q, if_pos (h q)]; omega
  · rw [if_neg q]; omega
theorem mem_set {cs : List Cp} {i : Nat} {x c : Cp} (h : c ∈ cs.set i x) : c = x ∨ c ∈ cs := (List.mem_or_eq_of_mem_set h).symm
/-- nothing but whether it is up changes at a copy -/
theorem inv_turn {s : St} {M : Nat} {C : List Row} (I : Inv s M C) {i : Nat} {c : Cp} (hc : s.cs[i]? = some c) (u : Bool) (L : Option Nat) (hL : ∀ l, L = some l → s.lead = some l ∧ (l = i → u = true)) :
    Inv ⟨s.cs.set i ⟨u, c.term, c.rows⟩, L, s.done⟩ M C := by
  have hm : c ∈ s.cs := List.mem_of_getElem? hc
  have back : ∀ d ∈ s.cs.set i ⟨u, c.term, c.rows⟩, ∃ d0 ∈ s.cs, d.term = d0.term ∧ d.rows = d0.rows := fun d hd => by
    rcases mem_set hd with rfl | hd
    · exact ⟨c, hm, rfl, rfl⟩
    · exact ⟨d, hd, rfl, rfl⟩
  refine ⟨fun d hd => ?_, ?_, fun d hd => ?_, fun d hd => ?_, fun l hl => ?_, fun d hd d' hd' => ?_, I.clen, ?_, fun d hd => ?_⟩
  · obtain ⟨d0, h0, e, _⟩ := back d hd
    rw [e]; exact I.terms d0 h0
  · show (s.cs.set i _).length < _
    rw [List.length_set]
    exact Nat.lt_of_lt_of_le I.high (Nat.mul_le_mul_left _ (countP_set_ge hc fun q => q))
  · obtain ⟨d0, h0, _, e⟩ := back d hd
    rw [e]; exact I.rowsM d0 h0
  · obtain ⟨d0, h0, _, e⟩ := back d hd
    rw [e]; exact I.sorted d0 h0
  · obtain ⟨hl', hu⟩ := hL l hl
    obtain ⟨k, hk, ku, kt, kM, kC, kp⟩ := I.lead l hl'
    by_cases e : l = i
    · subst e
      rw [hc] at hk
      cases hk
      refine ⟨⟨u, c.term, c.rows⟩, List.getElem?_set_self (List.getElem?_eq_some_iff.mp hc).1, hu rfl, kt, kM, kC, fun d hd r hr hrM => ?_⟩
      obtain ⟨d0, h0, _, e⟩ := back d hd
      rw [e] at hr ⊢
      exact kp d0 h0 r hr hrM
    · refine ⟨k, by show (s.cs.set i _)[l]? = _; rw [List.getElem?_set_ne (fun q => e q.symm)]; exact hk, ku, kt, kM, kC, fun d hd r hr hrM => ?_⟩
      obtain ⟨d0, h0, _, e⟩ := back d hd
      rw [e] at hr ⊢
      exact kp d0 h0 r hr hrM
  · obtain ⟨d0, h0, _, e⟩ := back d hd
    obtain ⟨d1, h1, _, e'⟩ := back d' hd'
    rw [e, e']; exact I.lm d0 h0 d1 h1
  · show (s.cs.set i _).length < _
    rw [List.length_set]
    exact Nat.lt_of_lt_of_le I.cmaj (Nat.mul_le_mul_left _ (countP_set_ge hc fun q => q))
  · obtain ⟨d0, h0, _, e⟩ := back d hd
    rw [e]; exact I.cnew d0 h0

theorem inv_copy {s : St} {M : Nat} {C : List Row} (I : Inv s M C) {i l : Nat} {c : Cp} (hl : s.lead = some l) (hc : s.cs[l]? = some c) (hi : i < s.cs.length) (hne : i ≠ l) :
    Inv ⟨s.cs.set i ⟨true, c.term, c.rows⟩, s.lead, s.done⟩ M C := by
  obtain ⟨k, hk, ku, kt, kM, kC, kp⟩ := I.lead l hl
  rw [hc] at hk
  cases hk
  have hm : c ∈ s.cs := List.mem_of_getElem? hc
  have hci := cp_at hi
  have back : ∀ d ∈ s.cs.set i ⟨true, c.term, c.rows⟩, ∃ d0 ∈ s.cs, d.term = d0.term ∧ d.rows = d0.rows := fun d hd => by
    rcases mem_set hd with rfl | hd
    · exact ⟨c, hm, rfl, rfl⟩
    · exact ⟨d, hd, rfl, rfl⟩
  refine ⟨fun d hd => ?_, ?_, fun d hd => ?_, fun d hd => ?_, fun l' hl' => ?_, fun d hd d' hd' => ?_, I.clen, ?_, fun d hd => ?_⟩
  · obtain ⟨d0, h0, e, _⟩ := back d hd
    rw [e]; exact I.terms d0 h0
  · show (s.cs.set i _).length < _
    rw [List.length_set]
    exact Nat.lt_of_lt_of_le I.high (Nat.mul_le_mul_left _ (countP_set_ge hci fun _ => decide_eq_true kt))
  · obtain ⟨d0, h0, _, e⟩ := back d hd
    rw [e]; exact I.rowsM d0 h0
  · obtain ⟨d0, h0, _, e⟩ := back d hd
    rw [e]; exact I.sorted d0 h0
  · have q : some l = some l' := hl.symm.trans hl'
    cases q
    refine ⟨c, by show (s.cs.set i _)[l]? = _; rw [List.getElem?_set_ne hne]; exact hc, ku, kt, kM, kC, fun d hd r hr hrM => ?_⟩
    obtain ⟨d0, h0, _, e⟩ := back d hd
    rw [e] at hr ⊢
    exact kp d0 h0 r hr hrM
  · obtain ⟨d0, h0, _, e⟩ := back d hd
    obtain ⟨d1, h1, _, e'⟩ := back d' hd'
    rw [e, e']; exact I.lm d0 h0 d1 h1
  · show (s.cs.set i _).length < _
    rw [List.length_set]
    exact Nat.lt_of_lt_of_le I.cmaj (Nat.mul_le_mul_left _ (countP_set_ge hci fun _ => pre_iff.mpr kC))
  · obtain ⟨d0, h0, _, e⟩ := back d hd
    rw [e]; exact I.cnew d0 h0

theorem inv_append {s : St} {M : Nat} {C : List Row} (I : Inv s M C) {l : Nat} {c : Cp} (e : Ev) (hl : s.lead = some l) (hc : s.cs[l]? = some c) :
    Inv ⟨s.cs.set l ⟨c.up, c.term, c.rows ++ [⟨c.term, e⟩]⟩, s.lead, s.done⟩ M C := by
  obtain ⟨k, hk, ku, kt, kM, kC, kp⟩ := I.lead l hl
  rw [hc] at hk
  cases hk
  have hm : c ∈ s.cs := List.mem_of_getElem? hc
  have hlt := (List.getElem?_eq_some_iff.mp hc).1
  have kC' : C <+: c.rows ++ [⟨c.term, e⟩] := kC.trans (List.prefix_append _ _)
  -- a copy that has a row of this term has no more rows than whoever leads
  have short : ∀ d ∈ s.cs, ∀ (p : Nat) (r : Row), d.rows[p]? = some r → r.term = M → p < c.rows.length := fun d hd p r hr hrM => by
    obtain ⟨hp, er⟩ := List.getElem?_eq_some_iff.mp hr
    have hne : d.rows ≠ [] := fun z => by rw [z] at hp; exact absurd hp (Nat.not_lt_zero _)
    have hlast := List.getLast?_eq_some_getLast hne
    have hle : (d.rows.getLast hne).term ≤ M := (I.rowsM d hd _ (List.getLast_mem hne)).2
    have hge : r.term ≤ (d.rows.getLast hne).term := by
      rw [List.getLast_eq_getElem]
      by_cases q : p = d.rows.length - 1
      · subst q; rw [← er]; exact Nat.le_refl _
      · have := List.pairwise_iff_getElem.mp (I.sorted d hd) p (d.rows.length - 1) hp (by omega) (by omega)
        rw [er] at this
        exact this
    exact Nat.lt_of_lt_of_le hp (kp d hd _ hlast (by omega)).length_le
  have lmx : ∀ d ∈ s.cs, ∀ (p : Nat) (r r' : Row), (c.rows ++ [(⟨c.term, e⟩ : Row)])[p]? = some r → d.rows[p]? = some r' → r.term = r'.term → (c.rows ++ [(⟨c.term, e⟩ : Row)]).take (p + 1) = d.rows.take (p + 1) := fun d hd p r r' h1 h2 ht => by
    by_cases hp : p < c.rows.length
    · rw [List.getElem?_append_left hp] at h1
      rw [List.take_append_of_le_length hp]
      exact I.lm c hm d hd p r r' h1 h2 ht
    · rw [List.getElem?_append_right (by omega)] at h1
      have hz : p - c.rows.length = 0 := by
        rcases Nat.eq_zero_or_pos (p - c.rows.length) with z | z
        · exact z
        · rw [List.getElem?_eq_none (by simp; omega)] at h1; cases h1
      rw [hz] at h1
      cases h1
      exact absurd (short d hd p r' h2 (ht ▸ kt)) hp
  refine ⟨fun d hd => ?_, ?_, fun d hd => ?_, fun d hd => ?_, fun l' hl' => ?_, fun d hd d' hd' p r r' h1 h2 ht => ?_, I.clen, ?_, fun d hd hn => ?_⟩
  · rcases mem_set hd with rfl | hd
    · exact I.terms c hm
    · exact I.terms d hd
  · show (s.cs.set l _).length < _
    rw [List.length_set]
    exact Nat.lt_of_lt_of_le I.high (Nat.mul_le_mul_left _ (countP_set_ge hc fun q => q))
  · rcases mem_set hd with rfl | hd
    · intro r hr
      rcases List.mem_append.mp hr with hr | hr
      · exact I.rowsM c hm r hr
      · rw [List.mem_singleton.mp hr]
        show 1 ≤ c.term ∧ c.term ≤ M
        omega
    · exact I.rowsM d hd
  · rcases mem_set hd with rfl | hd
    · refine List.pairwise_append.mpr ⟨I.sorted c hm, List.pairwise_singleton _ _, fun a ha b hb => ?_⟩
      rw [List.mem_singleton.mp hb]
      show a.term ≤ c.term
      have := (I.rowsM c hm a ha).2
      omega
    · exact I.sorted d hd
  · have q : some l = some l' := hl.symm.trans hl'
    cases q
    refine ⟨⟨c.up, c.term, c.rows ++ [⟨c.term, e⟩]⟩, List.getElem?_set_self hlt, ku, kt, kM, kC', fun d hd r hr hrM => ?_⟩
    rcases mem_set hd with rfl | hd
    · exact List.prefix_rfl
    · exact (kp d hd r hr hrM).trans (List.prefix_append _ _)
  · rcases mem_set hd with rfl | hd
    · rcases mem_set hd' with rfl | hd'
      · rfl
      · exact lmx d' hd' p r r' h1 h2 ht
    · rcases mem_set hd' with rfl | hd'
      · exact (lmx d hd p r' r h2 h1 ht.symm).symm
      · exact I.lm d hd d' hd' p r r' h1 h2 ht
  · show (s.cs.set l _).length < _
    rw [List.length_set]
    exact Nat.lt_of_lt_of_le I.cmaj (Nat.mul_le_mul_left _ (countP_set_ge hc fun _ => pre_iff.mpr kC'))
  · rcases mem_set hd with rfl | hd
    · exact kC'
    · exact I.cnew d hd hn

theorem inv_commit {s : St} {M : Nat} {C : List Row} (I : Inv s M C) {l n : Nat} {c : Cp} (hl : s.lead = some l) (hc : s.cs[l]? = some c) (h1 : s.done < n) (h2 : n ≤ c.rows.length)
    (h3 : (c.rows.getD (n - 1) default).term = c.term) (h4 : half s.cs (hasFirst c.rows n) = true) : Inv ⟨s.cs, s.lead, n⟩ M (c.rows.take n) ∧ C <+: c.rows.take n := by
  obtain ⟨k, hk, ku, kt, kM, kC, kp⟩ := I.lead l hl
  rw [hc] at hk
  cases hk
  have hm : c ∈ s.cs := List.mem_of_getElem? hc
  have hlen : (c.rows.take n).length = n := by rw [List.length_take]; omega
  have hCn : C <+: c.rows.take n := by
    rw [List.prefix_take_iff]
    exact ⟨kC, by rw [I.clen]; omega⟩
  have hget : c.rows[n - 1]? = some (c.rows.getD (n - 1) default) := by
    rw [List.getD_eq_getElem?_getD, List.getElem?_eq_getElem (by omega)]; rfl
  have hlastT : lastT (c.rows.take n) = M := by
    unfold lastT
    rw [List.getLast?_eq_getElem?, hlen, List.getElem?_take_of_lt (by omega), hget]
    show (c.rows.getD (n - 1) default).term = M
    rw [h3, kt]
  refine ⟨⟨I.terms, I.high, I.rowsM, I.sorted, fun l' hl' => ?_, I.lm, hlen, ?_, fun d hd hn => ?_⟩, hCn⟩
  · have q : some l = some l' := hl.symm.trans hl'
    cases q
    exact ⟨c, hc, ku, kt, kM, List.take_prefix _ _, kp⟩
  · have q := half_iff.mp h4
    refine Nat.lt_of_lt_of_le q (Nat.mul_le_mul_left _ (List.countP_mono_left fun d _ hd => ?_))
    unfold hasFirst at hd
    unfold pre
    rw [hlen]
    exact hd
  · -- not older than the committed rows: the last row is of this term
    unfold newer at hn
    rw [hlastT, hlen] at hn
    simp only [Bool.or_eq_false_iff, Bool.and_eq_false_iff, decide_eq_false_iff_not] at hn
    cases hg : d.rows.getLast? with
    | none =>
      have : lastT d.rows = 0 := by unfold lastT; rw [hg]
      omega
    | some r =>
      have e : lastT d.rows = r.term := by unfold lastT; rw [hg]
      have hr := (I.rowsM d hd r (List.mem_of_getLast? hg)).2
      have hrM : r.term = M := by omega
      have hp := kp d hd r hg hrM
      have hlen' : n ≤ d.rows.length := by omega
      have : d.rows = c.rows.take d.rows.length := List.prefix_iff_eq_take.mp hp
      have : c.rows.take n <+: d.rows := by
        rw [this, List.prefix_take_iff, hlen]
        exact ⟨List.take_prefix _ _, hlen'⟩
      exact this

theorem inv_elect {s : St} {M : Nat} {C : List Row} (I : Inv s M C) {i : Nat} {vs : List Nat} (hn : vs.Nodup) (h1 : s.cs.length < 2 * vs.length) (h2 : ∀ v ∈ vs, v < s.cs.length) (h3 : i ∈ vs)
    (h4 : ∀ v ∈ vs, (cp s v).up = true ∧ newer (cp s v).rows (cp s i).rows = false) : Inv ⟨setTerms (maxT s.cs vs + 1) vs s.cs, some i, s.done⟩ (M + 1) C := by
  have hmax : maxT s.cs vs = M := by
    apply Nat.le_antisymm
    · exact maxT_le I.terms vs h2 0 (Nat.zero_le _)
    · have hh := I.high
      obtain ⟨v, hv, e⟩ := pick (fun c => decide (c.term = M)) s.cs vs hn h2 (by omega)
      have := (maxT_ge (cs := s.cs) vs 0).2 v hv
      rw [of_decide_eq_true e] at this
      exact this
  rw [hmax]
  have hlen : (setTerms (M + 1) vs s.cs).length = s.cs.length := setTerms_len _ _ _
  have cnt : ∀ q : List Row → Bool, (setTerms (M + 1) vs s.cs).countP (fun c => q c.rows) = s.cs.countP (fun c => q c.rows) := fun q => by
    have e1 : (setTerms (M + 1) vs s.cs).countP (fun c => q c.rows) = ((setTerms (M + 1) vs s.cs).map Cp.rows).countP q := by rw [List.countP_map]; rfl
    have e2 : s.cs.countP (fun c => q c.rows) = (s.cs.map Cp.rows).countP q := by rw [List.countP_map]; rfl
    rw [e1, e2, setTerms_rows]
  have hi := h2 i h3
  have hci := cp_at hi
  have hmi := cp_mem hi
  have hC : C <+: (cp s i).rows := by
    have hh := I.cmaj
    obtain ⟨v, hv, e⟩ := pick (pre C) s.cs vs hn h2 (by omega)
    have hv' := h2 v hv
    have e' : C <+: (cp s v).rows := pre_iff.mp e
    exact I.cnew _ hmi (newer_trans e' (I.sorted _ (cp_mem hv')) (h4 v hv).2)
  refine ⟨fun d hd => ?_, ?_, fun d hd => ?_, fun d hd => ?_, fun l hl => ?_, fun d hd d' hd' => ?_, I.clen, ?_, fun d hd => ?_⟩
  · obtain ⟨d0, h0, _, e⟩ := setTerms_mem hd
    rcases e with e | e
    · omega
    · have := I.terms d0 h0
      rw [e]; omega
  · show (setTerms (M + 1) vs s.cs).length < _
    rw [hlen]
    refine Nat.lt_of_lt_of_le h1 (Nat.mul_le_mul_left _ ?_)
    have e1 : setTerms (M + 1) vs s.cs = (List.range s.cs.length).map fun i => (setTerms (M + 1) vs s.cs).getD i default := by
      apply List.ext_getElem
      · simp [hlen]
      · intro i q1 q2
        simp [List.getD_eq_getElem?_getD, List.getElem?_eq_getElem q1]
    rw [e1, List.countP_map, List.countP_eq_length_filter]
    apply nodup_len hn
    intro v hv
    rw [List.mem_filter]
    refine ⟨List.mem_range.mpr (h2 v hv), ?_⟩
    show decide (((setTerms (M + 1) vs s.cs).getD v default).term = M + 1) = true
    rw [List.getD_eq_getElem?_getD, setTerms_at, if_pos ⟨hv, h2 v hv⟩]
    simp
  · obtain ⟨d0, h0, e, _⟩ := setTerms_mem hd
    rw [e]
    intro r hr
    have := I.rowsM d0 h0 r hr
    omega
  · obtain ⟨d0, h0, e, _⟩ := setTerms_mem hd
    rw [e]; exact I.sorted d0 h0
  · cases hl
    refine ⟨⟨true, M + 1, (cp s i).rows⟩, ?_, rfl, rfl, by omega, hC, fun d hd r hr hrM => ?_⟩
    · show (setTerms (M + 1) vs s.cs)[i]? = _
      rw [setTerms_at, if_pos ⟨h3, hi⟩]
      rfl
    · obtain ⟨d0, h0, e, _⟩ := setTerms_mem hd
      rw [e] at hr
      have := (I.rowsM d0 h0 r (List.mem_of_getLast? hr)).2
      omega
  · obtain ⟨d0, h0, e, _⟩ := setTerms_mem hd
    obtain ⟨d1, h1, e', _⟩ := setTerms_mem hd'
    rw [e, e']; exact I.lm d0 h0 d1 h1
  · show (setTerms (M + 1) vs s.cs).length < 2 * (setTerms (M + 1) vs s.cs).countP (fun c => decide (c.rows.take C.length = C))
    rw [hlen, cnt fun rows => decide (rows.take C.length = C)]
    exact I.cmaj
  · obtain ⟨d0, h0, e, _⟩ := setTerms_mem hd
    rw [e]; exact I.cnew d0 h0

/-- a deed's own form: voters rise -/
def rising : List Nat → Bool
  | [] => true
  | [_] => true
  | a :: b :: r => decide (a < b) && rising (b :: r)
theorem rising_nodup : ∀ {vs : List Nat}, rising vs = true → vs.Nodup ∧ ∀ v r, vs = v :: r → ∀ u ∈ r, v < u
  | [], _ => ⟨.nil, fun _ _ h => nomatch h⟩
  | [a], _ => ⟨by simp, fun v r h u hu => by cases h; cases hu⟩
  | a :: b :: r, h => by
    have h' : a < b ∧ rising (b :: r) = true := by
      simpa [rising, Bool.and_eq_true] using h
    obtain ⟨h1, h2⟩ := rising_nodup h'.2
    have h3 : ∀ u ∈ b :: r, a < u := fun u hu => by
      rcases List.mem_cons.mp hu with rfl | hu
      · exact h'.1
      · exact Nat.lt_trans h'.1 (h2 b r rfl u hu)
    refine ⟨List.nodup_cons.mpr ⟨fun hm => absurd (h3 a hm) (Nat.lt_irrefl _), h1⟩, fun v q e u hu => ?_⟩
    cases e
    exact h3 u hu

theorem inv_step {s : St} {M : Nat} {C : List Row} (I : Inv s M C) {d : Dd} (hd : ∀ i vs, d = .elect i vs → vs.Nodup) (hc : can s d = true) :
    ∃ M' C', Inv (beh s d) M' C' ∧ C <+: C' ∧ (beh s d).cs.length = s.cs.length := by
  cases d with
  | elect i vs =>
    simp only [can, Bool.and_eq_true, decide_eq_true_iff, List.all_eq_true, List.contains_iff_mem, Bool.not_eq_true'] at hc
    obtain ⟨⟨⟨c1, c2⟩, c3⟩, c4⟩ := hc
    exact ⟨M + 1, C, inv_elect I (hd i vs rfl) (by omega) c2 c3 c4, List.prefix_rfl, setTerms_len _ _ _⟩
  | append e =>
    cases hl : s.lead with
    | none => simp [can, hl] at hc
    | some l =>
      obtain ⟨c, hcl, _⟩ := I.lead l hl
      have := inv_append I e hl hcl
      refine ⟨M, C, ?_, List.prefix_rfl, ?_⟩
      · simp only [beh, hl, cp_of hcl]
        rw [hl] at this
        exact this
      · simp [beh, hl]
  | copy i =>
    cases hl : s.lead with
    | none => simp [can, hl] at hc
    | some l =>
      obtain ⟨c, hcl, _⟩ := I.lead l hl
      simp only [can, hl, Bool.and_eq_true, decide_eq_true_iff] at hc
      obtain ⟨⟨c1, c2⟩, c3⟩ := hc
      have := inv_copy I hl hcl c1 c2
      refine ⟨M, C, ?_, List.prefix_rfl, ?_⟩
      · simp only [beh, hl, cp_of hcl]
        rw [hl] at this
        exact this
      · simp [beh, hl]
  | commit n =>
    cases hl : s.lead with
    | none => simp [can, hl] at hc
    | some l =>
      obtain ⟨c, hcl, _⟩ := I.lead l hl
      simp only [can, hl, Bool.and_eq_true, decide_eq_true_iff, cp_of hcl] at hc
      obtain ⟨⟨⟨c1, c2⟩, c3⟩, c4⟩ := hc
      obtain ⟨h1, h2⟩ := inv_commit I hl hcl c1 c2 c3 c4
      refine ⟨M, _, ?_, h2, rfl⟩
      simp only [beh]
      exact h1
  | stop i =>
    simp only [can, Bool.and_eq_true, decide_eq_true_iff] at hc
    refine ⟨M, C, inv_turn I (cp_at hc.1) false _ fun l hl => ?_, List.prefix_rfl, by simp [beh]⟩
    by_cases e : s.lead = some i
    · rw [if_pos e] at hl; cases hl
    · rw [if_neg e] at hl
      exact ⟨hl, fun z => absurd (z ▸ hl) e⟩
  | start i =>
    simp only [can, Bool.and_eq_true, decide_eq_true_iff] at hc
    exact ⟨M, C, inv_turn I (cp_at hc.1) true _ fun l hl => ⟨hl, fun _ => rfl⟩, List.prefix_rfl, by simp [beh]⟩
  | go => cases hc
  | non => cases hc
  | app0 => cases hc
  | lst => cases hc

/-! ### what is committed -/
def comm (s : St) : List Row := match s.cs.find? fun c => decide (s.done ≤ c.rows.length) && half s.cs (hasFirst c.rows s.done) with
  | some c => c.rows.take s.done
  | none => []
theorem comm_eq {s : St} {M : Nat} {C : List Row} (I : Inv s M C) : comm s = C := by
  have hpos : 0 < s.cs.countP (pre C) := by have := I.cmaj; omega
  obtain ⟨c0, h0, p0⟩ := List.countP_pos_iff.mp hpos
  have hp0 := pre_iff.mp p0
  have t0 : c0.rows.take s.done = C := by
    rw [← I.clen]; exact (List.prefix_iff_eq_take.mp hp0).symm
  have q0 : (decide (s.done ≤ c0.rows.length) && half s.cs (hasFirst c0.rows s.done)) = true := by
    rw [Bool.and_eq_true, decide_eq_true_iff, half_iff]
    refine ⟨by rw [← I.clen]; exact hp0.length_le, ?_⟩
    refine Nat.lt_of_lt_of_le I.cmaj (Nat.mul_le_mul_left _ (List.countP_mono_left fun d _ hd => ?_))
    unfold hasFirst
    rw [t0]
    unfold pre at hd
    rw [I.clen] at hd
    exact hd
  unfold comm
  cases hf : s.cs.find? (fun c => decide (s.done ≤ c.rows.length) && half s.cs (hasFirst c.rows s.done)) with
  | none =>
    have := List.find?_eq_none.mp hf c0 h0
    exact absurd q0 this
  | some c =>
    have hc := List.find?_some hf
    rw [Bool.and_eq_true, decide_eq_true_iff, half_iff] at hc
    obtain ⟨d, _, h1, h2⟩ := both (pre C) (hasFirst c.rows s.done) s.cs (by have := I.cmaj; omega)
    unfold hasFirst at h2
    unfold pre at h1
    rw [I.clen] at h1
    show c.rows.take s.done = C
    rw [← of_decide_eq_true h2]
    exact of_decide_eq_true h1
theorem pre_take {s : St} {M : Nat} {C : List Row} (I : Inv s M C) {rows : List Row} (h : C <+: rows) : rows.take s.done = C := by
  rw [← I.clen]; exact (List.prefix_iff_eq_take.mp h).symm

/-! ### who can be elected -/
def ableAt (cs : List Cp) (c : Cp) : Bool := c.up && half cs fun d => d.up && !newer d.rows c.rows
def able (s : St) : List Nat := (List.range s.cs.length).filter fun i => ableAt s.cs (cp s i)
def leN (a b : List Row) : Bool := !newer a b
theorem leN_total (a b : List Row) : leN a b = true ∨ leN b a = true := by
  unfold leN newer
  simp only [Bool.not_eq_true', Bool.or_eq_false_iff, Bool.and_eq_false_iff, decide_eq_false_iff_not]
  omega
theorem leN_trans {a b c : List Row} (h1 : leN a b = true) (h2 : leN b c = true) : leN a c = true := by
  unfold leN newer at *
  simp only [Bool.not_eq_true', Bool.or_eq_false_iff, Bool.and_eq_false_iff, decide_eq_false_iff_not] at *
  omega
theorem newest : ∀ cs : List Cp, (∃ c ∈ cs, c.up = true) → ∃ c ∈ cs, c.up = true ∧ ∀ d ∈ cs, d.up = true → leN d.rows c.rows = true
  | [], h => by obtain ⟨_, h, _⟩ := h; cases h
  | x :: cs, h => by
    by_cases hr : ∃ c ∈ cs, c.up = true
    · obtain ⟨c, hc, hu, hall⟩ := newest cs hr
      by_cases hx : x.up = true ∧ leN x.rows c.rows = false
      · refine ⟨x, List.mem_cons_self, hx.1, fun d hd hdu => ?_⟩
        have hcx : leN c.rows x.rows = true := (leN_total c.rows x.rows).resolve_right (by rw [hx.2]; decide)
        rcases List.mem_cons.mp hd with rfl | hd
        · exact (leN_total d.rows d.rows).elim id id
        · exact leN_trans (hall d hd hdu) hcx
      · refine ⟨c, List.mem_cons_of_mem _ hc, hu, fun d hd hdu => ?_⟩
        rcases List.mem_cons.mp hd with rfl | hd
        · cases q : leN d.rows c.rows with
          | true => rfl
          | false => exact absurd ⟨hdu, q⟩ hx
        · exact hall d hd hdu
    · obtain ⟨c, hc, hu⟩ := h
      have hcx : c = x := (List.mem_cons.mp hc).resolve_right fun z => hr ⟨c, z, hu⟩
      subst hcx
      refine ⟨c, List.mem_cons_self, hu, fun d hd hdu => ?_⟩
      rcases List.mem_cons.mp hd with rfl | hd
      · exact (leN_total d.rows d.rows).elim id id
      · exact absurd ⟨d, hd, hdu⟩ hr
theorem able_iff {s : St} : able s ≠ [] ↔ half s.cs (·.up) = true := by
  constructor
  · intro h
    obtain ⟨i, hi⟩ := List.exists_mem_of_ne_nil _ h
    unfold able at hi
    rw [List.mem_filter] at hi
    have h2 := hi.2
    unfold ableAt at h2
    rw [Bool.and_eq_true] at h2
    have h3 := half_iff.mp h2.2
    rw [half_iff]
    refine Nat.lt_of_lt_of_le h3 (Nat.mul_le_mul_left _ (List.countP_mono_left fun d _ hd => ?_))
    rw [Bool.and_eq_true] at hd
    exact hd.1
  · intro h
    have h' := half_iff.mp h
    have hpos : 0 < s.cs.countP (·.up) := by omega
    obtain ⟨c0, h0, u0⟩ := List.countP_pos_iff.mp hpos
    obtain ⟨c, hc, hu, hall⟩ := newest s.cs ⟨c0, h0, u0⟩
    obtain ⟨i, hi⟩ := List.getElem?_of_mem hc
    have hi' := (List.getElem?_eq_some_iff.mp hi).1
    apply List.ne_nil_of_mem (a := i)
    unfold able
    rw [List.mem_filter]
    refine ⟨List.mem_range.mpr hi', ?_⟩
    rw [cp_of hi]
    unfold ableAt
    rw [Bool.and_eq_true, half_iff]
    refine ⟨hu, Nat.lt_of_lt_of_le h' (Nat.mul_le_mul_left _ (List.countP_mono_left fun d hd hdu => ?_))⟩
    rw [Bool.and_eq_true]
    exact ⟨hdu, hall d hd hdu⟩
theorem able_has {s : St} {M : Nat} {C : List Row} (I : Inv s M C) {i : Nat} (hi : i ∈ able s) : i < s.cs.length ∧ C <+: (cp s i).rows := by
  unfold able at hi
  rw [List.mem_filter] at hi
  have hlt := List.mem_range.mp hi.1
  have h2 := hi.2
  unfold ableAt at h2
  rw [Bool.and_eq_true] at h2
  have h3 := half_iff.mp h2.2
  obtain ⟨d, hd, p1, p2⟩ := both (pre C) (fun d => d.up && !newer d.rows (cp s i).rows) s.cs (by have := I.cmaj; omega)
  rw [Bool.and_eq_true, Bool.not_eq_true'] at p2
  exact ⟨hlt, I.cnew _ (cp_mem hlt) (newer_trans (pre_iff.mp p1) (I.sorted d hd) p2.2)⟩

/-! ### plays -/
def evOk : Ev → Bool
  | .ans a b _ n => decide (a ≤ 9) && decide (b ≤ 9) && decide (n ≤ 1000000006)
  | .off => true
def form : Dd → Bool
  | .elect i vs => decide (i ≤ 4) && vs.all (fun v => decide (v ≤ 4)) && rising vs
  | .append e => evOk e
  | .copy i => decide (i ≤ 4)
  | .commit n => decide (1 ≤ n) && decide (n ≤ 400)
  | .stop i => decide (i ≤ 4)
  | .start i => decide (i ≤ 4)
  | _ => false
def ok (s : St) (d : Dd) : Bool := form d && can s d
/-- the state behind deeds, or the place of the first one that can't be -/
def play (s : St) : List Dd → Nat → Option St × Nat
  | [], _ => (some s, 0)
  | d :: r, at_ => if ok s d = true then play (beh s d) r (at_ + 1) else (none, at_)
/-- bounds -/
structure Small (n : Nat) (s : St) : Prop where
  rows : ∀ c ∈ s.cs, c.rows.length ≤ n
  term : ∀ c ∈ s.cs, c.term ≤ n
  rterm : ∀ c ∈ s.cs, ∀ r ∈ c.rows, r.term ≤ n ∧ evOk r.ev = true
  done : s.done ≤ n
theorem Small.mono {n m : Nat} {s : St} (h : Small n s) (k : n ≤ m) : Small m s :=
  ⟨fun c hc => Nat.le_trans (h.rows c hc) k, fun c hc => Nat.le_trans (h.term c hc) k, fun c hc r hr => ⟨Nat.le_trans (h.rterm c hc r hr).1 k, (h.rterm c hc r hr).2⟩, Nat.le_trans h.done k⟩
theorem Small.of {n : Nat} {s : St} (h : Small n s) (i : Nat) : (cp s i).rows.length ≤ n ∧ (cp s i).term ≤ n ∧ ∀ r ∈ (cp s i).rows, r.term ≤ n ∧ evOk r.ev = true := by
  by_cases hi : i < s.cs.length
  · exact ⟨h.rows _ (cp_mem hi), h.term _ (cp_mem hi), h.rterm _ (cp_mem hi)⟩
  · have e : cp s i = default := by
      unfold cp; rw [List.getD_eq_getElem?_getD, List.getElem?_eq_none (by omega)]; rfl
    rw [e]
    exact ⟨Nat.zero_le _, Nat.zero_le _, fun r hr => nomatch hr⟩
theorem small_set {n : Nat} {s : St} (h : Small n s) (i : Nat) (x : Cp) (L : Option Nat) (k : Nat) (h1 : x.rows.length ≤ n) (h2 : x.term ≤ n) (h3 : ∀ r ∈ x.rows, r.term ≤ n ∧ evOk r.ev = true) (h4 : k ≤ n) : Small n ⟨s.cs.set i x, L, k⟩ := by
  refine ⟨fun c hc => ?_, fun c hc => ?_, fun c hc => ?_, h4⟩
  · rcases mem_set hc with rfl | hc
    · exact h1
    · exact h.rows c hc
  · rcases mem_set hc with rfl | hc
    · exact h2
    · exact h.term c hc
  · rcases mem_set hc with rfl | hc
    · exact h3
    · exact h.rterm c hc
theorem small_init (many n : Nat) : Small n (init many) :=
  ⟨fun c hc => by rw [List.eq_of_mem_replicate hc]; exact Nat.zero_le _, fun c hc => by rw [List.eq_of_mem_replicate hc]; exact Nat.zero_le _,
   fun c hc r hr => (by rw [List.eq_of_mem_replicate hc] at hr; cases hr), Nat.zero_le _⟩
theorem maxT_small {n : Nat} {s : St} (h : Small n s) (vs : List Nat) : maxT s.cs vs ≤ n := by
  have : ∀ m, m ≤ n → vs.foldl (fun m v => max m (s.cs.getD v default).term) m ≤ n := by
    induction vs with
    | nil => intro m hm; exact hm
    | cons v vs ih => intro m hm; exact ih _ (Nat.max_le.mpr ⟨hm, (h.of v).2.1⟩)
  exact this 0 (Nat.zero_le _)
theorem small_step {n : Nat} {s : St} (h : Small n s) {d : Dd} (hf : form d = true) (hc : can s d = true) : Small (n + 1) (beh s d) := by
  have h' := h.mono (Nat.le_succ n)
  cases d with
  | elect i vs =>
    refine ⟨fun c hm => ?_, fun c hm => ?_, fun c hm => ?_, h'.done⟩
    · obtain ⟨c0, m0, e, _⟩ := setTerms_mem hm
      rw [e]; exact h'.rows c0 m0
    · obtain ⟨c0, m0, _, e⟩ := setTerms_mem hm
      rcases e with e | e
      · rw [e]; exact Nat.succ_le_succ (maxT_small h vs)
      · rw [e]; exact h'.term c0 m0
    · obtain ⟨c0, m0, e, _⟩ := setTerms_mem hm
      rw [e]; exact h'.rterm c0 m0
  | append e =>
    cases hl : s.lead with
    | none => simp [can, hl] at hc
    | some l =>
      simp only [beh, hl]
      obtain ⟨a, b, c⟩ := h.of l
      refine small_set h' l _ _ _ ?_ (Nat.le_trans b (Nat.le_succ _)) (fun r hr => ?_) h'.done
      · show ((cp s l).rows ++ [_]).length ≤ n + 1
        rw [List.length_append, List.length_singleton]; omega
      · rcases List.mem_append.mp hr with hr | hr
        · exact ⟨Nat.le_trans (c r hr).1 (Nat.le_succ _), (c r hr).2⟩
        · rw [List.mem_singleton.mp hr]
          exact ⟨Nat.le_trans b (Nat.le_succ _), hf⟩
  | copy i =>
    cases hl : s.lead with
    | none => simp [can, hl] at hc
    | some l =>
      simp only [beh, hl]
      obtain ⟨a, b, c⟩ := h'.of l
      exact small_set h' i _ _ _ a b c h'.done
  | commit k =>
    cases hl : s.lead with
    | none => simp [can, hl] at hc
    | some l =>
      simp only [can, hl, Bool.and_eq_true, decide_eq_true_iff] at hc
      have := (h.of l).1
      exact ⟨h'.rows, h'.term, h'.rterm, by show k ≤ n + 1; omega⟩
  | stop i =>
    obtain ⟨a, b, c⟩ := h'.of i
    exact small_set h' i _ _ _ a b c h'.done
  | start i =>
    obtain ⟨a, b, c⟩ := h'.of i
    exact small_set h' i _ _ _ a b c h'.done
  | go => cases hc
  | non => cases hc
  | app0 => cases hc
  | lst => cases hc
/-- a state that some deeds come to -/
structure Good (many n : Nat) (s : St) : Prop where
  len : s.cs.length = many
  small : Small n s
  inv : ∃ M C, Inv s M C
theorem good_init {many : Nat} (h : 0 < many) (n : Nat) : Good many n (init many) := ⟨List.length_replicate, small_init _ _, 0, [], inv_init many h⟩
theorem form_nodup {d : Dd} (hf : form d = true) : ∀ i vs, d = .elect i vs → vs.Nodup := fun i vs e => by
  subst e
  simp only [form, Bool.and_eq_true] at hf
  exact (rising_nodup hf.2).1
theorem good_step {many n : Nat} {s : St} (h : Good many n s) {d : Dd} (hd : ok s d = true) : Good many (n + 1) (beh s d) ∧ comm s <+: comm (beh s d) := by
  unfold ok at hd
  rw [Bool.and_eq_true] at hd
  obtain ⟨M, C, I⟩ := h.inv
  obtain ⟨M', C', I', hp, hl⟩ := inv_step I (form_nodup hd.1) hd.2
  exact ⟨⟨hl.trans h.len, small_step h.small hd.1 hd.2, M', C', I'⟩, by rw [comm_eq I, comm_eq I']; exact hp⟩
theorem Good.lead {many n : Nat} {s : St} (h : Good many n s) {l : Nat} (hl : s.lead = some l) : l < many := by
  obtain ⟨M, C, I⟩ := h.inv
  obtain ⟨c, hc, _⟩ := I.lead l hl
  rw [← h.len]
  exact (List.getElem?_eq_some_iff.mp hc).1
theorem Good.commLen {many n : Nat} {s : St} (h : Good many n s) : (comm s).length = s.done := by
  obtain ⟨M, C, I⟩ := h.inv
  rw [comm_eq I, I.clen]
theorem Good.leadHas {many n : Nat} {s : St} (h : Good many n s) {l : Nat} (hl : s.lead = some l) : (cp s l).rows.take s.done = comm s := by
  obtain ⟨M, C, I⟩ := h.inv
  obtain ⟨c, hc, _, _, _, hC, _⟩ := I.lead l hl
  rw [cp_of hc, comm_eq I]
  exact pre_take I hC
theorem Good.ableHas {many n : Nat} {s : St} (h : Good many n s) {i : Nat} (hi : i ∈ able s) : (cp s i).rows.take s.done = comm s := by
  obtain ⟨M, C, I⟩ := h.inv
  rw [comm_eq I]
  exact pre_take I (able_has I hi).2
theorem Good.lm {many n : Nat} {s : St} (h : Good many n s) {c c' : Cp} (hc : c ∈ s.cs) (hc' : c' ∈ s.cs) {p : Nat} {r r' : Row} (h1 : c.rows[p]? = some r) (h2 : c'.rows[p]? = some r') (ht : r.term = r'.term) :
    c.rows.take (p + 1) = c'.rows.take (p + 1) := by
  obtain ⟨M, C, I⟩ := h.inv
  exact I.lm c hc c' hc' p r r' h1 h2 ht
end K27

/-! KE: what stands for events, rows, copies, states, deeds. -/
namespace KD
open PySem L2 K27
def encEv : Ev → PyData
  | .ans a b g n => .tuple [.str "answer", .tuple [.int a, .int b], .bool g, .int n]
  | .off => .tuple [.str "off"]
def encRow (r : K27.Row) : PyData := .tuple [.int r.term, encEv r.ev]
def encRows (rows : List K27.Row) : PyData := .tuple (rows.map encRow)
def encCp (c : Cp) : PyData := .tuple [.bool c.up, .int c.term, encRows c.rows]
def encCpL (c : Cp) : PyData := .list [.bool c.up, .int c.term, encRows c.rows]
def encO : Option Nat → PyData
  | none => .none
  | some l => .int l
def encSt (s : K27.St) : PyData := .tuple [.tuple (s.cs.map encCp), encO s.lead, .int s.done]
def encStL (s : K27.St) : PyData := .list [.list (s.cs.map encCpL), encO s.lead, .int s.done]
def nats (vs : List Nat) : List PyData := vs.map fun v => .int (v : Nat)
def encDd : Dd → PyData
  | .elect i vs => .tuple [.str "elect", .int i, .tuple (nats vs)]
  | .append e => .tuple [.str "append", encEv e]
  | .copy i => .tuple [.str "copy", .int i]
  | .commit n => .tuple [.str "commit", .int n]
  | .stop i => .tuple [.str "stop", .int i]
  | .start i => .tuple [.str "start", .int i]
  | .go => .tuple [.str "go", .int 0]
  | .non => .none
  | .app0 => .tuple [.str "append"]
  | .lst => .list [.str "stop", .int 0]
/-! shapes -/
theorem shaped_of {d : PyData} (h1 : PyData.canLay0 d = true) (h2 : d.depth ≤ 64) : SeqAt.shaped d = true := by
  unfold SeqAt.shaped
  rw [h1, decide_eq_true h2]
  rfl
theorem lay_ev (e : Ev) : PyData.canLay0 (encEv e) = true ∧ (encEv e).depth ≤ 2 := by
  cases e with
  | ans a b g n => exact ⟨by simp [encEv, PyData.canLay0, PyData.canLayAll0]; decide +kernel, by simp [encEv, PyData.depth, PyData.depthAll]⟩
  | off => exact ⟨by simp [encEv, PyData.canLay0, PyData.canLayAll0]; decide +kernel, by simp [encEv, PyData.depth, PyData.depthAll]⟩
theorem lay_row (r : K27.Row) : PyData.canLay0 (encRow r) = true ∧ (encRow r).depth ≤ 3 := by
  obtain ⟨h1, h2⟩ := lay_ev r.ev
  refine ⟨by simp [encRow, PyData.canLay0, PyData.canLayAll0, h1], ?_⟩
  simp [encRow, PyData.depth, PyData.depthAll]
  omega
theorem lay_all {α : Type} (f : α → PyData) (n : Nat) (h : ∀ a, PyData.canLay0 (f a) = true ∧ (f a).depth ≤ n) : ∀ l : List α, PyData.canLayAll0 (l.map f) = true ∧ PyData.depthAll (l.map f) ≤ n
  | [] => ⟨by simp [PyData.canLayAll0], by simp [PyData.depthAll]⟩
  | a :: l => by
    obtain ⟨h1, h2⟩ := h a
    obtain ⟨h3, h4⟩ := lay_all f n h l
    refine ⟨by simp [PyData.canLayAll0, h1, h3], ?_⟩
    simp [PyData.depthAll]
    omega
theorem lay_rows (rows : List K27.Row) : PyData.canLay0 (encRows rows) = true ∧ (encRows rows).depth ≤ 4 := by
  obtain ⟨h1, h2⟩ := lay_all encRow 3 lay_row rows
  refine ⟨by simp [encRows, PyData.canLay0, h1], ?_⟩
  simp [encRows, PyData.depth]
  omega
theorem sh_rows (rows : List K27.Row) : SeqAt.shaped (encRows rows) = true := shaped_of (lay_rows rows).1 (Nat.le_trans (lay_rows rows).2 (by decide))
theorem sh_ev (e : Ev) : SeqAt.shaped (encEv e) = true := shaped_of (lay_ev e).1 (Nat.le_trans (lay_ev e).2 (by decide))
theorem lay_nats (vs : List Nat) : PyData.canLayAll0 (nats vs) = true ∧ PyData.depthAll (nats vs) ≤ 0 := lay_all _ 0 (fun a => ⟨by simp [PyData.canLay0], by simp [PyData.depth]⟩) vs
theorem lay_dd (d : Dd) : PyData.canLay0 (encDd d) = true ∧ (encDd d).depth ≤ 10 := by
  cases d with
  | elect i vs =>
    obtain ⟨h1, h2⟩ := lay_nats vs
    refine ⟨by simp [encDd, PyData.canLay0, PyData.canLayAll0, h1]; decide +kernel, ?_⟩
    simp [encDd, PyData.depth, PyData.depthAll]; omega
  | append e =>
    obtain ⟨h1, h2⟩ := lay_ev e
    refine ⟨by simp [encDd, PyData.canLay0, PyData.canLayAll0, h1]; decide +kernel, ?_⟩
    simp [encDd, PyData.depth, PyData.depthAll]; omega
  | copy i => exact ⟨by simp [encDd, PyData.canLay0, PyData.canLayAll0]; decide +kernel, by simp [encDd, PyData.depth, PyData.depthAll]⟩
  | commit i => exact ⟨by simp [encDd, PyData.canLay0, PyData.canLayAll0]; decide +kernel, by simp [encDd, PyData.depth, PyData.depthAll]⟩
  | stop i => exact ⟨by simp [encDd, PyData.canLay0, PyData.canLayAll0]; decide +kernel, by simp [encDd, PyData.depth, PyData.depthAll]⟩
  | start i => exact ⟨by simp [encDd, PyData.canLay0, PyData.canLayAll0]; decide +kernel, by simp [encDd, PyData.depth, PyData.depthAll]⟩
  | go => exact ⟨by simp [encDd, PyData.canLay0, PyData.canLayAll0]; decide +kernel, by simp [encDd, PyData.depth, PyData.depthAll]⟩
  | non => exact ⟨by simp [encDd, PyData.canLay0], by simp [encDd, PyData.depth]⟩
  | app0 => exact ⟨by simp [encDd, PyData.canLay0, PyData.canLayAll0]; decide +kernel, by simp [encDd, PyData.depth, PyData.depthAll]⟩
  | lst => exact ⟨by simp [encDd, PyData.canLay0, PyData.canLayAll0]; decide +kernel, by simp [encDd, PyData.depth, PyData.depthAll]⟩
theorem sh_dd (d : Dd) : SeqAt.shaped (encDd d) = true := shaped_of (lay_dd d).1 (Nat.le_trans (lay_dd d).2 (by decide))
/-! equality -/
theorem eq_natI (a b : Nat) : ((a : Int) == (b : Int)) = decide (a = b) := by
  by_cases h : a = b
  · subst h; simp
  · have : ¬ (a : Int) = (b : Int) := by omega
    simp [h, this]
theorem eqv_ev (x y : Ev) : PyData.eqv (encEv x) (encEv y) = decide (x = y) := by
  cases x with
  | ans a b g n =>
    cases y with
    | ans a' b' g' n' =>
      simp only [encEv, PyData.eqv, PyData.eqvAll, eq_natI, Ev.ans.injEq, Bool.and_true, beq_self_eq_true, Bool.true_and]
      rw [Bool.eq_iff_iff]
      simp only [Bool.and_eq_true, decide_eq_true_iff, beq_iff_eq]
      constructor
      · rintro ⟨⟨h1, h2⟩, h3, h4⟩; exact ⟨h1, h2, h3, h4⟩
      · rintro ⟨h1, h2, h3, h4⟩; exact ⟨⟨h1, h2⟩, h3, h4⟩
    | off => simp [encEv, PyData.eqv, PyData.eqvAll]
  | off =>
    cases y with
    | ans a' b' g' n' => simp [encEv, PyData.eqv, PyData.eqvAll]
    | off => simp [encEv, PyData.eqv, PyData.eqvAll]
theorem eqv_row (a b : K27.Row) : PyData.eqv (encRow a) (encRow b) = decide (a = b) := by
  obtain ⟨t, e⟩ := a
  obtain ⟨t', e'⟩ := b
  simp only [encRow, PyData.eqv, PyData.eqvAll, eq_natI, eqv_ev, Row.mk.injEq, Bool.and_true]
  rw [Bool.eq_iff_iff]
  simp only [Bool.and_eq_true, decide_eq_true_iff]
theorem eqv_all {α : Type} [DecidableEq α] (f : α → PyData) (h : ∀ a b, PyData.eqv (f a) (f b) = decide (a = b)) : ∀ l l' : List α, PyData.eqvAll (l.map f) (l'.map f) = decide (l = l')
  | [], [] => by simp [PyData.eqvAll]
  | [], b :: l' => by simp [PyData.eqvAll]
  | a :: l, [] => by simp [PyData.eqvAll]
  | a :: l, b :: l' => by
    rw [List.map_cons, List.map_cons]
    simp only [PyData.eqvAll, h, eqv_all f h l l', List.cons.injEq]
    rw [Bool.eq_iff_iff]
    simp only [Bool.and_eq_true, decide_eq_true_iff]
theorem eqv_rows (a b : List K27.Row) : PyData.eqv (encRows a) (encRows b) = decide (a = b) := by
  unfold encRows
  simp only [PyData.eqv]
  exact eqv_all _ eqv_row a b
theorem eqv_nil (a : List K27.Row) : PyData.eqv (encRows a) (.tuple []) = decide (a = []) := eqv_rows a []
theorem eqv_str (x y : Str) : PyData.eqv (.str x) (.str y) = decide (x = y) := by
  rw [Bool.eq_iff_iff]
  simp [PyData.eqv]
theorem eqv_int (x y : Int) : PyData.eqv (.int x) (.int y) = decide (x = y) := by
  rw [Bool.eq_iff_iff]
  simp [PyData.eqv]
theorem sh_int (x : Int) : SeqAt.shaped (.int x) = true := rfl
theorem sh_bool (x : Bool) : SeqAt.shaped (.bool x) = true := rfl
theorem sh_nil : SeqAt.shaped (.tuple []) = true := rfl
theorem sh_str {x : Str} (h : PyData.strOk x = true) : SeqAt.shaped (.str x) = true := shaped_of (by simpa [PyData.canLay0] using h) (by simp [PyData.depth])
end KD

/-! KL: small helpers for walks by data. -/
namespace KD
open PySem L2 PySem.Spec PyProof.Rows K27
variable {K : PySem.W.Frag}
section
variable {ρ ρ1 ρ2 : En} {te ta tb : TE} {tt : TT} {x y z d : PyData} {b c : Bool} {t u r : TS} {o : Out} {ds es : List PyData}
theorem es_ifS (h : EvT K tt ρ b) (h1 : b = true → EvS K (tSeq t r) ρ o) (h2 : b = false → EvS K (tSeq u r) ρ o) : EvS K (tSeq (tIfS tt t u) r) ρ o := fun D σ G H hs hd m =>
  h σ G H hs hd _ fun G2 H2 s => by
    cases b with
    | true => exact iteT (h1 rfl D σ G2 H2 s.sub (hd.mono (s.up hs)) (m.on s))
    | false => exact iteF (h2 rfl D σ G2 H2 s.sub (hd.mono (s.up hs)) (m.on s))
theorem es_retE (h : EvE K te ρ d) (e : d = z) : EvS K (tRet te) ρ (.rt z) := by
  subst e; exact es_ret h
theorem es_nxS (h : EvS K u ρ o) : EvS K (tSeq tNext u) ρ o := es_seq es_next h
theorem ev_andB (h : EvE K ta ρ (.bool b)) (h2 : b = true → EvE K tb ρ (.bool c)) : EvE K (tAndV ta tb) ρ (.bool (b && c)) :=
  ev_andV h (fun e => by rw [e, Bool.true_and]; exact h2 e) (fun e => by rw [e]; rfl)
theorem ev_orB (h : EvE K ta ρ (.bool b)) (h2 : b = false → EvE K tb ρ (.bool c)) : EvE K (tOrV ta tb) ρ (.bool (b || c)) :=
  ev_orV h (fun e => by rw [e, Bool.false_or]; exact h2 e) (fun e => by rw [e]; rfl)
theorem ev_chB {tc : TE} {r r' : R2} (ha : EvE K ta ρ x) (hb : EvE K tb ρ y) (hr : RD K r x y (.bool b)) (hc : EvE K tc ρ z) (hr' : RD K r' y z (.bool c)) : EvE K (tChain r r' ta tb tc) ρ (.bool (b && c)) :=
  ev_chain ha hb hr (fun _ => hc) (fun e => by rw [e, Bool.true_and]; exact hr') (fun e => by rw [e]; rfl)
theorem ev_eqd (h : EvE K te ρ d) (e : d = z) : EvE K te ρ z := e ▸ h
theorem et_eqb (h : EvT K tt ρ b) (e : b = c) : EvT K tt ρ c := e ▸ h
end
abbrev rLenS (K : PySem.W.Frag) : List V → Hp → VK → Prop := fun xs H Q => ∃ p ys, xs = [.ref p] ∧ (SqL K H p ys ∨ SqT K H p ys) ∧ Q (.int ys.length) H
abbrev rTupOf (K : PySem.W.Frag) : List V → Hp → VK → Prop := fun xs H Q => ∃ p ys, xs = [.ref p] ∧ ((SqL K H p ys ∧ ∀ l, H l = none → Q (.ref l) (upd H l (.tup ys))) ∨ (SqT K H p ys ∧ Q (.ref p) H))
abbrev rListOf (K : PySem.W.Frag) : List V → Hp → VK → Prop := fun xs H Q => ∃ p ys, xs = [.ref p] ∧ (SqL K H p ys ∨ SqT K H p ys) ∧ ∀ l, H l = none → Q (.ref l) (upd H l (.lst ys))
theorem kit_int_int : kitB "int" "int" = some true := by decide +kernel
theorem kit_int_bool : kitB "int" "bool" = some false := by decide +kernel
theorem kit_int_str : kitB "int" "str" = some false := by decide +kernel
theorem kit_int_tuple : kitB "int" "tuple" = some false := by decide +kernel
theorem kit_bool_int : kitB "bool" "int" = some true := by decide +kernel
theorem kit_bool_bool : kitB "bool" "bool" = some true := by decide +kernel
theorem kit_bool_str : kitB "bool" "str" = some false := by decide +kernel
theorem kit_bool_tuple : kitB "bool" "tuple" = some false := by decide +kernel
theorem kit_str_int : kitB "str" "int" = some false := by decide +kernel
theorem kit_str_bool : kitB "str" "bool" = some false := by decide +kernel
theorem kit_str_str : kitB "str" "str" = some true := by decide +kernel
theorem kit_str_tuple : kitB "str" "tuple" = some false := by decide +kernel
theorem kit_tuple_int : kitB "tuple" "int" = some false := by decide +kernel
theorem kit_tuple_bool : kitB "tuple" "bool" = some false := by decide +kernel
theorem kit_tuple_str : kitB "tuple" "str" = some false := by decide +kernel
theorem kit_tuple_tuple : kitB "tuple" "tuple" = some true := by decide +kernel
theorem kit_list_int : kitB "list" "int" = some false := by decide +kernel
theorem kit_list_bool : kitB "list" "bool" = some false := by decide +kernel
theorem kit_list_str : kitB "list" "str" = some false := by decide +kernel
theorem kit_list_tuple : kitB "list" "tuple" = some false := by decide +kernel
theorem kit_none_int : kitB "NoneType" "int" = some false := by decide +kernel
theorem kit_none_bool : kitB "NoneType" "bool" = some false := by decide +kernel
theorem kit_none_str : kitB "NoneType" "str" = some false := by decide +kernel
theorem kit_none_tuple : kitB "NoneType" "tuple" = some false := by decide +kernel
end KD

/-! KF1: defs of the program that look at forms. -/
namespace KD
open PySem L2 PySem.Spec PyProof.Rows K27

abbrev s_is_between : Stmt := top 6
abbrev N_is_between : List Str := ["value", "low", "high"]
theorem sc_is_between : FnScope N_is_between ["value", "low", "high"] (defScope s_is_between) := ⟨rfl, rfl, rfl, by decide +kernel, rfl, by decide +kernel, by decide +kernel⟩


def F_is_between : List PyData → PyData → Prop := fun ds z => ∃ i lo hi : Int, ds = [.int i, .int lo, .int hi] ∧ z = .bool (decide (lo ≤ i) && decide (i ≤ hi))
theorem I_is_between {i lo hi : Int}  : F_is_between [.int i, .int lo, .int hi] (.bool (decide (lo ≤ i) && decide (i ≤ hi))) := ⟨i, lo, hi, rfl, rfl⟩
theorem R_is_between {P : Program} {w : World} {K : PySem.W.Frag} {mg : Str → Option Value} {base : Heap} (T : Tx mg) (kn : Kn K mg "is_between" s_is_between ["value", "low", "high"]) : Rdy P w K mg base 1 "is_between" ["value", "low", "high"] (spP K F_is_between) := by
  refine rdy_of kn sc_is_between (fun ds z h => ?_) (by decide) (fun f cdv A outer s H E hr ds z h => ?_)
  · obtain ⟨i, lo, hi, rfl, rfl⟩ := h
    rfl
  obtain ⟨i, lo, hi, rfl, rfl⟩ := h
  refine ⟨_, (pss_one (ps_ret (pe_and (pe_callB call_isi (by rfl) T.b_isinstance bt_isinstance (pa_cons (pv 0) (pa_cons (pe_bltn (v := .ty "int") (by rfl) T.b_int bt_int rfl) pa_nil))) (pe_and (pe_not (pe_callB call_isi (by rfl) T.b_isinstance bt_isinstance (pa_cons (pv 0) (pa_cons (pe_bltn (v := .ty "bool") (by rfl) T.b_bool bt_bool rfl) pa_nil)))) (pe_one (pe_chain op_le op_le (pv 1) (pv 0) (pv 2))))))), ?_⟩
  exact es_retE (ev_andB (ev_isi (ev_var rfl) (by first | exact kit_int_int | exact kit_tuple_int | exact kit_str_int | exact kit_bool_int | exact kit_list_int | exact kit_none_int)) (fun _ => (ev_andB (ev_notV (ev_isi (ev_var rfl) (by first | exact kit_int_bool | exact kit_tuple_bool | exact kit_str_bool | exact kit_bool_bool | exact kit_list_bool | exact kit_none_bool))) (fun _ => (ev_chB (ev_var rfl) (ev_var rfl) rd_le (ev_var rfl) rd_le))))) (by simp)

abbrev s_is_from_to : Stmt := top 9
abbrev N_is_from_to : List Str := ["value", "low", "high"]
theorem sc_is_from_to : FnScope N_is_from_to ["value", "low", "high"] (defScope s_is_from_to) := ⟨rfl, rfl, rfl, by decide +kernel, rfl, by decide +kernel, by decide +kernel⟩


def F_is_from_to : List PyData → PyData → Prop := fun ds z => ∃ i lo hi : Int, ds = [.int i, .int lo, .int hi] ∧ z = .bool (decide (lo ≤ i) && decide (i ≤ hi))
theorem I_is_from_to {i lo hi : Int}  : F_is_from_to [.int i, .int lo, .int hi] (.bool (decide (lo ≤ i) && decide (i ≤ hi))) := ⟨i, lo, hi, rfl, rfl⟩
theorem R_is_from_to {P : Program} {w : World} {K : PySem.W.Frag} {mg : Str → Option Value} {base : Heap} (T : Tx mg) (kn : Kn K mg "is_from_to" s_is_from_to ["value", "low", "high"]) : Rdy P w K mg base 1 "is_from_to" ["value", "low", "high"] (spP K F_is_from_to) := by
  refine rdy_of kn sc_is_from_to (fun ds z h => ?_) (by decide) (fun f cdv A outer s H E hr ds z h => ?_)
  · obtain ⟨i, lo, hi, rfl, rfl⟩ := h
    rfl
  obtain ⟨i, lo, hi, rfl, rfl⟩ := h
  refine ⟨_, (pss_one (ps_ret (pe_and (pe_callB call_isi (by rfl) T.b_isinstance bt_isinstance (pa_cons (pv 0) (pa_cons (pe_bltn (v := .ty "int") (by rfl) T.b_int bt_int rfl) pa_nil))) (pe_and (pe_not (pe_callB call_isi (by rfl) T.b_isinstance bt_isinstance (pa_cons (pv 0) (pa_cons (pe_bltn (v := .ty "bool") (by rfl) T.b_bool bt_bool rfl) pa_nil)))) (pe_one (pe_chain op_le op_le (pv 1) (pv 0) (pv 2))))))), ?_⟩
  exact es_retE (ev_andB (ev_isi (ev_var rfl) (by first | exact kit_int_int | exact kit_tuple_int | exact kit_str_int | exact kit_bool_int | exact kit_list_int | exact kit_none_int)) (fun _ => (ev_andB (ev_notV (ev_isi (ev_var rfl) (by first | exact kit_int_bool | exact kit_tuple_bool | exact kit_str_bool | exact kit_bool_bool | exact kit_list_bool | exact kit_none_bool))) (fun _ => (ev_chB (ev_var rfl) (ev_var rfl) rd_le (ev_var rfl) rd_le))))) (by simp)

abbrev s_last_term : Stmt := top 18
abbrev N_last_term : List Str := ["rows"]
theorem sc_last_term : FnScope N_last_term ["rows"] (defScope s_last_term) := ⟨rfl, rfl, rfl, by decide +kernel, rfl, by decide +kernel, by decide +kernel⟩


def F_last_term : List PyData → PyData → Prop := fun ds z => ∃ rows : List K27.Row, ds = [encRows rows] ∧ z = .int (lastT rows : Nat)
theorem I_last_term {rows : List K27.Row}  : F_last_term [encRows rows] (.int (lastT rows : Nat)) := ⟨rows, rfl, rfl⟩
theorem R_last_term {P : Program} {w : World} {K : PySem.W.Frag} {mg : Str → Option Value} {base : Heap} (T : Tx mg) (kn : Kn K mg "last_term" s_last_term ["rows"]) : Rdy P w K mg base 1 "last_term" ["rows"] (spP K F_last_term) := by
  refine rdy_of kn sc_last_term (fun ds z h => ?_) (by decide) (fun f cdv A outer s H E hr ds z h => ?_)
  · obtain ⟨rows, rfl, rfl⟩ := h
    rfl
  obtain ⟨rows, rfl, rfl⟩ := h
  refine ⟨_, (pss_one (ps_ret (pe_ifExp (pt_cmpR (op_neD hr.units) (pv 0) (pe_tup pa_nil) (by first | rfl | exact nomark _)) (pe_ix ix_tup (pe_ix ix_tup (pv 0) (pe_un un_neg pe_int) (fun _ _ => rfl)) pe_int (fun _ _ => rfl)) pe_int))), ?_⟩
  refine es_ret (ev_ifE (b := !decide (rows = [])) (ev_test ?_) (fun h => ?_) (fun h => ?_))
  · rw [← eqv_nil]
    exact ev_op (ev_var rfl) (ev_tup ev_nil (by decide)) (rd_ne (sh_rows rows) sh_nil)
  · have hne : rows ≠ [] := by simpa using h
    obtain ⟨r, hr'⟩ : ∃ r, rows.getLast? = some r := ⟨_, List.getLast?_eq_some_getLast hne⟩
    have e : lastT rows = r.term := by unfold lastT; rw [hr']
    rw [e]
    have h1 : atI (rows.map encRow) (-1) = some (encRow r) := by
      have hl : 0 < rows.length := List.length_pos_iff.mpr hne
      unfold atI ixN
      rw [List.length_map, if_neg (by omega), if_pos (by omega)]
      have e2 : ((-1 : Int) + (rows.length : Nat)).toNat = rows.length - 1 := by omega
      show (rows.map encRow)[((-1 : Int) + (rows.length : Nat)).toNat]? = _
      rw [e2, List.getElem?_map, ← List.getLast?_eq_getElem?, hr']
      rfl
    exact ev_op (ev_op (ev_var rfl) (ev_neg ev_int) (rd_ixT h1)) ev_int (rd_ixT rfl)
  · have hne : rows = [] := by simpa using h
    subst hne
    exact ev_int

end KD

/-! KX: rules that HandS lacks: pairs of numbers compared. -/
namespace KD
open PySem L2 PySem.Spec PyProof.Rows K27
variable {K : PySem.W.Frag}
def gtP (a b c d : Int) : Bool := decide (c < a) || (decide (a = c) && decide (d < b))
def rGtP (K : PySem.W.Frag) : R2 := fun x y H Q => ∃ (p q : Addr) (a b c d : Int), x = .ref p ∧ y = .ref q ∧ SqT K H p [.int a, .int b] ∧ SqT K H q [.int c, .int d] ∧ Q (.bl (gtP a b c d)) H
theorem beq_dec (a c : Int) : (a == c) = decide (a = c) := by
  by_cases h : a = c
  · subst h; simp
  · rw [decide_eq_false h]; exact beq_eq_false_iff_ne.mpr h
theorem op_gtP {X : Cx} (roomy : X.A.units < cLine) : OpR X (compareOp .Gt) (rGtP X.K) := by
  intro ps0 sh σ H x y v u Q I relx rely hyp
  obtain ⟨p, q, a, b, c, d, rfl, rfl, hp, hq, k⟩ := hyp
  cases relx
  cases rely
  obtain ⟨l1, rel1, tup1, _⟩ := I.tuple hp
  obtain ⟨l2, rel2, tup2, _⟩ := I.tuple hq
  cases rel1 with
  | cons r1 rel1 =>
  cases rel1 with
  | cons r2 rel1 =>
  cases rel1
  cases rel2 with
  | cons r3 rel2 =>
  cases rel2 with
  | cons r4 rel2 =>
  cases rel2
  obtain ⟨t1, rfl⟩ := r1
  obtain ⟨t2, rfl⟩ := r2
  obtain ⟨t3, rfl⟩ := r3
  obtain ⟨t4, rfl⟩ := r4
  have step := Ob.RcOp.tuples_gt (A := X.A) (s := sh) (e := fun j => if j = 0 then (a == c) else (b == d)) (r := fun j => if j = 0 then decide (c < a) else decide (d < b)) tup1 tup2 roomy (fun j h1 h2 => by
    match j, h1, h2 with
    | 0, _, _ => exact SeqAt.EqAt.int_int _ _ _ _
    | 1, _, _ => exact SeqAt.EqAt.int_int _ _ _ _
    | n + 2, h1, _ => exact absurd h1 (by simp)) (fun j h1 h2 _ => by
    match j, h1, h2 with
    | 0, _, _ => exact Ob.RcOp.gt_int _ _ _ _
    | 1, _, _ => exact Ob.RcOp.gt_int _ _ _ _
    | n + 2, h1, _ => exact absurd h1 (by simp))
  refine step X.prog X.w X.xe (EP X ps0 σ Q) ⟨.bl _, H, I, ?_, k⟩
  show (Value.bool _ : Value) = _
  congr 1
  show Ob.lexAt _ _ (decide (2 > 2)) 0 2 = _
  simp only [Ob.lexAt, gtP, beq_dec, if_true]
  by_cases h : a = c
  · subst h
    by_cases h2 : b = d
    · subst h2; simp
    · simp [h2]
  · simp [h]
theorem rd_gtP {a b c d : Int} : RD K (rGtP K) (.tuple [.int a, .int b]) (.tuple [.int c, .int d]) (.bool (gtP a b c d)) := fun x y G H hs dx dy Q q => by
  obtain ⟨p, vs, e1, e2, e3⟩ := dp_tup dx
  obtain ⟨p', vs', e1', e2', e3'⟩ := dp_tup dy
  have z := dpa_ints (ns := [a, b]) e3
  have z' := dpa_ints (ns := [c, d]) e3'
  subst z z'
  exact ⟨p, p', a, b, c, d, e1, e1', sqt_mono hs e2, sqt_mono hs e2', q _ G H (.refl hs) (.bl _)⟩
theorem rd_leP {a b c d : Int} : RD K (rLeT K) (.tuple [.int a, .int b]) (.tuple [.int c, .int d]) (.bool (!gtP a b c d)) := fun x y G H hs dx dy Q q => by
  obtain ⟨p, vs, e1, e2, e3⟩ := dp_tup dx
  obtain ⟨p', vs', e1', e2', e3'⟩ := dp_tup dy
  have z := dpa_ints (ns := [a, b]) e3
  have z' := dpa_ints (ns := [c, d]) e3'
  subst z z'
  refine ⟨p, p', [a, b], [c, d], e1, e1', sqt_mono hs e2, sqt_mono hs e2', ?_⟩
  have e : Ob.lexAt (fun j => decide ([a, b].getD j 0 = [c, d].getD j 0)) (fun j => decide ([a, b].getD j 0 ≤ [c, d].getD j 0)) (decide ([a, b].length ≤ [c, d].length)) 0 (min [a, b].length [c, d].length) = !gtP a b c d := by
    show Ob.lexAt _ _ (decide (2 ≤ 2)) 0 2 = _
    simp only [Ob.lexAt, gtP]
    by_cases h : a = c
    · subst h
      by_cases h2 : b = d
      · subst h2; simp
      · simp [h2]
        by_cases h3 : d < b
        · have : ¬ b ≤ d := by omega
          simp [h3, this]
        · have : b ≤ d := by omega
          simp [h3, this]
    · simp [h]
      by_cases h3 : c < a
      · have : ¬ a ≤ c := by omega
        simp [h3, this]
      · have : a ≤ c := by omega
        simp [h3, this]
  rw [e]
  exact q _ G H (.refl hs) (.bl _)
theorem gtP_newer (a b : List K27.Row) : gtP (lastT a : Nat) (a.length : Nat) (lastT b : Nat) (b.length : Nat) = newer a b := by
  unfold gtP newer
  congr 1
  · simp
  · congr 1
    · by_cases h : lastT a = lastT b
      · simp [h]
      · simp [h]; omega
    · simp
end KD

/-! KY: enumerate of a tuple; what zip and enumerate tell by data; mapped and filtered lists. -/
namespace KD
open PySem L2 PySem.Spec PyProof.Rows K27
open Sem (wp)
theorem meets_enumT (t : Addr) (items : Array Value) :
    Meets (Builtin.«enumerate.__new__» ⟨[.type "enumerate", .ref t], []⟩) (fun _ R s => s.heap.IsTuple t items ∧
      R (.ok (.ret (.ref (s.heap.push { cls := .type "tuple_iterator", data := .fields #[.ref t, .int 0 0] }).objs.size))) { s with heap := (s.heap.push { cls := .type "tuple_iterator", data := .fields #[.ref t, .int 0 0] }).push { cls := .type "enumerate", data := .fields #[.none, .bool false, .ref s.heap.objs.size, rawInt 0, .none, .none] } }) := by
  refine .of_wp fun P wd A R sh hyp => ?_
  obtain ⟨h0, g0, d0, t0, o0⟩ := sh
  obtain ⟨tup, fin⟩ := hyp
  have sub := sub_enumerate
  have iter0 : ∀ {A' : Around} {E : Value → Shared → Prop} {Q : Value → Shared → Prop}, Q (.ref h0.objs.size) ⟨h0.push { cls := .type "tuple_iterator", data := .fields #[.ref t, .int 0 0] }, g0, d0, t0, o0⟩ → wpAny (model P wd) A' (pyIter (.ref t)) Q E ⟨h0, g0, d0, t0, o0⟩ := fun q => wpAny_pyIter_tuple (s := ⟨h0, g0, d0, t0, o0⟩) tup q
  wp_walk using iter0
  refine wpAny_stack_any fun stk => wpAny_pure ?_
  split
  next c _ _ _ _ _ =>
    cases (c == Value.type "enumerate") <;> (wp_walk using iter0; exact ⟨_, rfl, fin⟩)
  next => wp_walk using iter0; exact ⟨_, rfl, fin⟩
theorem call_enumT {prog : Program} {w : World} {A : Around} {E : Value → Shared → Prop} {s : Shared} {t : Addr} {items : Array Value} {Q : Value → Shared → Prop} (tup : s.heap.IsTuple t items)
    (then_ : ∀ h', IsEnum h' (s.heap.objs.size + 1) s.heap.objs.size 0 .none → h'.IsTupleIter s.heap.objs.size t 0 → (∀ b o, s.heap.get? b = some o → h'.get? b = some o) → Q (.ref (s.heap.objs.size + 1)) { s with heap := h' }) :
    wpAny (model prog w) A (call (.type "enumerate") [.ref t]) Q E s := by
  refine callType_new F.called_enumerate (by decide) (F.typeCall_enumerate_1 _) (F.newCall_enumerate_1 _) (fun obj => F.args_object_init_2 obj _) F.entry_enumerate_new (meets_enumT t items) ⟨tup, ?_⟩
  have sz : (s.heap.push { cls := .type "tuple_iterator", data := .fields #[.ref t, .int 0 0] }).objs.size = s.heap.objs.size + 1 := Heap.size_push ..
  show _ ∧ _
  rw [sz]
  have en : IsEnum ((s.heap.push { cls := .type "tuple_iterator", data := .fields #[.ref t, .int 0 0] }).push { cls := .type "enumerate", data := .fields #[.none, .bool false, .ref s.heap.objs.size, rawInt 0, .none, .none] }) (s.heap.objs.size + 1) s.heap.objs.size 0 .none := by
    have z := Heap.get?_push_size (s.heap.push { cls := .type "tuple_iterator", data := .fields #[.ref t, .int 0 0] }) (o := { cls := .type "enumerate", data := .fields #[.none, .bool false, .ref s.heap.objs.size, rawInt 0, .none, .none] }) rfl
    rwa [sz] at z
  exact ⟨⟨_, en, rfl⟩, then_ _ en ⟨_, Heap.get?_push_of_some _ (Heap.get?_push_size _ rfl), rfl, rfl⟩ fun b o x => Heap.get?_push_of_some _ (Heap.get?_push_of_some _ x)⟩
/-- the tuple at a, each item with its place in a new pair -/
def ItEnT (K : PySem.W.Frag) (a : Addr) : It where
  go := fun i H => ∃ (xs : List V) (x : V), SqT K H a xs ∧ xs[i]? = some x
  yld := fun i H v H' => ∃ T x, v = .ref T ∧ H T = none ∧ H' = upd H T (.tup [.int (i : Nat), x]) ∧ ∀ xs, SqT K H a xs → xs[i]? = some x
  stop := fun i H => ∃ xs : List V, SqT K H a xs ∧ xs.length = i
theorem turn_enT {P : Program} {w : World} {K : PySem.W.Frag} {elts : List Expr} {kk : Nat} {tpos : Pos} (a e it : Addr) :
    Turn P w K (.Tuple elts kk tpos) (ItEnT K a) [e, it] e (fun i h => (∃ old, IsEnum h e it ((i : Nat) : Int) old) ∧ h.IsTupleIter it a i ∧ e ≠ it ∧ a ≠ it) where
  mem := by simp
  obj := by
    rintro i h ⟨⟨old, he⟩, ⟨o, ho, hc, hd⟩, _, _⟩ b hb
    rcases (show b = e ∨ b = it by simpa using hb) with rfl | rfl
    · exact ⟨_, he, fun v q => nomatch q⟩
    · exact ⟨o, ho, fun v q => by rw [hd] at q; cases q⟩
  keep := by
    rintro i h h' ⟨⟨old, he⟩, hi, n1, n2⟩ k
    exact ⟨⟨old, k e (by simp) _ he⟩, hi.at fun o q => k it (by simp) o q, n1, n2⟩
  item := by
    rintro X hP hw hK hc i pins s σ H E I hf ⟨⟨old, he⟩, hit, n1, n2⟩ ⟨xs, x, hq, hx⟩
    subst hP hw hK
    obtain ⟨its, rv, p, _⟩ := I.tuple hq
    obtain ⟨u, hu, ru⟩ := rv.get hx
    have el : e < s.heap.objs.size := Heap.lt_size he
    have il : it < s.heap.objs.size := by obtain ⟨_, q, _⟩ := hit; exact Heap.lt_size q
    have ea : e ≠ a := by
      rintro rfl
      obtain ⟨o, ho, hcl, _⟩ := p
      rw [he] at ho
      cases ho
      exact absurd (Value.type.inj hcl) (by decide)
    have D := Draws.tuple (prog := X.prog) (w := X.w) (A := X.A.in1) (show X.A.in1.handled = none from I.ok.hd hc) it a n2 its.toArray
    have hi : i < its.toArray.size := by
      have := List.getElem?_eq_some_iff.mp hu
      simpa using this.1
    refine wpAny_pyNext_enum_itemD D he ⟨hit, p⟩ hi n1 (by simp [n1, ea]) fun y h' tk hy ho hst hT hsz hk => ?_
    have ey : y = u := by
      have hy' : its[i]? = some y := by simpa using hy
      rw [hu] at hy'
      exact (Option.some.inj hy').symm
    subst ey
    refine ⟨_, rfl, wpAny_letOwnedTupleGo_enum (s := { s with heap := h', toks := tk + 1 }) ho fun h'' he' sb => ?_⟩
    have hT2 : h''.get? s.heap.objs.size = some { cls := .type "tuple", data := .seq #[.int i tk, y] } := (sb.2 _ (Nat.ne_of_gt el)).trans hT
    have new : ObjOk X.prog X.w (upd H s.heap.objs.size (.tup [.int (i : Nat), x])) h'' s.heap.objs.size (.tup [.int (i : Nat), x]) :=
      ⟨by show 2 ≤ sizeLine; decide, [.int i tk, y], .cons ⟨_, rfl⟩ (.cons ru .nil), ⟨_, hT2, rfl, _, rfl⟩⟩
    have I1 := I.turnedNew (t' := tk + 1) (ch := [e, it]) (fun b ob hb q => (sb.2 b fun z => hb (by simp [z])).trans (hk b ob (fun z => hb (by simp [z])) (fun z => hb (by simp [z])) q)) hf (Nat.le_refl _) new
    refine ⟨.ref s.heap.objs.size, _, I1, rfl, ⟨_, x, rfl, I.hok.fresh (Nat.le_refl _), rfl, fun l hl => by rw [I.tuple_inj hl hq]; exact hx⟩, ⟨⟨y, ?_⟩, hst.1.at fun o q => (sb.2 it n1.symm).trans q, n1, n2⟩, fun b hb => ?_⟩
    · rw [show ((i + 1 : Nat) : Int) = (i : Int) + 1 by omega]
      exact he'
    · have lt : b < s.heap.objs.size := by
        rcases (show b = e ∨ b = it by simpa using hb) with rfl | rfl
        · exact el
        · exact il
      rw [upd_ne (Nat.ne_of_lt lt)]
      exact (hf b hb).1
  done := by
    rintro X hP hw hK hc i pins s σ H E I hf ⟨⟨old, he⟩, hit, n1, n2⟩ ⟨xs, hq, hx⟩
    subst hP hw hK
    obtain ⟨its, rv, p, _⟩ := I.tuple hq
    obtain ⟨f0, f1, f2, f3, f4, f5⟩ := hf it (by simp)
    have hl := rv.length
    have D := Draws.tuple (prog := X.prog) (w := X.w) (A := X.A.in1) (show X.A.in1.handled = none from I.ok.hd hc) it a n2 its.toArray
    have hi : i = its.toArray.size := by simp; omega
    exact wpAny_pyNext_enum_endD D he ⟨hi ▸ hit, p⟩ fun h' eb => ⟨rfl, I.turned (t' := s.toks) (fun b o hb q => eb b o hb q) f0 f1 f3 f4 f5⟩
  self := fun A i s Q E st h => let ⟨⟨_, he⟩, _⟩ := st; wpAny_pyIter_enum he h
def iEnT (K : PySem.W.Frag) (ta : TA) : TI := fun σ H R => ta σ H fun vs H1 => ∃ a xs, vs = [.ref a] ∧ SqT K H1 a xs ∧ R (ItEnT K a) H1
theorem pi_enT {X : Cx} {e : Expr} {ta : TA} {p pos tpos : Pos} {elts : List Expr} {kk : Nat} (gl : Gl X "enumerate") (own : X.mg "enumerate" = none) (args : PA X [e] ta) (st : starEach [e] X.env = [(false, eval e X.env)] := by rfl) :
    PI X (.Tuple elts kk tpos) (.Call (.Name "enumerate" p) [e] [] pos) (iEnT X.K ta) := by
  refine ⟨fun pins s σ H R I hyp => Call_ (ld_blt I gl own boot_enumerate (PyProof.Rows.callWith_type1 (thn (args.run pos pins s σ H _ I hyp) fun us s1 ⟨vs, H1, I1, r1, q1⟩ => ?_) st rfl))⟩
  obtain ⟨a, xs, ex, hq, q⟩ := q1
  subst ex
  cases r1 with
  | cons r rr =>
  cases rr
  cases r
  obtain ⟨its, rv, tup, _⟩ := I1.tuple hq
  have la : a < s1.heap.objs.size := by obtain ⟨_, z, _⟩ := tup; exact Heap.lt_size z
  refine call_enumT tup fun h' he hit hk => wpAny_pyIter_enum he ?_
  refine ⟨s1.heap.objs.size + 1, [s1.heap.objs.size + 1, s1.heap.objs.size], _, _, H1, rfl, I1.kept (t' := s1.toks) hk, turn_enT a (s1.heap.objs.size + 1) s1.heap.objs.size, ⟨⟨.none, he⟩, hit, Nat.succ_ne_self _, Nat.ne_of_lt la⟩, fun b hb => ?_, q⟩
  have le : s1.heap.objs.size ≤ b := by
    rcases (show b = s1.heap.objs.size + 1 ∨ b = s1.heap.objs.size by simpa using hb) with z | z
    · rw [z]; exact Nat.le_succ _
    · rw [z]; exact Nat.le_refl _
  exact I1.fpOk le (I1.hok.fresh le)
section
variable {K : PySem.W.Frag} {ρ : En} {tA : TA} {ds es : List PyData}
def enD (ds : List PyData) : List PyData := (List.range ds.length).map fun i => .tuple [.int (i : Nat), ds.getD i .none]
theorem enD_at {i : Nat} {d : PyData} (h : ds[i]? = some d) : (enD ds)[i]? = some (.tuple [.int (i : Nat), d]) := by
  have hl := (List.getElem?_eq_some_iff.mp h).1
  unfold enD
  rw [List.getElem?_map, List.getElem?_range hl]
  simp [List.getD_eq_getElem?_getD, h]
theorem enD_len : (enD ds).length = ds.length := by unfold enD; rw [List.length_map, List.length_range]
theorem ei_enT (h : EvA K tA ρ [.tuple ds]) : EvI K (iEnT K tA) ρ (enD ds) := fun σ G H hs hd R r =>
  h σ G H hs hd _ fun vs G2 H2 s dv => by
    cases dv with
    | cons d1 d2 =>
    cases d2
    obtain ⟨a, ws, e1, e2, e3⟩ := dp_tup d1
    subst e1
    refine ⟨a, ws, rfl, sqt_mono s.sub e2, r _ G2 H2 s fun i G1 H1 k1 k2 => ⟨fun hi => ?_, fun hi => ?_⟩⟩
    · have q := sqt_mono (k1.trans k2) e2
      rw [enD_len] at hi
      have hv : i < ws.length := by rw [dpa_len e3]; exact hi
      refine ⟨⟨ws, ws[i], q, List.getElem?_eq_getElem hv⟩, fun w H3 y => ?_⟩
      obtain ⟨T, x, rfl, hT, rfl, y⟩ := y
      obtain ⟨d, hd', dw⟩ := dpa_at (dpa_mono k1 _ _ e3) (y ws q)
      have st := Stp.new k2 hT (.tup [.int (i : Nat), x])
      exact ⟨_, _, st, enD_at hd', .tup (.inl (.inl upd_same)) (.cons (.int _) (.cons (dp_mono (st.up k2) _ _ dw) .nil))⟩
    · rw [enD_len] at hi
      exact ⟨ws, sqt_mono (k1.trans k2) e2, by rw [dpa_len e3]; omega⟩
theorem ei_enL (h : EvA K tA ρ [.list ds]) : EvI K (iEnum K tA) ρ (enD ds) := fun σ G H hs hd R r =>
  h σ G H hs hd _ fun vs G2 H2 s dv => by
    cases dv with
    | cons d1 d2 =>
    cases d2
    obtain ⟨a, ws, e1, e2, e3⟩ := dp_lst d1
    subst e1
    refine ⟨a, ws, rfl, s.sub.seq e2, r _ G2 H2 s fun i G1 H1 k1 k2 => ⟨fun hi => ?_, fun hi => ?_⟩⟩
    · have q := (k1.trans k2).seq e2
      rw [enD_len] at hi
      have hv : i < ws.length := by rw [dpa_len e3]; exact hi
      refine ⟨⟨ws, ws[i], q, List.getElem?_eq_getElem hv⟩, fun w H3 y => ?_⟩
      obtain ⟨T, x, rfl, hT, rfl, y⟩ := y
      obtain ⟨d, hd', dw⟩ := dpa_at (dpa_mono k1 _ _ e3) (y ws q)
      have st := Stp.new k2 hT (.tup [.int (i : Nat), x])
      exact ⟨_, _, st, enD_at hd', .tup (.inl (.inl upd_same)) (.cons (.int _) (.cons (dp_mono (st.up k2) _ _ dw) .nil))⟩
    · rw [enD_len] at hi
      exact ⟨ws, (k1.trans k2).seq e2, by rw [dpa_len e3]; omega⟩
def zpD (ds es : List PyData) : List PyData := List.zipWith (fun d e => .tuple [d, e]) ds es
theorem ei_zpT (h : EvA K tA ρ [.tuple ds, .tuple es]) : EvI K (RZ.iZipA K tA) ρ (zpD ds es) := fun σ G H hs hd R r =>
  h σ G H hs hd _ fun vs G2 H2 s dv => by
    cases dv with
    | cons d1 d2 =>
    cases d2 with
    | cons d2 d3 =>
    cases d3
    obtain ⟨a, ws, e1, e2, e3⟩ := dp_tup d1
    obtain ⟨b, us, f1, f2, f3⟩ := dp_tup d2
    subst e1 f1
    have hz : (zpD ds es).length = min ds.length es.length := List.length_zipWith
    refine ⟨a, b, ws, us, rfl, .inr ⟨sqt_mono s.sub e2, sqt_mono s.sub f2, r _ G2 H2 s fun i G1 H1 k1 k2 => ⟨fun hi => ?_, fun hi => ?_⟩⟩⟩
    · have q := sqt_mono (k1.trans k2) e2
      have q' := sqt_mono (k1.trans k2) f2
      rw [hz] at hi
      have hv : i < ws.length := by rw [dpa_len e3]; omega
      have hv' : i < us.length := by rw [dpa_len f3]; omega
      refine ⟨⟨ws, us, ws[i], us[i], q, q', List.getElem?_eq_getElem hv, List.getElem?_eq_getElem hv'⟩, fun w H3 y => ?_⟩
      obtain ⟨T, x, x', rfl, hT, rfl, y, y'⟩ := y
      obtain ⟨d, hd', dw⟩ := dpa_at (dpa_mono k1 _ _ e3) (y ws q)
      obtain ⟨d', hd'', dw'⟩ := dpa_at (dpa_mono k1 _ _ f3) (y' us q')
      have st := Stp.new k2 hT (.tup [x, x'])
      refine ⟨_, .tuple [d, d'], st, ?_, .tup (.inl (.inl upd_same)) (.cons (dp_mono (st.up k2) _ _ dw) (.cons (dp_mono (st.up k2) _ _ dw') .nil))⟩
      unfold zpD
      rw [List.getElem?_zipWith, hd', hd'']
    · rw [hz] at hi
      exact ⟨ws, us, sqt_mono (k1.trans k2) e2, sqt_mono (k1.trans k2) f2, by rw [dpa_len e3, dpa_len f3]; omega⟩
/-! mapped, filtered -/
theorem lr_map {α : Type} {g : TG} {te : TE} {vs is : List Nat} {c f : α → PyData} {ρ1 : α → En} (hin : ∀ i ∈ is, i ∈ vs) : ∀ (l : List α), (∀ a ∈ l, EvG K g (c a) ρ (ρ1 a) is ∧ EvE K te (ρ1 a) (f a)) → LR K g tYes te ρ vs (l.map c) (l.map f)
  | [], _ => .nil
  | a :: l, h => .yes (h a List.mem_cons_self).1 hin et_yes (h a List.mem_cons_self).2 (lr_map hin l fun b hb => h b (List.mem_cons_of_mem _ hb))
theorem lr_filter {α : Type} {g : TG} {tt : TT} {te : TE} {vs is : List Nat} {c f : α → PyData} {p : α → Bool} {ρ1 : α → En} (hin : ∀ i ∈ is, i ∈ vs) : ∀ (l : List α), (∀ a ∈ l, EvG K g (c a) ρ (ρ1 a) is ∧ EvT K tt (ρ1 a) (p a) ∧ EvE K te (ρ1 a) (f a)) → LR K g tt te ρ vs (l.map c) ((l.filter p).map f)
  | [], _ => .nil
  | a :: l, h => by
    obtain ⟨h1, h2, h3⟩ := h a List.mem_cons_self
    have ih := lr_filter (p := p) hin l fun b hb => h b (List.mem_cons_of_mem _ hb)
    cases e : p a with
    | true =>
      rw [e] at h2
      rw [List.filter_cons_of_pos e, List.map_cons, List.map_cons]
      exact .yes h1 hin h2 h3 ih
    | false =>
      rw [e] at h2
      rw [List.filter_cons_of_neg (by rw [e]; decide), List.map_cons]
      exact .no h1 hin h2 ih
end
theorem cutD_to (xs : List PyData) (n : Nat) : cutD xs none (some (n : Int)) = xs.take n := by
  unfold cutD
  rw [HT.sIx_none, HT.sIx_nat, List.drop_zero, Nat.sub_zero]
  by_cases h : n ≤ xs.length
  · rw [Nat.min_eq_left h]
  · rw [Nat.min_eq_right (by omega), List.take_length, List.take_of_length_le (by omega)]
theorem cutD_from (xs : List PyData) (n : Nat) : cutD xs (some (n : Int)) none = xs.drop n := by
  unfold cutD
  rw [HT.sIx_none, HT.sIx_nat]
  by_cases h : n ≤ xs.length
  · rw [Nat.min_eq_left h, List.take_of_length_le (by rw [List.length_drop]; exact Nat.le_refl _)]
  · rw [Nat.min_eq_right (by omega), List.drop_length, List.drop_of_length_le (by omega), List.take_nil]
theorem set_cut {α : Type} (l : List α) {n : Nat} (h : n < l.length) (x : α) : l.take n ++ x :: l.drop (n + 1) = l.set n x := by
  rw [List.set_eq_take_append_cons_drop, if_pos h]
end KD

/-! KF2: forms of events, deeds, rows; states begun. -/
namespace KD
open PySem L2 PySem.Spec PyProof.Rows K27
theorem fr_run {K : PySem.W.Frag} {α : Type} {g : TG} {tb : TS} {c : α → PyData} (I : En → Prop) : ∀ (l : List α), (∀ a ∈ l, ∀ ρ, I ρ → ∃ ρ1 is ρ2, EvG K g (c a) ρ ρ1 is ∧ EvS K tb ρ1 (.nx ρ2) ∧ I ρ2) → ∀ ρ, I ρ → ∃ ρ', FR K g tb (l.map c) ρ (.nx ρ') ∧ I ρ'
  | [], _, ρ, i => ⟨ρ, .nil, i⟩
  | a :: l, h, ρ, i => by
    obtain ⟨ρ1, is, ρ2, h1, h2, i2⟩ := h a List.mem_cons_self ρ i
    obtain ⟨ρ', f, i'⟩ := fr_run I l (fun b hb => h b (List.mem_cons_of_mem _ hb)) ρ2 i2
    exact ⟨ρ', .next h1 h2 f, i'⟩
theorem es_run {K : PySem.W.Frag} {α : Type} {g : TG} {tb u : TS} {wi : TI} {ρ : En} {o : Out} (I : En → Prop) (l : List α) (c : α → PyData) (h0 : EvI K wi ρ (l.map c)) (hρ : I ρ) (step : ∀ a ∈ l, ∀ ρ, I ρ → ∃ ρ1 is ρ2, EvG K g (c a) ρ ρ1 is ∧ EvS K tb ρ1 (.nx ρ2) ∧ I ρ2) (rest : ∀ ρ', I ρ' → EvS K u ρ' o) :
    EvS K (tSeq (tFor wi g tb) u) ρ o := by
  obtain ⟨ρ', f, i⟩ := fr_run I l step ρ hρ
  exact es_seq (es_for h0 f) (rest ρ' i)

abbrev s_are_newer : Stmt := top 19
abbrev N_are_newer : List Str := ["rows", "other"]
theorem sc_are_newer : FnScope N_are_newer ["rows", "other"] (defScope s_are_newer) := ⟨rfl, rfl, rfl, by decide +kernel, rfl, by decide +kernel, by decide +kernel⟩


def F_are_newer : List PyData → PyData → Prop := fun ds z => ∃ (a : List K27.Row) (b : List K27.Row), ds = [encRows a, encRows b] ∧ z = .bool (newer a b)
theorem I_are_newer {a : List K27.Row} {b : List K27.Row}  : F_are_newer [encRows a, encRows b] (.bool (newer a b)) := ⟨a, b, rfl, rfl⟩
theorem R_are_newer {P : Program} {w : World} {K : PySem.W.Frag} {mg : Str → Option Value} {base : Heap} (T : Tx mg) (kn : Kn K mg "are_newer" s_are_newer ["rows", "other"]) (R_last_term : Rdy P w K mg base 1 "last_term" ["rows"] (spP K F_last_term)) : Rdy P w K mg base 2 "are_newer" ["rows", "other"] (spP K F_are_newer) := by
  refine rdy_of kn sc_are_newer (fun ds z h => ?_) (by decide) (fun f cdv A outer s H E hr ds z h => ?_)
  · obtain ⟨a, b, rfl, rfl⟩ := h
    rfl
  obtain ⟨a, b, rfl, rfl⟩ := h
  refine ⟨_, (pss_one (ps_ret (pe_cmpR (op_gtP (Nat.lt_of_le_of_lt (Nat.le_add_right _ 64) hr.units)) (pe_tup (pa_cons (pe_fn R_last_term (hr.mono (by decide)) (by rfl) (pa_cons (pv 0) pa_nil)) (pa_cons (pe_callB call_len_seq (by rfl) T.b_len bt_len (pa_cons (pv 0) pa_nil)) pa_nil))) (pe_tup (pa_cons (pe_fn R_last_term (hr.mono (by decide)) (by rfl) (pa_cons (pv 1) pa_nil)) (pa_cons (pe_callB call_len_seq (by rfl) T.b_len bt_len (pa_cons (pv 1) pa_nil)) pa_nil))) (by first | rfl | exact nomark _)))), ?_⟩
  exact es_retE (ev_op (ev_tup (ev_cons (ev_call (ev_cons (ev_var rfl) ev_nil) I_last_term) (ev_cons (ev_cb (ev_cons (ev_var rfl) ev_nil) (by first | exact rc_lenT | exact rc_lenL)) ev_nil)) (Nat.le_of_ble_eq_true rfl)) (ev_tup (ev_cons (ev_call (ev_cons (ev_var rfl) ev_nil) I_last_term) (ev_cons (ev_cb (ev_cons (ev_var rfl) ev_nil) (by first | exact rc_lenT | exact rc_lenL)) ev_nil)) (Nat.le_of_ble_eq_true rfl)) rd_gtP) (by rw [List.length_map, List.length_map, gtP_newer])

abbrev s_begun_state : Stmt := top 20
abbrev N_begun_state : List Str := ["many"]
theorem sc_begun_state : FnScope N_begun_state ["many"] (defScope s_begun_state) := ⟨rfl, rfl, rfl, by decide +kernel, rfl, by decide +kernel, by decide +kernel⟩


def F_begun_state : List PyData → PyData → Prop := fun ds z => ∃ (many : Nat), (2 ≤ many) ∧ (many ≤ 5) ∧ ds = [.int many] ∧ z = encSt (init many)
theorem I_begun_state {many : Nat} (p0 : 2 ≤ many) (p1 : many ≤ 5) : F_begun_state [.int many] (encSt (init many)) := ⟨many, p0, p1, rfl, rfl⟩
theorem R_begun_state {P : Program} {w : World} {K : PySem.W.Frag} {mg : Str → Option Value} {base : Heap} (T : Tx mg) (kn : Kn K mg "begun_state" s_begun_state ["many"]) : Rdy P w K mg base 1 "begun_state" ["many"] (spP K F_begun_state) := by
  refine rdy_of kn sc_begun_state (fun ds z h => ?_) (by decide) (fun f cdv A outer s H E hr ds z h => ?_)
  · obtain ⟨many, p0, p1, rfl, rfl⟩ := h
    rfl
  obtain ⟨many, p0, p1, rfl, rfl⟩ := h
  refine ⟨_, (pss_one (ps_ret (pe_tup (pa_cons (pe_op op_repT (pe_tup (pa_cons (pe_tup (pa_cons pe_bl (pa_cons pe_int (pa_cons (pe_tup pa_nil) pa_nil)))) pa_nil)) (pv 0)) (pa_cons pe_non (pa_cons pe_int pa_nil)))))), ?_⟩
  exact es_retE (ev_tup (ev_cons (ev_op (ev_tup (ev_cons (ev_tup (ev_cons ev_bl (ev_cons ev_int (ev_cons (ev_tup ev_nil (Nat.le_of_ble_eq_true rfl)) ev_nil))) (Nat.le_of_ble_eq_true rfl)) ev_nil) (Nat.le_of_ble_eq_true rfl)) (ev_var rfl) (rd_rep (by decide) (by omega) (by omega) (by decide))) (ev_cons ev_non (ev_cons ev_int ev_nil))) (Nat.le_of_ble_eq_true rfl)) (by simp [encSt, init, encO, encCp, encRows])

abbrev s_with_copy : Stmt := top 21
abbrev N_with_copy : List Str := ["copies", "number", "fresh"]
theorem sc_with_copy : FnScope N_with_copy ["copies", "number", "fresh"] (defScope s_with_copy) := ⟨rfl, rfl, rfl, by decide +kernel, rfl, by decide +kernel, by decide +kernel⟩


def F_with_copy : List PyData → PyData → Prop := fun ds z => ∃ (cs : List Cp) (i : Nat) (c : Cp), (i < cs.length) ∧ (cs.length ≤ 5) ∧ ds = [.tuple (cs.map encCp), .int i, encCp c] ∧ z = .tuple ((cs.set i c).map encCp)
theorem I_with_copy {cs : List Cp} {i : Nat} {c : Cp} (p0 : i < cs.length) (p1 : cs.length ≤ 5) : F_with_copy [.tuple (cs.map encCp), .int i, encCp c] (.tuple ((cs.set i c).map encCp)) := ⟨cs, i, c, p0, p1, rfl, rfl⟩
theorem R_with_copy {P : Program} {w : World} {K : PySem.W.Frag} {mg : Str → Option Value} {base : Heap} (T : Tx mg) (kn : Kn K mg "with_copy" s_with_copy ["copies", "number", "fresh"]) : Rdy P w K mg base 1 "with_copy" ["copies", "number", "fresh"] (spP K F_with_copy) := by
  refine rdy_of kn sc_with_copy (fun ds z h => ?_) (by decide) (fun f cdv A outer s H E hr ds z h => ?_)
  · obtain ⟨cs, i, c, p0, p1, rfl, rfl⟩ := h
    rfl
  obtain ⟨cs, i, c, p0, p1, rfl, rfl⟩ := h
  refine ⟨_, (pss_one (ps_ret (pe_tup (StX.pa_star (pe_slice sl_tupA (pv 0) po_none (po_some (pv 1))) (pa_cons (pv 2) (StX.pa_star (pe_slice sl_tupA (pv 0) (po_some (pe_op op_add (pv 1) pe_int)) po_none) pa_nil)))))), ?_⟩
  have e1 : ((i : Nat) : Int) + 1 = ((i + 1 : Nat) : Int) := rfl
  refine es_retE (ev_tup (ev_star (ev_slT (ev_var rfl) ev_none (ev_part (ev_var rfl))) (ev_cons (ev_var rfl) (ev_star (ev_slT (ev_var rfl) (ev_part (ev_op (ev_var rfl) ev_int rd_add)) ev_none) ev_nil))) ?_) ?_
  · rw [e1, cutD_to, cutD_from]
    exact Nat.le_trans (m := 20) (by simp; omega) (by decide)
  · rw [e1, cutD_to, cutD_from, List.append_nil, set_cut _ (by simpa using p0), List.map_set]

abbrev s_is_event : Stmt := top 7
abbrev N_is_event : List Str := ["value", "path", "one"]
theorem sc_is_event : FnScope N_is_event ["value"] (defScope s_is_event) := ⟨rfl, rfl, rfl, by decide +kernel, rfl, by decide +kernel, by decide +kernel⟩

theorem evOk_path {a b n : Nat} {g : Bool} (h : evOk (.ans a b g n) = true) : a ≤ 9 ∧ b ≤ 9 ∧ n ≤ 1000000006 := by
  simp only [evOk, Bool.and_eq_true, decide_eq_true_iff] at h
  exact ⟨h.1.1, h.1.2, h.2⟩

def F_is_event : List PyData → PyData → Prop := fun ds z => ∃ (e : Ev), (evOk e = true) ∧ ds = [encEv e] ∧ z = .bool true
theorem I_is_event {e : Ev} (p0 : evOk e = true) : F_is_event [encEv e] (.bool true) := ⟨e, p0, rfl, rfl⟩
theorem R_is_event {P : Program} {w : World} {K : PySem.W.Frag} {mg : Str → Option Value} {base : Heap} (T : Tx mg) (kn : Kn K mg "is_event" s_is_event ["value"]) (R_is_between : Rdy P w K mg base 1 "is_between" ["value", "low", "high"] (spP K F_is_between)) : Rdy P w K mg base 2 "is_event" ["value"] (spP K F_is_event) := by
  obtain ⟨_, c_LAST⟩ := T.k_LAST
  refine rdy_of kn sc_is_event (fun ds z h => ?_) (by decide) (fun f cdv A outer s H E hr ds z h => ?_)
  · obtain ⟨e, p0, rfl, rfl⟩ := h
    rfl
  obtain ⟨e, p0, rfl, rfl⟩ := h
  refine ⟨_, (pss_cons (ps_if (pt_cmpR (op_eqD hr.units) (pv 0) (pe_tup (pa_cons pe_str pa_nil)) (by first | rfl | exact nomark _)) (pss_one (ps_ret pe_bl)) pss_nil) (pss_cons (ps_if (PW.pt (pw_or (pt_not (pt_val (pe_callB call_isi (by rfl) T.b_isinstance bt_isinstance (pa_cons (pv 0) (pa_cons (pe_bltn (v := .ty "tuple") (by rfl) T.b_tuple bt_tuple rfl) pa_nil))))) (pw_or (pt_cmpR (op_neD hr.units) (pe_callB call_len_seq (by rfl) T.b_len bt_len (pa_cons (pv 0) pa_nil)) pe_int (by first | rfl | exact nomark _)) (pw_or1 (pt_cmpR (op_neD hr.units) (pe_ix ix_tup (pv 0) pe_int (fun _ _ => rfl)) pe_str (by first | rfl | exact nomark _)))))) (pss_one (ps_ret pe_bl)) pss_nil) (pss_cons (ps_set (i := 1) sc_is_event.nd rfl (by first | exact Or.inl rfl | exact Or.inr rfl) (pe_ix ix_tup (pv 0) pe_int (fun _ _ => rfl))) (pss_cons (ps_if (PW.pt (pw_or (pt_not (pt_val (pe_callB call_isi (by rfl) T.b_isinstance bt_isinstance (pa_cons (pv 1) (pa_cons (pe_bltn (v := .ty "tuple") (by rfl) T.b_tuple bt_tuple rfl) pa_nil))))) (pw_or (pt_cmpR op_gt (pe_callB call_len_seq (by rfl) T.b_len bt_len (pa_cons (pv 1) pa_nil)) pe_int (by first | rfl | exact nomark _)) (pw_or1 (pt_not (pt_val (pe_callB call_isi (by rfl) T.b_isinstance bt_isinstance (pa_cons (pe_ix ix_tup (pv 0) pe_int (fun _ _ => rfl)) (pa_cons (pe_bltn (v := .ty "bool") (by rfl) T.b_bool bt_bool rfl) pa_nil))))))))) (pss_one (ps_ret pe_bl)) pss_nil) (pss_one (ps_ret (pe_and (pe_callB (cr_all rfl) (by rfl) T.b_all bt_all (pa_cons (pe_lc (own := [("one", 2)]) (g := (gName 2)) (tt := tYes) (te := (tCall (spP K F_is_between) [] E0 (tCons (tVar 2) (tCons (tC (.int 0)) (tCons (tC (.int 9)) tNil))))) rfl sc_is_event.nd (pi_tup (pv 1)) (blkOk_by (N := N_is_event) (sc := defScope s_is_event) (by decide +kernel)) (fun _ _ _ _ _ => by exact (pg_name (i := 2) sc_is_event.nd rfl (by first | exact Or.inl rfl | exact Or.inr rfl))) (fun _ _ _ _ _ => by exact pts_nil) (fun _ _ _ _ _ => by exact (pe_fn R_is_between (hr.mono (by decide)) (by rfl) (pa_cons (pv 2) (pa_cons pe_int (pa_cons pe_int pa_nil)))))) pa_nil)) (pe_one (pe_fn R_is_between (hr.mono (by decide)) (by rfl) (pa_cons (pe_ix ix_tup (pv 0) pe_int (fun _ _ => rfl)) (pa_cons pe_int (pa_cons (pe_glob (v := .int 1000000006) rfl c_LAST ⟨_, rfl⟩) pa_nil)))))))))))), ?_⟩
  cases e with
  | off => exact es_ifS (ev_test (ev_op (ev_var rfl) (ev_tup (ev_cons ev_str ev_nil) (Nat.le_of_ble_eq_true rfl)) (rd_eq (by first | rfl | exact sh_rows _ | exact sh_ev _ | exact sh_dd _ | decide +kernel) (by first | rfl | exact sh_rows _ | exact sh_ev _ | exact sh_dd _ | decide +kernel)))) (fun _ => es_rt (es_ret ev_bl)) (fun h => absurd h (by first | (simp [encDd, encEv, PyData.eqv, PyData.eqvAll]; done) | (simp [encDd, encEv, PyData.eqv, PyData.eqvAll]; decide +kernel)))
  | ans a b g n =>
    obtain ⟨ha, hb, hn⟩ := evOk_path p0
    refine es_ifS (ev_test (ev_op (ev_var rfl) (ev_tup (ev_cons ev_str ev_nil) (Nat.le_of_ble_eq_true rfl)) (rd_eq (by first | rfl | exact sh_rows _ | exact sh_ev _ | exact sh_dd _ | decide +kernel) (by first | rfl | exact sh_rows _ | exact sh_ev _ | exact sh_dd _ | decide +kernel)))) (fun h => absurd h (by first | (simp [encDd, encEv, PyData.eqv, PyData.eqvAll]; done) | (simp [encDd, encEv, PyData.eqv, PyData.eqvAll]; decide +kernel))) fun _ => es_nxS ?_
    refine es_ifS (ev_orT (ev_notT (ev_tB (ev_isi (ev_var rfl) (by first | exact kit_int_tuple | exact kit_tuple_tuple | exact kit_str_tuple | exact kit_bool_tuple | exact kit_list_tuple | exact kit_none_tuple)))) (fun _ => (ev_orT (ev_test (ev_op (ev_cb (ev_cons (ev_var rfl) ev_nil) (by first | exact rc_lenT | exact rc_lenL)) ev_int (rd_ne (by first | rfl | exact sh_rows _ | exact sh_ev _ | exact sh_dd _ | decide +kernel) (by first | rfl | exact sh_rows _ | exact sh_ev _ | exact sh_dd _ | decide +kernel)))) (fun _ => (ev_test (ev_op (ev_op (ev_var rfl) ev_int (by first | exact rd_ixT rfl | exact rd_ixL rfl)) ev_str (rd_ne (by first | rfl | exact sh_rows _ | exact sh_ev _ | exact sh_dd _ | decide +kernel) (by first | rfl | exact sh_rows _ | exact sh_ev _ | exact sh_dd _ | decide +kernel)))))))) (fun h => absurd h (by first | (simp [encDd, encEv, PyData.eqv, PyData.eqvAll]; done) | (simp [encDd, encEv, PyData.eqv, PyData.eqvAll]; decide +kernel))) fun _ => es_nxS ?_
    refine es_seq (es_set (ev_op (ev_var rfl) ev_int (by first | exact rd_ixT rfl | exact rd_ixL rfl))) ?_
    refine es_ifS (ev_orT (ev_notT (ev_tB (ev_isi (ev_var rfl) (by first | exact kit_int_tuple | exact kit_tuple_tuple | exact kit_str_tuple | exact kit_bool_tuple | exact kit_list_tuple | exact kit_none_tuple)))) (fun _ => (ev_orT (ev_test (ev_op (ev_cb (ev_cons (ev_var rfl) ev_nil) (by first | exact rc_lenT | exact rc_lenL)) ev_int rd_gt)) (fun _ => (ev_notT (ev_tB (ev_isi (ev_op (ev_var rfl) ev_int (by first | exact rd_ixT rfl | exact rd_ixL rfl)) (by first | exact kit_int_bool | exact kit_tuple_bool | exact kit_str_bool | exact kit_bool_bool | exact kit_list_bool | exact kit_none_bool)))))))) (fun h => absurd h (by first | (simp [encDd, encEv, PyData.eqv, PyData.eqvAll]; done) | (simp [encDd, encEv, PyData.eqv, PyData.eqvAll]; decide +kernel))) fun _ => es_nxS ?_
    refine es_retE (ev_andB (ev_cb (ev_cons (ev_lc (ei_tup (ev_var rfl)) (.yes eg_name (by simp) et_yes (ev_call (ev_cons (ev_var rfl) (ev_cons ev_int (ev_cons ev_int ev_nil))) I_is_between) (.yes eg_name (by simp) et_yes (ev_call (ev_cons (ev_var rfl) (ev_cons ev_int (ev_cons ev_int ev_nil))) I_is_between) .nil)) (Nat.le_of_ble_eq_true rfl)) ev_nil) (rc_all (bs := [_, _]))) fun _ => ev_call (ev_cons (ev_op (ev_var rfl) ev_int (rd_ixT rfl)) (ev_cons ev_int (ev_cons ev_int ev_nil))) I_is_between) ?_
    simp
    omega

abbrev s_is_rising_numbers : Stmt := top 15
abbrev N_is_rising_numbers : List Str := ["value", "high", "number", "one", "other"]
theorem sc_is_rising_numbers : FnScope N_is_rising_numbers ["value", "high"] (defScope s_is_rising_numbers) := ⟨rfl, rfl, rfl, by decide +kernel, rfl, by decide +kernel, by decide +kernel⟩

theorem zp_nats (vs : List Nat) : zpD (nats vs) ((nats vs).drop 1) = (vs.zip (vs.drop 1)).map fun p => .tuple [.int (p.1 : Nat), .int (p.2 : Nat)] := by
  unfold zpD nats
  rw [← List.map_drop, List.zipWith_map, List.zip, List.map_zipWith]
theorem rising_zip : ∀ vs : List Nat, ((vs.zip (vs.drop 1)).map fun p => decide ((p.1 : Int) < (p.2 : Int))).all id = rising vs
  | [] => rfl
  | [_] => rfl
  | a :: b :: r => by
    have ih := rising_zip (b :: r)
    simp only [List.drop_succ_cons, List.drop_zero, List.zip_cons_cons, List.map_cons, List.all_cons, rising] at ih ⊢
    rw [ih]
    simp

def F_is_rising_numbers : List PyData → PyData → Prop := fun ds z => ∃ (vs : List Nat) (hi : Nat), (vs.length ≤ 10) ∧ ds = [.tuple (nats vs), .int hi] ∧ z = .bool (vs.all (fun v => decide (v ≤ hi)) && rising vs)
theorem I_is_rising_numbers {vs : List Nat} {hi : Nat} (p0 : vs.length ≤ 10) : F_is_rising_numbers [.tuple (nats vs), .int hi] (.bool (vs.all (fun v => decide (v ≤ hi)) && rising vs)) := ⟨vs, hi, p0, rfl, rfl⟩
theorem R_is_rising_numbers {P : Program} {w : World} {K : PySem.W.Frag} {mg : Str → Option Value} {base : Heap} (T : Tx mg) (kn : Kn K mg "is_rising_numbers" s_is_rising_numbers ["value", "high"]) (R_is_from_to : Rdy P w K mg base 1 "is_from_to" ["value", "low", "high"] (spP K F_is_from_to)) : Rdy P w K mg base 2 "is_rising_numbers" ["value", "high"] (spP K F_is_rising_numbers) := by
  refine rdy_of kn sc_is_rising_numbers (fun ds z h => ?_) (by decide) (fun f cdv A outer s H E hr ds z h => ?_)
  · obtain ⟨vs, hi, p0, rfl, rfl⟩ := h
    rfl
  obtain ⟨vs, hi, p0, rfl, rfl⟩ := h
  refine ⟨_, (pss_cons (ps_if (PW.pt (pw_or (pt_not (pt_val (pe_callB call_isi (by rfl) T.b_isinstance bt_isinstance (pa_cons (pv 0) (pa_cons (pe_bltn (v := .ty "tuple") (by rfl) T.b_tuple bt_tuple rfl) pa_nil))))) (pw_or1 (pt_not (pt_val (pe_callB (cr_all rfl) (by rfl) T.b_all bt_all (pa_cons (pe_lc (own := [("number", 2)]) (g := (gName 2)) (tt := tYes) (te := (tCall (spP K F_is_from_to) [] E0 (tCons (tVar 2) (tCons (tC (.int 0)) (tCons (tVar 1) tNil))))) rfl sc_is_rising_numbers.nd (pi_tup (pv 0)) (blkOk_by (N := N_is_rising_numbers) (sc := defScope s_is_rising_numbers) (by decide +kernel)) (fun _ _ _ _ _ => by exact (pg_name (i := 2) sc_is_rising_numbers.nd rfl (by first | exact Or.inl rfl | exact Or.inr rfl))) (fun _ _ _ _ _ => by exact pts_nil) (fun _ _ _ _ _ => by exact (pe_fn R_is_from_to (hr.mono (by decide)) (by rfl) (pa_cons (pv 2) (pa_cons pe_int (pa_cons (pv 1) pa_nil)))))) pa_nil))))))) (pss_one (ps_ret pe_bl)) pss_nil) (pss_one (ps_ret (pe_callB (cr_all rfl) (by rfl) T.b_all bt_all (pa_cons (pe_lc (own := [("one", 3), ("other", 4)]) (g := (gTup K 2 (gCons (gName 3) (gCons (gName 4) gNil)))) (tt := tYes) (te := (tOp _ (tVar 3) (tVar 4))) rfl sc_is_rising_numbers.nd (RZ.pi_zipA (by rfl) T.b_zip (pa_cons (pv 0) (pa_cons (pe_slice sl_tupA (pv 0) (po_some pe_int) po_none) pa_nil))) (blkOk_by (N := N_is_rising_numbers) (sc := defScope s_is_rising_numbers) (by decide +kernel)) (fun _ _ _ _ _ => by exact (pg_tup (by rfl) (pgs_cons (pg_name (i := 3) sc_is_rising_numbers.nd rfl (by first | exact Or.inl rfl | exact Or.inr rfl)) (pgs_cons (pg_name (i := 4) sc_is_rising_numbers.nd rfl (by first | exact Or.inl rfl | exact Or.inr rfl)) pgs_nil)))) (fun _ _ _ _ _ => by exact pts_nil) (fun _ _ _ _ _ => by exact (pe_cmpR op_lt (pv 3) (pv 4) (by first | rfl | exact nomark _)))) pa_nil))))), ?_⟩
  have sz : (nats vs).length ≤ sizeLine := Nat.le_trans (m := 20) (by simp [nats]; omega) (by decide)
  have e2 : ((vs.map fun v => (decide ((0 : Int) ≤ (v : Nat)) && decide (((v : Nat) : Int) ≤ (hi : Nat)))).all id) = vs.all fun v => decide (v ≤ hi) := by
    rw [List.all_map]
    congr 1
    funext v
    simp
  refine es_ifS (b := !true || !(vs.all fun v => decide (v ≤ hi))) (ev_orT (ev_notT (ev_tB (ev_isi (ev_var rfl) kit_tuple_tuple))) fun _ => ev_notT (ev_tB ?_)) (fun h => ?_) fun h => es_nxS ?_
  · exact ev_eqd (ev_cb (ev_cons (ev_eqd (ev_lc (ei_tup (ev_var rfl)) (lr_map (c := fun v : Nat => .int (v : Nat)) (by simp) vs fun v _ => ⟨eg_name, ev_call (ev_cons (ev_var rfl) (ev_cons ev_int (ev_cons (ev_var rfl) ev_nil))) I_is_from_to⟩) sz) (congrArg PyData.list List.map_map.symm)) ev_nil) rc_all) (congrArg PyData.bool e2)
  · have h' : (vs.all fun v => decide (v ≤ hi)) = false := by simpa using h
    rw [h', Bool.false_and]
    exact es_rt (es_ret ev_bl)
  · have h' : (vs.all fun v => decide (v ≤ hi)) = true := by simpa using h
    rw [h', Bool.true_and, ← rising_zip]
    have sz2 : ((vs.zip (vs.drop 1)).map fun p => PyData.tuple [.int (p.1 : Nat), .int (p.2 : Nat)]).length ≤ sizeLine := Nat.le_trans (m := 20) (by simp; omega) (by decide)
    refine es_ret (ev_cb (ev_cons (ev_eqd (ev_lc ?_ (lr_map (c := fun p : Nat × Nat => PyData.tuple [.int (p.1 : Nat), .int (p.2 : Nat)]) (by simp) (vs.zip (vs.drop 1)) fun p _ => ⟨eg_tup (eg_cons eg_name (eg_cons eg_name eg_nil)) rfl, ev_op (ev_var rfl) (ev_var rfl) rd_lt⟩) sz2) (congrArg PyData.list List.map_map.symm)) ev_nil) rc_all)
    rw [← zp_nats]
    exact ei_zpT (ev_cons (ev_var rfl) (ev_cons (ev_eqd (ev_slT (ev_var rfl) (ev_part ev_int) ev_none) (congrArg PyData.tuple (cutD_from _ 1))) ev_nil))

end KD

/-! KF3: forms of deeds, rows of copies. -/
namespace KD
open PySem L2 PySem.Spec PyProof.Rows K27
theorem dec_4 (i : Nat) : decide ((i : Int) ≤ 4) = decide (i ≤ 4) := by
  by_cases h : i ≤ 4
  · rw [decide_eq_true h]; exact decide_eq_true (by omega)
  · rw [decide_eq_false h]; exact decide_eq_false (by omega)
def fit : Dd → Prop
  | .elect _ vs => vs.length ≤ 10
  | .append e => evOk e = true
  | _ => True

abbrev s_is_deed_form : Stmt := top 16
abbrev N_is_deed_form : List Str := ["value"]
theorem sc_is_deed_form : FnScope N_is_deed_form ["value"] (defScope s_is_deed_form) := ⟨rfl, rfl, rfl, by decide +kernel, rfl, by decide +kernel, by decide +kernel⟩


def F_is_deed_form : List PyData → PyData → Prop := fun ds z => ∃ (d : Dd), (fit d) ∧ ds = [encDd d] ∧ z = .bool (form d)
theorem I_is_deed_form {d : Dd} (p0 : fit d) : F_is_deed_form [encDd d] (.bool (form d)) := ⟨d, p0, rfl, rfl⟩
theorem R_is_deed_form {P : Program} {w : World} {K : PySem.W.Frag} {mg : Str → Option Value} {base : Heap} (T : Tx mg) (kn : Kn K mg "is_deed_form" s_is_deed_form ["value"]) (R_is_from_to : Rdy P w K mg base 1 "is_from_to" ["value", "low", "high"] (spP K F_is_from_to)) (R_is_event : Rdy P w K mg base 2 "is_event" ["value"] (spP K F_is_event)) (R_is_rising_numbers : Rdy P w K mg base 2 "is_rising_numbers" ["value", "high"] (spP K F_is_rising_numbers)) : Rdy P w K mg base 3 "is_deed_form" ["value"] (spP K F_is_deed_form) := by
  obtain ⟨_, c_LAST_COPY⟩ := T.k_LAST_COPY
  obtain ⟨_, c_MOST_DEEDS⟩ := T.k_MOST_DEEDS
  refine rdy_of kn sc_is_deed_form (fun ds z h => ?_) (by decide) (fun f cdv A outer s H E hr ds z h => ?_)
  · obtain ⟨d, p0, rfl, rfl⟩ := h
    rfl
  obtain ⟨d, p0, rfl, rfl⟩ := h
  refine ⟨_, (pss_cons (ps_if (PW.pt (pw_or (pt_not (pt_val (pe_callB call_isi (by rfl) T.b_isinstance bt_isinstance (pa_cons (pv 0) (pa_cons (pe_bltn (v := .ty "tuple") (by rfl) T.b_tuple bt_tuple rfl) pa_nil))))) (pw_or (pt_cmpR (op_eqD hr.units) (pv 0) (pe_tup pa_nil) (by first | rfl | exact nomark _)) (pw_or1 (pt_not (pt_val (pe_callB call_isi (by rfl) T.b_isinstance bt_isinstance (pa_cons (pe_ix ix_tup (pv 0) pe_int (fun _ _ => rfl)) (pa_cons (pe_bltn (v := .ty "str") (by rfl) T.b_str bt_str rfl) pa_nil))))))))) (pss_one (ps_ret pe_bl)) pss_nil) (pss_cons (ps_if (pt_cmpR (op_eqD hr.units) (pe_ix ix_tup (pv 0) pe_int (fun _ _ => rfl)) pe_str (by first | rfl | exact nomark _)) (pss_one (ps_ret (pe_and (pe_cmpR (op_eqD hr.units) (pe_callB call_len_seq (by rfl) T.b_len bt_len (pa_cons (pv 0) pa_nil)) pe_int (by first | rfl | exact nomark _)) (pe_and (pe_fn R_is_from_to (hr.mono (by decide)) (by rfl) (pa_cons (pe_ix ix_tup (pv 0) pe_int (fun _ _ => rfl)) (pa_cons pe_int (pa_cons (pe_glob (v := .int 4) rfl c_LAST_COPY ⟨_, rfl⟩) pa_nil)))) (pe_one (pe_fn R_is_rising_numbers (hr.mono (by decide)) (by rfl) (pa_cons (pe_ix ix_tup (pv 0) pe_int (fun _ _ => rfl)) (pa_cons (pe_glob (v := .int 4) rfl c_LAST_COPY ⟨_, rfl⟩) pa_nil)))))))) pss_nil) (pss_cons (ps_if (pt_cmpR (op_neD hr.units) (pe_callB call_len_seq (by rfl) T.b_len bt_len (pa_cons (pv 0) pa_nil)) pe_int (by first | rfl | exact nomark _)) (pss_one (ps_ret pe_bl)) pss_nil) (pss_cons (ps_if (pt_cmpR (op_eqD hr.units) (pe_ix ix_tup (pv 0) pe_int (fun _ _ => rfl)) pe_str (by first | rfl | exact nomark _)) (pss_one (ps_ret (pe_fn R_is_event (hr.mono (by decide)) (by rfl) (pa_cons (pe_ix ix_tup (pv 0) pe_int (fun _ _ => rfl)) pa_nil)))) pss_nil) (pss_cons (ps_if (pt_cmpR (op_eqD hr.units) (pe_ix ix_tup (pv 0) pe_int (fun _ _ => rfl)) pe_str (by first | rfl | exact nomark _)) (pss_one (ps_ret (pe_fn R_is_from_to (hr.mono (by decide)) (by rfl) (pa_cons (pe_ix ix_tup (pv 0) pe_int (fun _ _ => rfl)) (pa_cons pe_int (pa_cons (pe_glob (v := .int 400) rfl c_MOST_DEEDS ⟨_, rfl⟩) pa_nil)))))) pss_nil) (pss_one (ps_ret (pe_and (pe_cmpR op_in_seq (pe_ix ix_tup (pv 0) pe_int (fun _ _ => rfl)) (pe_tup (pa_cons pe_str (pa_cons pe_str (pa_cons pe_str pa_nil)))) (by first | rfl | exact nomark _)) (pe_one (pe_fn R_is_from_to (hr.mono (by decide)) (by rfl) (pa_cons (pe_ix ix_tup (pv 0) pe_int (fun _ _ => rfl)) (pa_cons pe_int (pa_cons (pe_glob (v := .int 4) rfl c_LAST_COPY ⟨_, rfl⟩) pa_nil))))))))))))), ?_⟩
  cases d with
  | elect i vs =>
    refine es_ifS (ev_orT (ev_notT (ev_tB (ev_isi (ev_var rfl) (by first | exact kit_int_tuple | exact kit_tuple_tuple | exact kit_str_tuple | exact kit_bool_tuple | exact kit_list_tuple | exact kit_none_tuple)))) (fun _ => (ev_orT (ev_test (ev_op (ev_var rfl) (ev_tup ev_nil (Nat.le_of_ble_eq_true rfl)) (rd_eq (by first | rfl | exact sh_rows _ | exact sh_ev _ | exact sh_dd _ | decide +kernel) (by first | rfl | exact sh_rows _ | exact sh_ev _ | exact sh_dd _ | decide +kernel)))) (fun _ => (ev_notT (ev_tB (ev_isi (ev_op (ev_var rfl) ev_int (by first | exact rd_ixT rfl | exact rd_ixL rfl)) (by first | exact kit_int_str | exact kit_tuple_str | exact kit_str_str | exact kit_bool_str | exact kit_list_str | exact kit_none_str)))))))) (fun h => absurd h (by first | (simp [encDd, encEv, PyData.eqv, PyData.eqvAll]; done) | (simp [encDd, encEv, PyData.eqv, PyData.eqvAll]; decide +kernel))) fun _ => es_nxS ?_
    refine es_ifS (ev_test (ev_op (ev_op (ev_var rfl) ev_int (by first | exact rd_ixT rfl | exact rd_ixL rfl)) ev_str (rd_eq (by first | rfl | exact sh_rows _ | exact sh_ev _ | exact sh_dd _ | decide +kernel) (by first | rfl | exact sh_rows _ | exact sh_ev _ | exact sh_dd _ | decide +kernel)))) (fun _ => es_rt (es_retE (ev_andB (ev_op (ev_cb (ev_cons (ev_var rfl) ev_nil) (by first | exact rc_lenT | exact rc_lenL)) ev_int (rd_eq (by first | rfl | exact sh_rows _ | exact sh_ev _ | exact sh_dd _ | decide +kernel) (by first | rfl | exact sh_rows _ | exact sh_ev _ | exact sh_dd _ | decide +kernel))) (fun _ => (ev_andB (ev_call (ev_cons (ev_op (ev_var rfl) ev_int (by first | exact rd_ixT rfl | exact rd_ixL rfl)) (ev_cons ev_int (ev_cons ev_int ev_nil))) I_is_from_to) (fun _ => (ev_call (ev_cons (ev_op (ev_var rfl) ev_int (by first | exact rd_ixT rfl | exact rd_ixL rfl)) (ev_cons ev_int ev_nil)) (I_is_rising_numbers p0)))))) ?_)) (fun h => absurd h (by first | (simp [encDd, encEv, PyData.eqv, PyData.eqvAll]; done) | (simp [encDd, encEv, PyData.eqv, PyData.eqvAll]; decide +kernel)))
    simp [form, PyData.eqv, dec_4, Bool.and_assoc]
  | append e =>
    refine es_ifS (ev_orT (ev_notT (ev_tB (ev_isi (ev_var rfl) (by first | exact kit_int_tuple | exact kit_tuple_tuple | exact kit_str_tuple | exact kit_bool_tuple | exact kit_list_tuple | exact kit_none_tuple)))) (fun _ => (ev_orT (ev_test (ev_op (ev_var rfl) (ev_tup ev_nil (Nat.le_of_ble_eq_true rfl)) (rd_eq (by first | rfl | exact sh_rows _ | exact sh_ev _ | exact sh_dd _ | decide +kernel) (by first | rfl | exact sh_rows _ | exact sh_ev _ | exact sh_dd _ | decide +kernel)))) (fun _ => (ev_notT (ev_tB (ev_isi (ev_op (ev_var rfl) ev_int (by first | exact rd_ixT rfl | exact rd_ixL rfl)) (by first | exact kit_int_str | exact kit_tuple_str | exact kit_str_str | exact kit_bool_str | exact kit_list_str | exact kit_none_str)))))))) (fun h => absurd h (by first | (simp [encDd, encEv, PyData.eqv, PyData.eqvAll]; done) | (simp [encDd, encEv, PyData.eqv, PyData.eqvAll]; decide +kernel))) fun _ => es_nxS ?_
    refine es_ifS (ev_test (ev_op (ev_op (ev_var rfl) ev_int (by first | exact rd_ixT rfl | exact rd_ixL rfl)) ev_str (rd_eq (by first | rfl | exact sh_rows _ | exact sh_ev _ | exact sh_dd _ | decide +kernel) (by first | rfl | exact sh_rows _ | exact sh_ev _ | exact sh_dd _ | decide +kernel)))) (fun h => absurd h (by first | (simp [encDd, encEv, PyData.eqv, PyData.eqvAll]; done) | (simp [encDd, encEv, PyData.eqv, PyData.eqvAll]; decide +kernel))) fun _ => es_nxS ?_
    refine es_ifS (ev_test (ev_op (ev_cb (ev_cons (ev_var rfl) ev_nil) (by first | exact rc_lenT | exact rc_lenL)) ev_int (rd_ne (by first | rfl | exact sh_rows _ | exact sh_ev _ | exact sh_dd _ | decide +kernel) (by first | rfl | exact sh_rows _ | exact sh_ev _ | exact sh_dd _ | decide +kernel)))) (fun h => absurd h (by first | (simp [encDd, encEv, PyData.eqv, PyData.eqvAll]; done) | (simp [encDd, encEv, PyData.eqv, PyData.eqvAll]; decide +kernel))) fun _ => es_nxS ?_
    exact es_ifS (ev_test (ev_op (ev_op (ev_var rfl) ev_int (by first | exact rd_ixT rfl | exact rd_ixL rfl)) ev_str (rd_eq (by first | rfl | exact sh_rows _ | exact sh_ev _ | exact sh_dd _ | decide +kernel) (by first | rfl | exact sh_rows _ | exact sh_ev _ | exact sh_dd _ | decide +kernel)))) (fun _ => es_rt (es_retE (ev_call (ev_cons (ev_op (ev_var rfl) ev_int (by first | exact rd_ixT rfl | exact rd_ixL rfl)) ev_nil) (I_is_event p0)) (congrArg PyData.bool (show true = evOk e from p0.symm)))) (fun h => absurd h (by first | (simp [encDd, encEv, PyData.eqv, PyData.eqvAll]; done) | (simp [encDd, encEv, PyData.eqv, PyData.eqvAll]; decide +kernel)))
  | copy i =>
    refine es_ifS (ev_orT (ev_notT (ev_tB (ev_isi (ev_var rfl) (by first | exact kit_int_tuple | exact kit_tuple_tuple | exact kit_str_tuple | exact kit_bool_tuple | exact kit_list_tuple | exact kit_none_tuple)))) (fun _ => (ev_orT (ev_test (ev_op (ev_var rfl) (ev_tup ev_nil (Nat.le_of_ble_eq_true rfl)) (rd_eq (by first | rfl | exact sh_rows _ | exact sh_ev _ | exact sh_dd _ | decide +kernel) (by first | rfl | exact sh_rows _ | exact sh_ev _ | exact sh_dd _ | decide +kernel)))) (fun _ => (ev_notT (ev_tB (ev_isi (ev_op (ev_var rfl) ev_int (by first | exact rd_ixT rfl | exact rd_ixL rfl)) (by first | exact kit_int_str | exact kit_tuple_str | exact kit_str_str | exact kit_bool_str | exact kit_list_str | exact kit_none_str)))))))) (fun h => absurd h (by first | (simp [encDd, encEv, PyData.eqv, PyData.eqvAll]; done) | (simp [encDd, encEv, PyData.eqv, PyData.eqvAll]; decide +kernel))) fun _ => es_nxS ?_
    refine es_ifS (ev_test (ev_op (ev_op (ev_var rfl) ev_int (by first | exact rd_ixT rfl | exact rd_ixL rfl)) ev_str (rd_eq (by first | rfl | exact sh_rows _ | exact sh_ev _ | exact sh_dd _ | decide +kernel) (by first | rfl | exact sh_rows _ | exact sh_ev _ | exact sh_dd _ | decide +kernel)))) (fun h => absurd h (by first | (simp [encDd, encEv, PyData.eqv, PyData.eqvAll]; done) | (simp [encDd, encEv, PyData.eqv, PyData.eqvAll]; decide +kernel))) fun _ => es_nxS ?_
    refine es_ifS (ev_test (ev_op (ev_cb (ev_cons (ev_var rfl) ev_nil) (by first | exact rc_lenT | exact rc_lenL)) ev_int (rd_ne (by first | rfl | exact sh_rows _ | exact sh_ev _ | exact sh_dd _ | decide +kernel) (by first | rfl | exact sh_rows _ | exact sh_ev _ | exact sh_dd _ | decide +kernel)))) (fun h => absurd h (by first | (simp [encDd, encEv, PyData.eqv, PyData.eqvAll]; done) | (simp [encDd, encEv, PyData.eqv, PyData.eqvAll]; decide +kernel))) fun _ => es_nxS ?_
    refine es_ifS (ev_test (ev_op (ev_op (ev_var rfl) ev_int (by first | exact rd_ixT rfl | exact rd_ixL rfl)) ev_str (rd_eq (by first | rfl | exact sh_rows _ | exact sh_ev _ | exact sh_dd _ | decide +kernel) (by first | rfl | exact sh_rows _ | exact sh_ev _ | exact sh_dd _ | decide +kernel)))) (fun h => absurd h (by first | (simp [encDd, encEv, PyData.eqv, PyData.eqvAll]; done) | (simp [encDd, encEv, PyData.eqv, PyData.eqvAll]; decide +kernel))) fun _ => es_nxS ?_
    refine es_ifS (ev_test (ev_op (ev_op (ev_var rfl) ev_int (by first | exact rd_ixT rfl | exact rd_ixL rfl)) ev_str (rd_eq (by first | rfl | exact sh_rows _ | exact sh_ev _ | exact sh_dd _ | decide +kernel) (by first | rfl | exact sh_rows _ | exact sh_ev _ | exact sh_dd _ | decide +kernel)))) (fun h => absurd h (by first | (simp [encDd, encEv, PyData.eqv, PyData.eqvAll]; done) | (simp [encDd, encEv, PyData.eqv, PyData.eqvAll]; decide +kernel))) fun _ => es_nxS ?_
    refine es_retE (ev_andB (ev_op (ev_op (ev_var rfl) ev_int (by first | exact rd_ixT rfl | exact rd_ixL rfl)) (ev_tup (ev_cons ev_str (ev_cons ev_str (ev_cons ev_str ev_nil))) (Nat.le_of_ble_eq_true rfl)) (rd_inS (ns := ["copy", "stop", "start"]))) (fun _ => (ev_call (ev_cons (ev_op (ev_var rfl) ev_int (by first | exact rd_ixT rfl | exact rd_ixL rfl)) (ev_cons ev_int (ev_cons ev_int ev_nil))) I_is_from_to))) ?_
    simp [form]
    all_goals (first | omega | decide +kernel)
  | commit i =>
    refine es_ifS (ev_orT (ev_notT (ev_tB (ev_isi (ev_var rfl) (by first | exact kit_int_tuple | exact kit_tuple_tuple | exact kit_str_tuple | exact kit_bool_tuple | exact kit_list_tuple | exact kit_none_tuple)))) (fun _ => (ev_orT (ev_test (ev_op (ev_var rfl) (ev_tup ev_nil (Nat.le_of_ble_eq_true rfl)) (rd_eq (by first | rfl | exact sh_rows _ | exact sh_ev _ | exact sh_dd _ | decide +kernel) (by first | rfl | exact sh_rows _ | exact sh_ev _ | exact sh_dd _ | decide +kernel)))) (fun _ => (ev_notT (ev_tB (ev_isi (ev_op (ev_var rfl) ev_int (by first | exact rd_ixT rfl | exact rd_ixL rfl)) (by first | exact kit_int_str | exact kit_tuple_str | exact kit_str_str | exact kit_bool_str | exact kit_list_str | exact kit_none_str)))))))) (fun h => absurd h (by first | (simp [encDd, encEv, PyData.eqv, PyData.eqvAll]; done) | (simp [encDd, encEv, PyData.eqv, PyData.eqvAll]; decide +kernel))) fun _ => es_nxS ?_
    refine es_ifS (ev_test (ev_op (ev_op (ev_var rfl) ev_int (by first | exact rd_ixT rfl | exact rd_ixL rfl)) ev_str (rd_eq (by first | rfl | exact sh_rows _ | exact sh_ev _ | exact sh_dd _ | decide +kernel) (by first | rfl | exact sh_rows _ | exact sh_ev _ | exact sh_dd _ | decide +kernel)))) (fun h => absurd h (by first | (simp [encDd, encEv, PyData.eqv, PyData.eqvAll]; done) | (simp [encDd, encEv, PyData.eqv, PyData.eqvAll]; decide +kernel))) fun _ => es_nxS ?_
    refine es_ifS (ev_test (ev_op (ev_cb (ev_cons (ev_var rfl) ev_nil) (by first | exact rc_lenT | exact rc_lenL)) ev_int (rd_ne (by first | rfl | exact sh_rows _ | exact sh_ev _ | exact sh_dd _ | decide +kernel) (by first | rfl | exact sh_rows _ | exact sh_ev _ | exact sh_dd _ | decide +kernel)))) (fun h => absurd h (by first | (simp [encDd, encEv, PyData.eqv, PyData.eqvAll]; done) | (simp [encDd, encEv, PyData.eqv, PyData.eqvAll]; decide +kernel))) fun _ => es_nxS ?_
    refine es_ifS (ev_test (ev_op (ev_op (ev_var rfl) ev_int (by first | exact rd_ixT rfl | exact rd_ixL rfl)) ev_str (rd_eq (by first | rfl | exact sh_rows _ | exact sh_ev _ | exact sh_dd _ | decide +kernel) (by first | rfl | exact sh_rows _ | exact sh_ev _ | exact sh_dd _ | decide +kernel)))) (fun h => absurd h (by first | (simp [encDd, encEv, PyData.eqv, PyData.eqvAll]; done) | (simp [encDd, encEv, PyData.eqv, PyData.eqvAll]; decide +kernel))) fun _ => es_nxS ?_
    refine es_ifS (ev_test (ev_op (ev_op (ev_var rfl) ev_int (by first | exact rd_ixT rfl | exact rd_ixL rfl)) ev_str (rd_eq (by first | rfl | exact sh_rows _ | exact sh_ev _ | exact sh_dd _ | decide +kernel) (by first | rfl | exact sh_rows _ | exact sh_ev _ | exact sh_dd _ | decide +kernel)))) (fun _ => es_rt (es_retE (ev_call (ev_cons (ev_op (ev_var rfl) ev_int (by first | exact rd_ixT rfl | exact rd_ixL rfl)) (ev_cons ev_int (ev_cons ev_int ev_nil))) I_is_from_to) ?_)) (fun h => absurd h (by first | (simp [encDd, encEv, PyData.eqv, PyData.eqvAll]; done) | (simp [encDd, encEv, PyData.eqv, PyData.eqvAll]; decide +kernel)))
    simp only [form]
    congr 2
    · simp; omega
    · simp; omega
  | stop i =>
    refine es_ifS (ev_orT (ev_notT (ev_tB (ev_isi (ev_var rfl) (by first | exact kit_int_tuple | exact kit_tuple_tuple | exact kit_str_tuple | exact kit_bool_tuple | exact kit_list_tuple | exact kit_none_tuple)))) (fun _ => (ev_orT (ev_test (ev_op (ev_var rfl) (ev_tup ev_nil (Nat.le_of_ble_eq_true rfl)) (rd_eq (by first | rfl | exact sh_rows _ | exact sh_ev _ | exact sh_dd _ | decide +kernel) (by first | rfl | exact sh_rows _ | exact sh_ev _ | exact sh_dd _ | decide +kernel)))) (fun _ => (ev_notT (ev_tB (ev_isi (ev_op (ev_var rfl) ev_int (by first | exact rd_ixT rfl | exact rd_ixL rfl)) (by first | exact kit_int_str | exact kit_tuple_str | exact kit_str_str | exact kit_bool_str | exact kit_list_str | exact kit_none_str)))))))) (fun h => absurd h (by first | (simp [encDd, encEv, PyData.eqv, PyData.eqvAll]; done) | (simp [encDd, encEv, PyData.eqv, PyData.eqvAll]; decide +kernel))) fun _ => es_nxS ?_
    refine es_ifS (ev_test (ev_op (ev_op (ev_var rfl) ev_int (by first | exact rd_ixT rfl | exact rd_ixL rfl)) ev_str (rd_eq (by first | rfl | exact sh_rows _ | exact sh_ev _ | exact sh_dd _ | decide +kernel) (by first | rfl | exact sh_rows _ | exact sh_ev _ | exact sh_dd _ | decide +kernel)))) (fun h => absurd h (by first | (simp [encDd, encEv, PyData.eqv, PyData.eqvAll]; done) | (simp [encDd, encEv, PyData.eqv, PyData.eqvAll]; decide +kernel))) fun _ => es_nxS ?_
    refine es_ifS (ev_test (ev_op (ev_cb (ev_cons (ev_var rfl) ev_nil) (by first | exact rc_lenT | exact rc_lenL)) ev_int (rd_ne (by first | rfl | exact sh_rows _ | exact sh_ev _ | exact sh_dd _ | decide +kernel) (by first | rfl | exact sh_rows _ | exact sh_ev _ | exact sh_dd _ | decide +kernel)))) (fun h => absurd h (by first | (simp [encDd, encEv, PyData.eqv, PyData.eqvAll]; done) | (simp [encDd, encEv, PyData.eqv, PyData.eqvAll]; decide +kernel))) fun _ => es_nxS ?_
    refine es_ifS (ev_test (ev_op (ev_op (ev_var rfl) ev_int (by first | exact rd_ixT rfl | exact rd_ixL rfl)) ev_str (rd_eq (by first | rfl | exact sh_rows _ | exact sh_ev _ | exact sh_dd _ | decide +kernel) (by first | rfl | exact sh_rows _ | exact sh_ev _ | exact sh_dd _ | decide +kernel)))) (fun h => absurd h (by first | (simp [encDd, encEv, PyData.eqv, PyData.eqvAll]; done) | (simp [encDd, encEv, PyData.eqv, PyData.eqvAll]; decide +kernel))) fun _ => es_nxS ?_
    refine es_ifS (ev_test (ev_op (ev_op (ev_var rfl) ev_int (by first | exact rd_ixT rfl | exact rd_ixL rfl)) ev_str (rd_eq (by first | rfl | exact sh_rows _ | exact sh_ev _ | exact sh_dd _ | decide +kernel) (by first | rfl | exact sh_rows _ | exact sh_ev _ | exact sh_dd _ | decide +kernel)))) (fun h => absurd h (by first | (simp [encDd, encEv, PyData.eqv, PyData.eqvAll]; done) | (simp [encDd, encEv, PyData.eqv, PyData.eqvAll]; decide +kernel))) fun _ => es_nxS ?_
    refine es_retE (ev_andB (ev_op (ev_op (ev_var rfl) ev_int (by first | exact rd_ixT rfl | exact rd_ixL rfl)) (ev_tup (ev_cons ev_str (ev_cons ev_str (ev_cons ev_str ev_nil))) (Nat.le_of_ble_eq_true rfl)) (rd_inS (ns := ["copy", "stop", "start"]))) (fun _ => (ev_call (ev_cons (ev_op (ev_var rfl) ev_int (by first | exact rd_ixT rfl | exact rd_ixL rfl)) (ev_cons ev_int (ev_cons ev_int ev_nil))) I_is_from_to))) ?_
    simp [form]
    all_goals (first | omega | decide +kernel)
  | start i =>
    refine es_ifS (ev_orT (ev_notT (ev_tB (ev_isi (ev_var rfl) (by first | exact kit_int_tuple | exact kit_tuple_tuple | exact kit_str_tuple | exact kit_bool_tuple | exact kit_list_tuple | exact kit_none_tuple)))) (fun _ => (ev_orT (ev_test (ev_op (ev_var rfl) (ev_tup ev_nil (Nat.le_of_ble_eq_true rfl)) (rd_eq (by first | rfl | exact sh_rows _ | exact sh_ev _ | exact sh_dd _ | decide +kernel) (by first | rfl | exact sh_rows _ | exact sh_ev _ | exact sh_dd _ | decide +kernel)))) (fun _ => (ev_notT (ev_tB (ev_isi (ev_op (ev_var rfl) ev_int (by first | exact rd_ixT rfl | exact rd_ixL rfl)) (by first | exact kit_int_str | exact kit_tuple_str | exact kit_str_str | exact kit_bool_str | exact kit_list_str | exact kit_none_str)))))))) (fun h => absurd h (by first | (simp [encDd, encEv, PyData.eqv, PyData.eqvAll]; done) | (simp [encDd, encEv, PyData.eqv, PyData.eqvAll]; decide +kernel))) fun _ => es_nxS ?_
    refine es_ifS (ev_test (ev_op (ev_op (ev_var rfl) ev_int (by first | exact rd_ixT rfl | exact rd_ixL rfl)) ev_str (rd_eq (by first | rfl | exact sh_rows _ | exact sh_ev _ | exact sh_dd _ | decide +kernel) (by first | rfl | exact sh_rows _ | exact sh_ev _ | exact sh_dd _ | decide +kernel)))) (fun h => absurd h (by first | (simp [encDd, encEv, PyData.eqv, PyData.eqvAll]; done) | (simp [encDd, encEv, PyData.eqv, PyData.eqvAll]; decide +kernel))) fun _ => es_nxS ?_
    refine es_ifS (ev_test (ev_op (ev_cb (ev_cons (ev_var rfl) ev_nil) (by first | exact rc_lenT | exact rc_lenL)) ev_int (rd_ne (by first | rfl | exact sh_rows _ | exact sh_ev _ | exact sh_dd _ | decide +kernel) (by first | rfl | exact sh_rows _ | exact sh_ev _ | exact sh_dd _ | decide +kernel)))) (fun h => absurd h (by first | (simp [encDd, encEv, PyData.eqv, PyData.eqvAll]; done) | (simp [encDd, encEv, PyData.eqv, PyData.eqvAll]; decide +kernel))) fun _ => es_nxS ?_
    refine es_ifS (ev_test (ev_op (ev_op (ev_var rfl) ev_int (by first | exact rd_ixT rfl | exact rd_ixL rfl)) ev_str (rd_eq (by first | rfl | exact sh_rows _ | exact sh_ev _ | exact sh_dd _ | decide +kernel) (by first | rfl | exact sh_rows _ | exact sh_ev _ | exact sh_dd _ | decide +kernel)))) (fun h => absurd h (by first | (simp [encDd, encEv, PyData.eqv, PyData.eqvAll]; done) | (simp [encDd, encEv, PyData.eqv, PyData.eqvAll]; decide +kernel))) fun _ => es_nxS ?_
    refine es_ifS (ev_test (ev_op (ev_op (ev_var rfl) ev_int (by first | exact rd_ixT rfl | exact rd_ixL rfl)) ev_str (rd_eq (by first | rfl | exact sh_rows _ | exact sh_ev _ | exact sh_dd _ | decide +kernel) (by first | rfl | exact sh_rows _ | exact sh_ev _ | exact sh_dd _ | decide +kernel)))) (fun h => absurd h (by first | (simp [encDd, encEv, PyData.eqv, PyData.eqvAll]; done) | (simp [encDd, encEv, PyData.eqv, PyData.eqvAll]; decide +kernel))) fun _ => es_nxS ?_
    refine es_retE (ev_andB (ev_op (ev_op (ev_var rfl) ev_int (by first | exact rd_ixT rfl | exact rd_ixL rfl)) (ev_tup (ev_cons ev_str (ev_cons ev_str (ev_cons ev_str ev_nil))) (Nat.le_of_ble_eq_true rfl)) (rd_inS (ns := ["copy", "stop", "start"]))) (fun _ => (ev_call (ev_cons (ev_op (ev_var rfl) ev_int (by first | exact rd_ixT rfl | exact rd_ixL rfl)) (ev_cons ev_int (ev_cons ev_int ev_nil))) I_is_from_to))) ?_
    simp [form]
    all_goals (first | omega | decide +kernel)
  | go =>
    refine es_ifS (ev_orT (ev_notT (ev_tB (ev_isi (ev_var rfl) (by first | exact kit_int_tuple | exact kit_tuple_tuple | exact kit_str_tuple | exact kit_bool_tuple | exact kit_list_tuple | exact kit_none_tuple)))) (fun _ => (ev_orT (ev_test (ev_op (ev_var rfl) (ev_tup ev_nil (Nat.le_of_ble_eq_true rfl)) (rd_eq (by first | rfl | exact sh_rows _ | exact sh_ev _ | exact sh_dd _ | decide +kernel) (by first | rfl | exact sh_rows _ | exact sh_ev _ | exact sh_dd _ | decide +kernel)))) (fun _ => (ev_notT (ev_tB (ev_isi (ev_op (ev_var rfl) ev_int (by first | exact rd_ixT rfl | exact rd_ixL rfl)) (by first | exact kit_int_str | exact kit_tuple_str | exact kit_str_str | exact kit_bool_str | exact kit_list_str | exact kit_none_str)))))))) (fun h => absurd h (by first | (simp [encDd, encEv, PyData.eqv, PyData.eqvAll]; done) | (simp [encDd, encEv, PyData.eqv, PyData.eqvAll]; decide +kernel))) fun _ => es_nxS ?_
    refine es_ifS (ev_test (ev_op (ev_op (ev_var rfl) ev_int (by first | exact rd_ixT rfl | exact rd_ixL rfl)) ev_str (rd_eq (by first | rfl | exact sh_rows _ | exact sh_ev _ | exact sh_dd _ | decide +kernel) (by first | rfl | exact sh_rows _ | exact sh_ev _ | exact sh_dd _ | decide +kernel)))) (fun h => absurd h (by first | (simp [encDd, encEv, PyData.eqv, PyData.eqvAll]; done) | (simp [encDd, encEv, PyData.eqv, PyData.eqvAll]; decide +kernel))) fun _ => es_nxS ?_
    refine es_ifS (ev_test (ev_op (ev_cb (ev_cons (ev_var rfl) ev_nil) (by first | exact rc_lenT | exact rc_lenL)) ev_int (rd_ne (by first | rfl | exact sh_rows _ | exact sh_ev _ | exact sh_dd _ | decide +kernel) (by first | rfl | exact sh_rows _ | exact sh_ev _ | exact sh_dd _ | decide +kernel)))) (fun h => absurd h (by first | (simp [encDd, encEv, PyData.eqv, PyData.eqvAll]; done) | (simp [encDd, encEv, PyData.eqv, PyData.eqvAll]; decide +kernel))) fun _ => es_nxS ?_
    refine es_ifS (ev_test (ev_op (ev_op (ev_var rfl) ev_int (by first | exact rd_ixT rfl | exact rd_ixL rfl)) ev_str (rd_eq (by first | rfl | exact sh_rows _ | exact sh_ev _ | exact sh_dd _ | decide +kernel) (by first | rfl | exact sh_rows _ | exact sh_ev _ | exact sh_dd _ | decide +kernel)))) (fun h => absurd h (by first | (simp [encDd, encEv, PyData.eqv, PyData.eqvAll]; done) | (simp [encDd, encEv, PyData.eqv, PyData.eqvAll]; decide +kernel))) fun _ => es_nxS ?_
    refine es_ifS (ev_test (ev_op (ev_op (ev_var rfl) ev_int (by first | exact rd_ixT rfl | exact rd_ixL rfl)) ev_str (rd_eq (by first | rfl | exact sh_rows _ | exact sh_ev _ | exact sh_dd _ | decide +kernel) (by first | rfl | exact sh_rows _ | exact sh_ev _ | exact sh_dd _ | decide +kernel)))) (fun h => absurd h (by first | (simp [encDd, encEv, PyData.eqv, PyData.eqvAll]; done) | (simp [encDd, encEv, PyData.eqv, PyData.eqvAll]; decide +kernel))) fun _ => es_nxS ?_
    refine es_retE (ev_andB (ev_op (ev_op (ev_var rfl) ev_int (by first | exact rd_ixT rfl | exact rd_ixL rfl)) (ev_tup (ev_cons ev_str (ev_cons ev_str (ev_cons ev_str ev_nil))) (Nat.le_of_ble_eq_true rfl)) (rd_inS (ns := ["copy", "stop", "start"]))) (fun _ => (ev_call (ev_cons (ev_op (ev_var rfl) ev_int (by first | exact rd_ixT rfl | exact rd_ixL rfl)) (ev_cons ev_int (ev_cons ev_int ev_nil))) I_is_from_to))) ?_
    simp [form]
    all_goals (first | omega | decide +kernel)
  | non => exact es_ifS (ev_orT (c := false) (ev_notT (ev_tB (ev_isi (ev_var rfl) (by first | exact kit_int_tuple | exact kit_tuple_tuple | exact kit_str_tuple | exact kit_bool_tuple | exact kit_list_tuple | exact kit_none_tuple)))) (fun h => absurd h (by decide))) (fun _ => es_rt (es_ret ev_bl)) (fun h => absurd h (by first | (simp [encDd, encEv, PyData.eqv, PyData.eqvAll]; done) | (simp [encDd, encEv, PyData.eqv, PyData.eqvAll]; decide +kernel)))
  | app0 =>
    refine es_ifS (ev_orT (ev_notT (ev_tB (ev_isi (ev_var rfl) (by first | exact kit_int_tuple | exact kit_tuple_tuple | exact kit_str_tuple | exact kit_bool_tuple | exact kit_list_tuple | exact kit_none_tuple)))) (fun _ => (ev_orT (ev_test (ev_op (ev_var rfl) (ev_tup ev_nil (Nat.le_of_ble_eq_true rfl)) (rd_eq (by first | rfl | exact sh_rows _ | exact sh_ev _ | exact sh_dd _ | decide +kernel) (by first | rfl | exact sh_rows _ | exact sh_ev _ | exact sh_dd _ | decide +kernel)))) (fun _ => (ev_notT (ev_tB (ev_isi (ev_op (ev_var rfl) ev_int (by first | exact rd_ixT rfl | exact rd_ixL rfl)) (by first | exact kit_int_str | exact kit_tuple_str | exact kit_str_str | exact kit_bool_str | exact kit_list_str | exact kit_none_str)))))))) (fun h => absurd h (by first | (simp [encDd, encEv, PyData.eqv, PyData.eqvAll]; done) | (simp [encDd, encEv, PyData.eqv, PyData.eqvAll]; decide +kernel))) fun _ => es_nxS ?_
    refine es_ifS (ev_test (ev_op (ev_op (ev_var rfl) ev_int (by first | exact rd_ixT rfl | exact rd_ixL rfl)) ev_str (rd_eq (by first | rfl | exact sh_rows _ | exact sh_ev _ | exact sh_dd _ | decide +kernel) (by first | rfl | exact sh_rows _ | exact sh_ev _ | exact sh_dd _ | decide +kernel)))) (fun h => absurd h (by first | (simp [encDd, encEv, PyData.eqv, PyData.eqvAll]; done) | (simp [encDd, encEv, PyData.eqv, PyData.eqvAll]; decide +kernel))) fun _ => es_nxS ?_
    exact es_ifS (ev_test (ev_op (ev_cb (ev_cons (ev_var rfl) ev_nil) (by first | exact rc_lenT | exact rc_lenL)) ev_int (rd_ne (by first | rfl | exact sh_rows _ | exact sh_ev _ | exact sh_dd _ | decide +kernel) (by first | rfl | exact sh_rows _ | exact sh_ev _ | exact sh_dd _ | decide +kernel)))) (fun _ => es_rt (es_ret ev_bl)) (fun h => absurd h (by first | (simp [encDd, encEv, PyData.eqv, PyData.eqvAll]; done) | (simp [encDd, encEv, PyData.eqv, PyData.eqvAll]; decide +kernel)))
  | lst => exact es_ifS (ev_orT (c := false) (ev_notT (ev_tB (ev_isi (ev_var rfl) (by first | exact kit_int_tuple | exact kit_tuple_tuple | exact kit_str_tuple | exact kit_bool_tuple | exact kit_list_tuple | exact kit_none_tuple)))) (fun h => absurd h (by decide))) (fun _ => es_rt (es_ret ev_bl)) (fun h => absurd h (by first | (simp [encDd, encEv, PyData.eqv, PyData.eqvAll]; done) | (simp [encDd, encEv, PyData.eqv, PyData.eqvAll]; decide +kernel)))

abbrev s_are_copy_rows : Stmt := top 17
abbrev N_are_copy_rows : List Str := ["value", "pair"]
theorem sc_are_copy_rows : FnScope N_are_copy_rows ["value"] (defScope s_are_copy_rows) := ⟨rfl, rfl, rfl, by decide +kernel, rfl, by decide +kernel, by decide +kernel⟩


def F_are_copy_rows : List PyData → PyData → Prop := fun ds z => ∃ (rows : List K27.Row), (∀ r ∈ rows, 1 ≤ r.term ∧ evOk r.ev = true) ∧ ds = [encRows rows] ∧ z = .bool true
theorem I_are_copy_rows {rows : List K27.Row} (p0 : ∀ r ∈ rows, 1 ≤ r.term ∧ evOk r.ev = true) : F_are_copy_rows [encRows rows] (.bool true) := ⟨rows, p0, rfl, rfl⟩
theorem R_are_copy_rows {P : Program} {w : World} {K : PySem.W.Frag} {mg : Str → Option Value} {base : Heap} (T : Tx mg) (kn : Kn K mg "are_copy_rows" s_are_copy_rows ["value"]) (R_is_event : Rdy P w K mg base 2 "is_event" ["value"] (spP K F_is_event)) : Rdy P w K mg base 3 "are_copy_rows" ["value"] (spP K F_are_copy_rows) := by
  refine rdy_of kn sc_are_copy_rows (fun ds z h => ?_) (by decide) (fun f cdv A outer s H E hr ds z h => ?_)
  · obtain ⟨rows, p0, rfl, rfl⟩ := h
    rfl
  obtain ⟨rows, p0, rfl, rfl⟩ := h
  refine ⟨_, (pss_cons (ps_if (pt_not (pt_val (pe_callB call_isi (by rfl) T.b_isinstance bt_isinstance (pa_cons (pv 0) (pa_cons (pe_bltn (v := .ty "tuple") (by rfl) T.b_tuple bt_tuple rfl) pa_nil))))) (pss_one (ps_ret pe_bl)) pss_nil) (pss_cons (ps_for PassesOwn.never rfl (pi_tup (pv 0)) (pg_name (i := 1) sc_are_copy_rows.nd rfl (by first | exact Or.inl rfl | exact Or.inr rfl)) (pss_cons (ps_if (PW.pt (pw_or (pt_not (pt_val (pe_callB call_isi (by rfl) T.b_isinstance bt_isinstance (pa_cons (pv 1) (pa_cons (pe_bltn (v := .ty "tuple") (by rfl) T.b_tuple bt_tuple rfl) pa_nil))))) (pw_or (pt_cmpR (op_neD hr.units) (pe_callB call_len_seq (by rfl) T.b_len bt_len (pa_cons (pv 1) pa_nil)) pe_int (by first | rfl | exact nomark _)) (pw_or1 (pt_not (pt_val (pe_fn R_is_event (hr.mono (by decide)) (by rfl) (pa_cons (pe_ix ix_tup (pv 1) pe_int (fun _ _ => rfl)) pa_nil)))))))) (pss_one (ps_ret pe_bl)) pss_nil) (pss_one (ps_if (PW.pt (pw_or (pt_not (pt_val (pe_callB call_isi (by rfl) T.b_isinstance bt_isinstance (pa_cons (pe_ix ix_tup (pv 1) pe_int (fun _ _ => rfl)) (pa_cons (pe_bltn (v := .ty "int") (by rfl) T.b_int bt_int rfl) pa_nil))))) (pw_or (pt_val (pe_callB call_isi (by rfl) T.b_isinstance bt_isinstance (pa_cons (pe_ix ix_tup (pv 1) pe_int (fun _ _ => rfl)) (pa_cons (pe_bltn (v := .ty "bool") (by rfl) T.b_bool bt_bool rfl) pa_nil)))) (pw_or1 (pt_cmpR op_lt (pe_ix ix_tup (pv 1) pe_int (fun _ _ => rfl)) pe_int (by first | rfl | exact nomark _)))))) (pss_one (ps_ret pe_bl)) pss_nil)))) (pss_one (ps_ret pe_bl)))), ?_⟩
  refine es_ifS (ev_notT (ev_tB (ev_isi (ev_var rfl) (by first | exact kit_int_tuple | exact kit_tuple_tuple | exact kit_str_tuple | exact kit_bool_tuple | exact kit_list_tuple | exact kit_none_tuple)))) (fun h => absurd h (by first | (simp [encDd, encEv, PyData.eqv, PyData.eqvAll]; done) | (simp [encDd, encEv, PyData.eqv, PyData.eqvAll]; decide +kernel))) fun _ => es_nxS ?_
  refine es_run (fun ρ => ∃ o, ρ = [some (encRows rows), o]) rows encRow (ei_tup (ev_var rfl)) ⟨none, rfl⟩ (fun r hr' ρ i => ?_) fun ρ' _ => es_ret ev_bl
  · obtain ⟨o, rfl⟩ := i
    replace hr' := p0 r hr'
    refine ⟨_, _, _, eg_name, ?_, ⟨some (encRow r), rfl⟩⟩
    refine es_ifS (ev_orT (ev_notT (ev_tB (ev_isi (ev_var rfl) (by first | exact kit_int_tuple | exact kit_tuple_tuple | exact kit_str_tuple | exact kit_bool_tuple | exact kit_list_tuple | exact kit_none_tuple)))) (fun _ => (ev_orT (ev_test (ev_op (ev_cb (ev_cons (ev_var rfl) ev_nil) (by first | exact rc_lenT | exact rc_lenL)) ev_int (rd_ne (by first | rfl | exact sh_rows _ | exact sh_ev _ | exact sh_dd _ | decide +kernel) (by first | rfl | exact sh_rows _ | exact sh_ev _ | exact sh_dd _ | decide +kernel)))) (fun _ => (ev_notT (ev_tB (ev_call (ev_cons (ev_op (ev_var rfl) ev_int (by first | exact rd_ixT rfl | exact rd_ixL rfl)) ev_nil) (I_is_event hr'.2)))))))) (fun h => absurd h (by first | (simp [encDd, encEv, PyData.eqv, PyData.eqvAll]; done) | (simp [encDd, encEv, PyData.eqv, PyData.eqvAll]; decide +kernel))) fun _ => es_nxS ?_
    refine es_if (ev_orT (ev_notT (ev_tB (ev_isi (ev_op (ev_var rfl) ev_int (by first | exact rd_ixT rfl | exact rd_ixL rfl)) (by first | exact kit_int_int | exact kit_tuple_int | exact kit_str_int | exact kit_bool_int | exact kit_list_int | exact kit_none_int)))) (fun _ => (ev_orT (ev_tB (ev_isi (ev_op (ev_var rfl) ev_int (by first | exact rd_ixT rfl | exact rd_ixL rfl)) (by first | exact kit_int_bool | exact kit_tuple_bool | exact kit_str_bool | exact kit_bool_bool | exact kit_list_bool | exact kit_none_bool))) (fun _ => (ev_test (ev_op (ev_op (ev_var rfl) ev_int (by first | exact rd_ixT rfl | exact rd_ixL rfl)) ev_int rd_lt)))))) (fun h => absurd h (by simp; omega)) fun _ => es_next

abbrev s_is_newer : Stmt := top 32
abbrev N_is_newer : List Str := ["rows", "other"]
theorem sc_is_newer : FnScope N_is_newer ["rows", "other"] (defScope s_is_newer) := ⟨rfl, rfl, rfl, by decide +kernel, rfl, by decide +kernel, by decide +kernel⟩


def F_is_newer : List PyData → PyData → Prop := fun ds z => ∃ (a : List K27.Row) (b : List K27.Row), (∀ r ∈ a, 1 ≤ r.term ∧ evOk r.ev = true) ∧ (∀ r ∈ b, 1 ≤ r.term ∧ evOk r.ev = true) ∧ ds = [encRows a, encRows b] ∧ z = .bool (newer a b)
theorem I_is_newer {a : List K27.Row} {b : List K27.Row} (p0 : ∀ r ∈ a, 1 ≤ r.term ∧ evOk r.ev = true) (p1 : ∀ r ∈ b, 1 ≤ r.term ∧ evOk r.ev = true) : F_is_newer [encRows a, encRows b] (.bool (newer a b)) := ⟨a, b, p0, p1, rfl, rfl⟩
theorem R_is_newer {P : Program} {w : World} {K : PySem.W.Frag} {mg : Str → Option Value} {base : Heap} (T : Tx mg) (kn : Kn K mg "is_newer" s_is_newer ["rows", "other"]) (R_are_newer : Rdy P w K mg base 2 "are_newer" ["rows", "other"] (spP K F_are_newer)) (R_are_copy_rows : Rdy P w K mg base 3 "are_copy_rows" ["value"] (spP K F_are_copy_rows)) : Rdy P w K mg base 4 "is_newer" ["rows", "other"] (spP K F_is_newer) := by
  refine rdy_of kn sc_is_newer (fun ds z h => ?_) (by decide) (fun f cdv A outer s H E hr ds z h => ?_)
  · obtain ⟨a, b, p0, p1, rfl, rfl⟩ := h
    rfl
  obtain ⟨a, b, p0, p1, rfl, rfl⟩ := h
  refine ⟨_, (pss_cons (ps_if (PW.pt (pw_or (pt_not (pt_val (pe_fn R_are_copy_rows (hr.mono (by decide)) (by rfl) (pa_cons (pv 0) pa_nil)))) (pw_or1 (pt_not (pt_val (pe_fn R_are_copy_rows (hr.mono (by decide)) (by rfl) (pa_cons (pv 1) pa_nil))))))) (pss_one ps_never) pss_nil) (pss_one (ps_ret (pe_fn R_are_newer (hr.mono (by decide)) (by rfl) (pa_cons (pv 0) (pa_cons (pv 1) pa_nil)))))), ?_⟩
  refine es_ifS (ev_orT (ev_notT (ev_tB (ev_call (ev_cons (ev_var rfl) ev_nil) (I_are_copy_rows p0)))) fun _ => ev_notT (ev_tB (ev_call (ev_cons (ev_var rfl) ev_nil) (I_are_copy_rows p1)))) (fun h => absurd h (by first | (simp [encDd, encEv, PyData.eqv, PyData.eqvAll]; done) | (simp [encDd, encEv, PyData.eqv, PyData.eqvAll]; decide +kernel))) fun _ => es_nxS ?_
  exact es_ret (ev_call (ev_cons (ev_var rfl) (ev_cons (ev_var rfl) ev_nil)) I_are_newer)

end KD

/-! KF4: what deeds do. -/
namespace KD
open PySem L2 PySem.Spec PyProof.Rows K27
section
variable {P : Program} {w : World} {K : PySem.W.Frag} {mg : Str → Option Value} {base : Heap}
theorem rdy_nx {x : Str} {st : Stmt} {N ps : List Str} {k : Nat} {F : List PyData → PyData → Prop} (kn : Kn K mg x st ps) (S : FnScope N ps (defScope st)) (len : ∀ ds z, F ds z → ds.length = ps.length) (hN : ps.length ≤ N.length)
    (body : ∀ (f : Addr) (cdv : Value) (A : Around) (outer : List Env) (s : Shared) (H : Hp) (E : XK), Room k (A.deeper (envOfC x (defScope st) s.heap.objs.size f cdv)) → ∀ ds z, F ds z →
      ∃ t, PSs (cxOf CX0 P w K mg base N x (defScope st) f cdv A outer s H E).nox (defBody st) t ∧ ∃ ρ', EvS K t (startE N.length ds) (.nx ρ') ∧ z = .none) :
    Rdy P w K mg base (k + 1) x ps (spP K F) := by
  obtain ⟨f, fd, hf, hm, hb⟩ := kn
  refine ⟨f, fd, hf.ok S (fun vs H Q E h => ?_) (fun cdv A outer s H vs Q E hr h => ?_), hm, hf.kp, hb⟩
  · obtain ⟨G, ds, z, hs, hd, hz, _⟩ := h
    rw [dpa_len hd, len ds z hz]
  · obtain ⟨G, ds, z, hs, hd, hz, q⟩ := h
    obtain ⟨t, ht, ρ', ev, ez⟩ := body f cdv A outer s H E hr ds z hz
    subst ez
    exact ⟨t, ht, ev _ _ G H hs (sd_start hd (by rw [len ds _ hz]; exact hN)) fun σ' G2 H2 s2 _ => q .non G2 H2 s2 .non⟩
end
theorem es_expr {K : PySem.W.Frag} {ρ : En} {te : TE} {d : PyData} (h : EvE K te ρ d) : EvS K (tDrop te) ρ (.nx ρ) := fun D σ G H hs hd m =>
  h σ G H hs hd _ fun v G2 H2 s _ => m σ G2 H2 s (hd.mono (s.up hs))
/-! states that some deeds come to -/
def Gd (s : K27.St) : Prop := ∃ many n, Good many n s ∧ many ≤ 5 ∧ n ≤ 1000
theorem Gd.len {s : K27.St} (h : Gd s) : s.cs.length ≤ 5 := by
  obtain ⟨many, n, g, h1, _⟩ := h
  rw [g.len]; exact h1
theorem Gd.lead {s : K27.St} (h : Gd s) {l : Nat} (e : s.lead = some l) : l < s.cs.length := by
  obtain ⟨many, n, g, _⟩ := h
  rw [g.len]; exact g.lead e
theorem Gd.up {s : K27.St} (h : Gd s) {l : Nat} (e : s.lead = some l) : (cp s l).up = true := by
  obtain ⟨many, n, g, _⟩ := h
  obtain ⟨M, C, I⟩ := g.inv
  obtain ⟨c, h1, h2, _⟩ := I.lead l e
  rw [cp_of h1]; exact h2
theorem Gd.rows {s : K27.St} (h : Gd s) (i : Nat) : (cp s i).rows.length ≤ 1000 := by
  obtain ⟨many, n, g, _, h2⟩ := h
  exact Nat.le_trans (g.small.of i).1 h2
theorem Gd.term {s : K27.St} (h : Gd s) (i : Nat) : (cp s i).term ≤ 1000 := by
  obtain ⟨many, n, g, _, h2⟩ := h
  exact Nat.le_trans (g.small.of i).2.1 h2
theorem Gd.row1 {s : K27.St} (h : Gd s) {c : Cp} (hc : c ∈ s.cs) : ∀ r ∈ c.rows, 1 ≤ r.term ∧ evOk r.ev = true := by
  obtain ⟨many, n, g, _⟩ := h
  obtain ⟨M, C, I⟩ := g.inv
  exact fun r hr => ⟨(I.rowsM c hc r hr).1, (g.small.rterm c hc r hr).2⟩
def encOpt : Option K27.St → PyData
  | none => .none
  | some s => encSt s
theorem at_map {α : Type} {f : α → PyData} {l : List α} {i : Nat} {a : α} (h : l[i]? = some a) : atI (l.map f) ((i : Nat) : Int) = some (f a) := by
  have hi := (List.getElem?_eq_some_iff.mp h).1
  unfold atI ixN
  rw [List.length_map, if_pos (by omega), if_pos (by omega)]
  show (l.map f)[((i : Nat) : Int).toNat]? = _
  rw [Int.toNat_natCast, List.getElem?_map, h]
  rfl
theorem at_cp {s : K27.St} {i : Nat} (h : i < s.cs.length) : atI (s.cs.map encCp) ((i : Nat) : Int) = some (encCp (cp s i)) := at_map (cp_at h)
theorem nats_eq (vs : List Nat) : nats vs = (vs.map fun v => ((v : Nat) : Int)).map PyData.int := by
  unfold nats
  rw [List.map_map]
  rfl
theorem nats_has (vs : List Nat) (i : Nat) : (vs.map fun v => ((v : Nat) : Int)).contains ((i : Nat) : Int) = vs.contains i := by
  rw [Bool.eq_iff_iff]
  simp only [List.contains_iff_mem, List.mem_map]
  constructor
  · rintro ⟨a, ha, e⟩
    have : a = i := by omega
    rwa [← this]
  · exact fun h => ⟨i, h, rfl⟩
theorem isN_encO (o : Option Nat) : isNone (encO o) = !o.isSome := by cases o <;> rfl

abbrev s_appended : Stmt := top 23
abbrev N_appended : List Str := ["state", "event", "copies", "leader", "many", "up", "term", "rows"]
theorem sc_appended : FnScope N_appended ["state", "event"] (defScope s_appended) := ⟨rfl, rfl, rfl, by decide +kernel, rfl, by decide +kernel, by decide +kernel⟩


def F_appended : List PyData → PyData → Prop := fun ds z => ∃ (s : K27.St) (e : Ev), (Gd s) ∧ (evOk e = true) ∧ ds = [encSt s, encEv e] ∧ z = encOpt (if can s (.append e) then some (beh s (.append e)) else none)
theorem I_appended {s : K27.St} {e : Ev} (p0 : Gd s) (p1 : evOk e = true) : F_appended [encSt s, encEv e] (encOpt (if can s (.append e) then some (beh s (.append e)) else none)) := ⟨s, e, p0, p1, rfl, rfl⟩
theorem R_appended {P : Program} {w : World} {K : PySem.W.Frag} {mg : Str → Option Value} {base : Heap} (T : Tx mg) (kn : Kn K mg "appended" s_appended ["state", "event"]) (R_with_copy : Rdy P w K mg base 1 "with_copy" ["copies", "number", "fresh"] (spP K F_with_copy)) : Rdy P w K mg base 2 "appended" ["state", "event"] (spP K F_appended) := by
  refine rdy_of kn sc_appended (fun ds z h => ?_) (by decide) (fun f cdv A outer s H E hr ds z h => ?_)
  · obtain ⟨s, e, p0, p1, rfl, rfl⟩ := h
    rfl
  obtain ⟨s, e, p0, p1, rfl, rfl⟩ := h
  refine ⟨_, (pss_cons (ps_asg (pv 0) (pg_tup (by rfl) (pgs_cons (pg_name (i := 2) sc_appended.nd rfl (by first | exact Or.inl rfl | exact Or.inr rfl)) (pgs_cons (pg_name (i := 3) sc_appended.nd rfl (by first | exact Or.inl rfl | exact Or.inr rfl)) (pgs_cons (pg_name (i := 4) sc_appended.nd rfl (by first | exact Or.inl rfl | exact Or.inr rfl)) pgs_nil))))) (pss_cons (ps_if (pt_cmp (pc_isN (pv 3)) rfl) (pss_one (ps_ret pe_non)) pss_nil) (pss_cons (ps_asg (pe_ix ix_tup (pv 2) (pv 3) (fun _ _ => rfl)) (pg_tup (by rfl) (pgs_cons (pg_name (i := 5) sc_appended.nd rfl (by first | exact Or.inl rfl | exact Or.inr rfl)) (pgs_cons (pg_name (i := 6) sc_appended.nd rfl (by first | exact Or.inl rfl | exact Or.inr rfl)) (pgs_cons (pg_name (i := 7) sc_appended.nd rfl (by first | exact Or.inl rfl | exact Or.inr rfl)) pgs_nil))))) (pss_one (ps_ret (pe_tup (pa_cons (pe_fn R_with_copy (hr.mono (by decide)) (by rfl) (pa_cons (pv 2) (pa_cons (pv 3) (pa_cons (pe_tup (pa_cons (pv 5) (pa_cons (pv 6) (pa_cons (pe_tup (StX.pa_star (pv 7) (pa_cons (pe_tup (pa_cons (pv 6) (pa_cons (pv 1) pa_nil))) pa_nil))) pa_nil)))) pa_nil)))) (pa_cons (pv 3) (pa_cons (pv 4) pa_nil))))))))), ?_⟩
  refine es_seq (es_asg (ev_var rfl) (by first | exact eg_tup (eg_cons eg_name (eg_cons eg_name (eg_cons eg_name eg_nil))) rfl | exact eg_lst (eg_cons eg_name (eg_cons eg_name (eg_cons eg_name eg_nil))) rfl)) ?_
  cases hl : s.lead with
  | none =>
    refine es_ifS (ev_tB (ev_isN (ev_var rfl))) (fun _ => es_rt (es_retE ev_non ?_)) (fun h => absurd h (by first | (simp [encDd, encEv, encO, isNone, PyData.eqv, PyData.eqvAll]; done) | (simp [encDd, encEv, encO, isNone, PyData.eqv, PyData.eqvAll]; decide +kernel)))
    simp [can, hl, encOpt]
  | some l =>
    refine es_ifS (ev_tB (ev_isN (ev_var rfl))) (fun h => absurd h (by first | (simp [encDd, encEv, encO, isNone, PyData.eqv, PyData.eqvAll]; done) | (simp [encDd, encEv, encO, isNone, PyData.eqv, PyData.eqvAll]; decide +kernel))) (fun _ => es_nxS ?_)
    refine es_seq (es_asg (ev_op (ev_var rfl) (ev_var rfl) (rd_ixT (at_cp (p0.lead hl)))) (by first | exact eg_tup (eg_cons eg_name (eg_cons eg_name (eg_cons eg_name eg_nil))) rfl | exact eg_lst (eg_cons eg_name (eg_cons eg_name (eg_cons eg_name eg_nil))) rfl)) ?_
    refine es_retE (ev_tup (ev_cons (ev_call (ev_cons (ev_var rfl) (ev_cons (ev_var rfl) (ev_cons (ev_eqd (ev_tup (ev_cons (ev_var rfl) (ev_cons (ev_var rfl) (ev_cons (ev_tup (ev_star (ev_var rfl) (ev_cons (ev_tup (ev_cons (ev_var rfl) (ev_cons (ev_var rfl) ev_nil)) (Nat.le_of_ble_eq_true rfl)) ev_nil)) ?_) ev_nil))) (Nat.le_of_ble_eq_true rfl)) ?_) ev_nil))) (I_with_copy (c := ⟨(cp s l).up, (cp s l).term, (cp s l).rows ++ [⟨(cp s l).term, e⟩]⟩) (p0.lead hl) p0.len)) (ev_cons (ev_var rfl) (ev_cons (ev_var rfl) ev_nil))) (Nat.le_of_ble_eq_true rfl)) ?_
    · have := p0.rows l
      exact Nat.le_trans (m := 1010) (by simp; omega) (by decide)
    · simp [encCp, encRows, encRow]
    · simp [can, beh, hl, encOpt, encSt]

abbrev s_copied : Stmt := top 24
abbrev N_copied : List Str := ["state", "number", "copies", "leader", "many"]
theorem sc_copied : FnScope N_copied ["state", "number"] (defScope s_copied) := ⟨rfl, rfl, rfl, by decide +kernel, rfl, by decide +kernel, by decide +kernel⟩


def F_copied : List PyData → PyData → Prop := fun ds z => ∃ (s : K27.St) (i : Nat), (Gd s) ∧ ds = [encSt s, .int i] ∧ z = encOpt (if can s (.copy i) then some (beh s (.copy i)) else none)
theorem I_copied {s : K27.St} {i : Nat} (p0 : Gd s) : F_copied [encSt s, .int i] (encOpt (if can s (.copy i) then some (beh s (.copy i)) else none)) := ⟨s, i, p0, rfl, rfl⟩
theorem R_copied {P : Program} {w : World} {K : PySem.W.Frag} {mg : Str → Option Value} {base : Heap} (T : Tx mg) (kn : Kn K mg "copied" s_copied ["state", "number"]) (R_with_copy : Rdy P w K mg base 1 "with_copy" ["copies", "number", "fresh"] (spP K F_with_copy)) : Rdy P w K mg base 2 "copied" ["state", "number"] (spP K F_copied) := by
  refine rdy_of kn sc_copied (fun ds z h => ?_) (by decide) (fun f cdv A outer s H E hr ds z h => ?_)
  · obtain ⟨s, i, p0, rfl, rfl⟩ := h
    rfl
  obtain ⟨s, i, p0, rfl, rfl⟩ := h
  refine ⟨_, (pss_cons (ps_asg (pv 0) (pg_tup (by rfl) (pgs_cons (pg_name (i := 2) sc_copied.nd rfl (by first | exact Or.inl rfl | exact Or.inr rfl)) (pgs_cons (pg_name (i := 3) sc_copied.nd rfl (by first | exact Or.inl rfl | exact Or.inr rfl)) (pgs_cons (pg_name (i := 4) sc_copied.nd rfl (by first | exact Or.inl rfl | exact Or.inr rfl)) pgs_nil))))) (pss_cons (ps_if (PW.pt (pw_or (pt_cmp (pc_isN (pv 3)) rfl) (pw_or (pt_cmpR op_in_seq (pv 1) (pe_tup (pa_cons (pv 3) (pa_cons (pe_callB call_len_seq (by rfl) T.b_len bt_len (pa_cons (pv 2) pa_nil)) pa_nil))) (by first | rfl | exact nomark _)) (pw_or (pt_cmpR op_gt (pv 1) (pe_callB call_len_seq (by rfl) T.b_len bt_len (pa_cons (pv 2) pa_nil)) (by first | rfl | exact nomark _)) (pw_or1 (pt_not (pt_val (pe_ix ix_tup (pe_ix ix_tup (pv 2) (pv 1) (fun _ _ => rfl)) pe_int (fun _ _ => rfl))))))))) (pss_one (ps_ret pe_non)) pss_nil) (pss_one (ps_ret (pe_tup (pa_cons (pe_fn R_with_copy (hr.mono (by decide)) (by rfl) (pa_cons (pv 2) (pa_cons (pv 1) (pa_cons (pe_tup (pa_cons pe_bl (StX.pa_star (pe_slice sl_tupA (pe_ix ix_tup (pv 2) (pv 3) (fun _ _ => rfl)) (po_some pe_int) po_none) pa_nil))) pa_nil)))) (pa_cons (pv 3) (pa_cons (pv 4) pa_nil)))))))), ?_⟩
  refine es_seq (es_asg (ev_var rfl) (by first | exact eg_tup (eg_cons eg_name (eg_cons eg_name (eg_cons eg_name eg_nil))) rfl | exact eg_lst (eg_cons eg_name (eg_cons eg_name (eg_cons eg_name eg_nil))) rfl)) ?_
  cases hl : s.lead with
  | none =>
    refine es_ifS (ev_orT (c := false) (ev_tB (ev_isN (ev_var rfl))) (fun h => absurd h (by first | (simp [encDd, encEv, encO, isNone, PyData.eqv, PyData.eqvAll]; done) | (simp [encDd, encEv, encO, isNone, PyData.eqv, PyData.eqvAll]; decide +kernel)))) (fun _ => es_rt (es_retE ev_non ?_)) (fun h => absurd h (by first | (simp [encDd, encEv, encO, isNone, PyData.eqv, PyData.eqvAll]; done) | (simp [encDd, encEv, encO, isNone, PyData.eqv, PyData.eqvAll]; decide +kernel)))
    simp [can, hl, encOpt]
  | some l =>
    have ll := p0.lead hl
    have cond : (isNone (encO (some l)) || ([((l : Nat) : Int), ((s.cs.map encCp).length : Nat)].contains ((i : Nat) : Int) || (decide ((((s.cs.map encCp).length : Nat) : Int) < (i : Nat)) || !(cp s i).up))) = !can s (.copy i) := by
      simp only [can, hl, List.length_map, isN_encO]
      by_cases h1 : i < s.cs.length
      · by_cases h2 : i = l
        · subst h2; simp [h1]
        · have h3 : ¬ (i : Int) = l := by omega
          have h4 : ¬ (i : Int) = s.cs.length := by omega
          have h5 : ¬ (s.cs.length : Int) < i := by omega
          simp [h1, h2, h3, h4, h5]
      · by_cases h4 : i = s.cs.length
        · simp [h4]
        · have h5 : (s.cs.length : Int) < i := by omega
          simp [h1, h5]
    refine es_ifS (b := !can s (.copy i)) (et_eqb (ev_orT (ev_tB (ev_isN (ev_var rfl))) fun _ => ev_orT (ev_test (ev_op (ev_var rfl) (ev_tup (ev_cons (ev_var rfl) (ev_cons (ev_cb (ev_cons (ev_var rfl) ev_nil) rc_lenT) ev_nil)) (Nat.le_of_ble_eq_true rfl)) (rd_inI (ns := [((l : Nat) : Int), ((s.cs.map encCp).length : Nat)])))) fun h => ev_orT (ev_test (ev_op (ev_var rfl) (ev_cb (ev_cons (ev_var rfl) ev_nil) rc_lenT) rd_gt)) fun h' => ev_notT (ev_tB (ev_op (ev_op (ev_var rfl) (ev_var rfl) (rd_ixT (at_cp ?_))) ev_int (rd_ixT rfl)))) cond) (fun h => es_rt (es_retE ev_non ?_)) (fun h => es_nxS ?_)
    · simp at h h'
      omega
    · have hc : can s (.copy i) = false := by simpa using h
      rw [hc]; rfl
    · have hc : can s (.copy i) = true := by simpa using h
      have hi : i < s.cs.length := by
        simp only [can, hl, Bool.and_eq_true, decide_eq_true_iff] at hc
        exact hc.1.1
      rw [hc]
      refine es_retE (ev_tup (ev_cons (ev_call (ev_cons (ev_var rfl) (ev_cons (ev_var rfl) (ev_cons (ev_tup (ev_cons ev_bl (ev_star (ev_eqd (ev_slT (ev_op (ev_var rfl) (ev_var rfl) (rd_ixT (at_cp ll))) (ev_part ev_int) ev_none) (congrArg PyData.tuple (cutD_from _ 1))) ev_nil)) (Nat.le_of_ble_eq_true rfl)) ev_nil))) (I_with_copy (c := ⟨true, (cp s l).term, (cp s l).rows⟩) hi p0.len)) (ev_cons (ev_var rfl) (ev_cons (ev_var rfl) ev_nil))) (Nat.le_of_ble_eq_true rfl)) ?_
      simp [beh, hl, encOpt, encSt]

end KD

/-! KF5: turning, committing, electing. -/
namespace KD
open PySem L2 PySem.Spec PyProof.Rows K27
theorem nt {b : Bool} (h : (!b) = true) : b = false := by cases b <;> simp_all
theorem nf {b : Bool} (h : (!b) = false) : b = true := by cases b <;> simp_all
theorem sh_encO (o : Option Nat) : SeqAt.shaped (encO o) = true := by cases o <;> rfl
theorem eqv_encO (o : Option Nat) (i : Nat) : PyData.eqv (encO o) (.int (i : Nat)) = decide (o = some i) := by
  cases o with
  | none => simp [encO, PyData.eqv]
  | some l =>
    show PyData.eqv (.int (l : Nat)) (.int (i : Nat)) = _
    rw [eqv_int]
    by_cases h : l = i
    · subst h; simp
    · have h' : ¬ (l : Int) = i := by omega
      rw [decide_eq_false h', decide_eq_false (fun z => h (Option.some.inj z))]
theorem eqv_bool (a b : Bool) : PyData.eqv (.bool a) (.bool b) = (a == b) := by simp [PyData.eqv]
def turnDd (up : Bool) (i : Nat) : Dd := if up then .start i else .stop i

abbrev s_turned_state : Stmt := top 26
abbrev N_turned_state : List Str := ["state", "number", "up", "copies", "leader", "many", "fresh"]
theorem sc_turned_state : FnScope N_turned_state ["state", "number", "up"] (defScope s_turned_state) := ⟨rfl, rfl, rfl, by decide +kernel, rfl, by decide +kernel, by decide +kernel⟩


def F_turned_state : List PyData → PyData → Prop := fun ds z => ∃ (s : K27.St) (i : Nat) (up : Bool), (Gd s) ∧ ds = [encSt s, .int i, .bool up] ∧ z = encOpt (if can s (turnDd up i) then some (beh s (turnDd up i)) else none)
theorem I_turned_state {s : K27.St} {i : Nat} {up : Bool} (p0 : Gd s) : F_turned_state [encSt s, .int i, .bool up] (encOpt (if can s (turnDd up i) then some (beh s (turnDd up i)) else none)) := ⟨s, i, up, p0, rfl, rfl⟩
theorem R_turned_state {P : Program} {w : World} {K : PySem.W.Frag} {mg : Str → Option Value} {base : Heap} (T : Tx mg) (kn : Kn K mg "turned_state" s_turned_state ["state", "number", "up"]) (R_with_copy : Rdy P w K mg base 1 "with_copy" ["copies", "number", "fresh"] (spP K F_with_copy)) : Rdy P w K mg base 2 "turned_state" ["state", "number", "up"] (spP K F_turned_state) := by
  refine rdy_of kn sc_turned_state (fun ds z h => ?_) (by decide) (fun f cdv A outer s H E hr ds z h => ?_)
  · obtain ⟨s, i, up, p0, rfl, rfl⟩ := h
    rfl
  obtain ⟨s, i, up, p0, rfl, rfl⟩ := h
  refine ⟨_, (pss_cons (ps_asg (pv 0) (pg_tup (by rfl) (pgs_cons (pg_name (i := 3) sc_turned_state.nd rfl (by first | exact Or.inl rfl | exact Or.inr rfl)) (pgs_cons (pg_name (i := 4) sc_turned_state.nd rfl (by first | exact Or.inl rfl | exact Or.inr rfl)) (pgs_cons (pg_name (i := 5) sc_turned_state.nd rfl (by first | exact Or.inl rfl | exact Or.inr rfl)) pgs_nil))))) (pss_cons (ps_if (PW.pt (pw_or (pt_cmpR op_ge (pv 1) (pe_callB call_len_seq (by rfl) T.b_len bt_len (pa_cons (pv 3) pa_nil)) (by first | rfl | exact nomark _)) (pw_or1 (pt_cmpR (op_eqD hr.units) (pe_ix ix_tup (pe_ix ix_tup (pv 3) (pv 1) (fun _ _ => rfl)) pe_int (fun _ _ => rfl)) (pv 2) (by first | rfl | exact nomark _))))) (pss_one (ps_ret pe_non)) pss_nil) (pss_cons (ps_set (i := 6) sc_turned_state.nd rfl (by first | exact Or.inl rfl | exact Or.inr rfl) (pe_fn R_with_copy (hr.mono (by decide)) (by rfl) (pa_cons (pv 3) (pa_cons (pv 1) (pa_cons (pe_tup (pa_cons (pv 2) (StX.pa_star (pe_slice sl_tupA (pe_ix ix_tup (pv 3) (pv 1) (fun _ _ => rfl)) (po_some pe_int) po_none) pa_nil))) pa_nil))))) (pss_one (ps_ret (pe_tup (pa_cons (pv 6) (pa_cons (pe_ifExp (pt_cmpR (op_eqD hr.units) (pv 4) (pv 1) (by first | rfl | exact nomark _)) pe_non (pv 4)) (pa_cons (pv 5) pa_nil))))))))), ?_⟩
  have cond : (decide ((((s.cs.map encCp).length : Nat) : Int) ≤ (i : Nat)) || PyData.eqv (.bool (cp s i).up) (.bool up)) = !can s (turnDd up i) := by
    rw [eqv_bool, List.length_map]
    by_cases h : i < s.cs.length
    · have h' : ¬ (s.cs.length : Int) ≤ i := by omega
      cases up <;> simp [turnDd, can, h, h']
    · have h' : (s.cs.length : Int) ≤ i := by omega
      cases up <;> simp [turnDd, can, h, h']
  refine es_seq (es_asg (ev_var rfl) (by first | exact eg_tup (eg_cons eg_name (eg_cons eg_name (eg_cons eg_name eg_nil))) rfl | exact eg_lst (eg_cons eg_name (eg_cons eg_name (eg_cons eg_name eg_nil))) rfl)) ?_
  refine es_ifS (b := !can s (turnDd up i)) (et_eqb (ev_orT (ev_test (ev_op (ev_var rfl) (ev_cb (ev_cons (ev_var rfl) ev_nil) rc_lenT) rd_ge)) fun h => ev_test (ev_op (ev_op (ev_op (ev_var rfl) (ev_var rfl) (rd_ixT (at_cp ?_))) ev_int (rd_ixT rfl)) (ev_var rfl) (rd_eq rfl rfl))) cond) (fun h => es_rt (es_retE ev_non ?_)) (fun h => es_nxS ?_)
  · simp at h
    omega
  · have hc : can s (turnDd up i) = false := by simpa using h
    rw [hc]; rfl
  · have hc : can s (turnDd up i) = true := by simpa using h
    have hi : i < s.cs.length := by
      cases up <;> simp [turnDd, can] at hc <;> exact hc.1
    rw [hc]
    refine es_seq (es_set (ev_call (ev_cons (ev_var rfl) (ev_cons (ev_var rfl) (ev_cons (ev_tup (ev_cons (ev_var rfl) (ev_star (ev_eqd (ev_slT (ev_op (ev_var rfl) (ev_var rfl) (rd_ixT (at_cp hi))) (ev_part ev_int) ev_none) (congrArg PyData.tuple (cutD_from _ 1))) ev_nil)) (Nat.le_of_ble_eq_true rfl)) ev_nil))) (I_with_copy (c := ⟨up, (cp s i).term, (cp s i).rows⟩) hi p0.len))) ?_
    refine es_retE (ev_tup (ev_cons (ev_var rfl) (ev_cons (ev_ifE (d := encO (if s.lead = some i then none else s.lead)) (b := decide (s.lead = some i)) (et_eqb (ev_test (ev_op (ev_var rfl) (ev_var rfl) (rd_eq (sh_encO _) rfl))) (eqv_encO _ _)) (fun h => ?_) (fun h => ?_)) (ev_cons (ev_var rfl) ev_nil))) (Nat.le_of_ble_eq_true rfl)) ?_
    · have h' : s.lead = some i := by simpa using h
      rw [if_pos h']
      exact ev_non
    · have h' : ¬ s.lead = some i := by simpa using h
      rw [if_neg h']
      exact ev_var rfl
    · cases up with
      | false => simp [turnDd, beh, encOpt, encSt]
      | true =>
        have h' : ¬ s.lead = some i := fun z => by
          have u := p0.up z
          simp [turnDd, can, u] at hc
        simp [turnDd, beh, encOpt, encSt, h']

abbrev s_committed_state : Stmt := top 25
abbrev N_committed_state : List Str := ["state", "fresh", "copies", "leader", "many", "first", "having", "one"]
theorem sc_committed_state : FnScope N_committed_state ["state", "fresh"] (defScope s_committed_state) := ⟨rfl, rfl, rfl, by decide +kernel, rfl, by decide +kernel, by decide +kernel⟩

theorem at_last {n : Nat} {rows : List K27.Row} (h1 : 1 ≤ n) (h2 : n ≤ rows.length) : atI ((rows.take n).map encRow) (-1) = some (encRow (rows.getD (n - 1) default)) := by
  have hl : ((rows.take n).map encRow).length = n := by simp; omega
  unfold atI ixN
  rw [hl, if_neg (by omega), if_pos (by omega)]
  show ((rows.take n).map encRow)[((-1 : Int) + (n : Nat)).toNat]? = _
  rw [show ((-1 : Int) + (n : Nat)).toNat = n - 1 by omega, List.getElem?_map, List.getElem?_take_of_lt (by omega), List.getElem?_eq_getElem (by omega : n - 1 < rows.length)]
  simp [List.getD_eq_getElem?_getD, List.getElem?_eq_getElem (by omega : n - 1 < rows.length)]
theorem encRows_take (rows : List K27.Row) (n : Nat) : (PyData.tuple (cutD (rows.map encRow) none (some ((n : Nat) : Int)))) = encRows (rows.take n) := by
  rw [cutD_to, ← List.map_take]
  rfl
theorem half_len (cs : List Cp) (p : Cp → Bool) : decide (((cs.length : Nat) : Int) < 2 * (((cs.filter p).length : Nat) : Int)) = half cs p := by
  unfold half
  rw [List.countP_eq_length_filter]
  by_cases h : 2 * (cs.filter p).length > cs.length
  · rw [decide_eq_true h]; exact decide_eq_true (by omega)
  · rw [decide_eq_false h]; exact decide_eq_false (by omega)
theorem cmul_l {i j : Int} (h1 : -(2 ^ 64) < i) (h2 : i < 2 ^ 64) : CMul i j := .inl ⟨h1, h2⟩

def F_committed_state : List PyData → PyData → Prop := fun ds z => ∃ (s : K27.St) (n : Nat), (Gd s) ∧ ds = [encSt s, .int n] ∧ z = encOpt (if can s (.commit n) then some (beh s (.commit n)) else none)
theorem I_committed_state {s : K27.St} {n : Nat} (p0 : Gd s) : F_committed_state [encSt s, .int n] (encOpt (if can s (.commit n) then some (beh s (.commit n)) else none)) := ⟨s, n, p0, rfl, rfl⟩
theorem R_committed_state {P : Program} {w : World} {K : PySem.W.Frag} {mg : Str → Option Value} {base : Heap} (T : Tx mg) (kn : Kn K mg "committed_state" s_committed_state ["state", "fresh"]) : Rdy P w K mg base 1 "committed_state" ["state", "fresh"] (spP K F_committed_state) := by
  refine rdy_of kn sc_committed_state (fun ds z h => ?_) (by decide) (fun f cdv A outer s H E hr ds z h => ?_)
  · obtain ⟨s, n, p0, rfl, rfl⟩ := h
    rfl
  obtain ⟨s, n, p0, rfl, rfl⟩ := h
  refine ⟨_, (pss_cons (ps_asg (pv 0) (pg_tup (by rfl) (pgs_cons (pg_name (i := 2) sc_committed_state.nd rfl (by first | exact Or.inl rfl | exact Or.inr rfl)) (pgs_cons (pg_name (i := 3) sc_committed_state.nd rfl (by first | exact Or.inl rfl | exact Or.inr rfl)) (pgs_cons (pg_name (i := 4) sc_committed_state.nd rfl (by first | exact Or.inl rfl | exact Or.inr rfl)) pgs_nil))))) (pss_cons (ps_if (PW.pt (pw_or (pt_cmp (pc_isN (pv 3)) rfl) (pw_or1 (pt_not (pt_chain op_lt op_le (pv 4) (pv 1) (pe_callB call_len_seq (by rfl) T.b_len bt_len (pa_cons (pe_ix ix_tup (pe_ix ix_tup (pv 2) (pv 3) (fun _ _ => rfl)) pe_int (fun _ _ => rfl)) pa_nil))))))) (pss_one (ps_ret pe_non)) pss_nil) (pss_cons (ps_set (i := 5) sc_committed_state.nd rfl (by first | exact Or.inl rfl | exact Or.inr rfl) (pe_slice sl_tupA (pe_ix ix_tup (pe_ix ix_tup (pv 2) (pv 3) (fun _ _ => rfl)) pe_int (fun _ _ => rfl)) po_none (po_some (pv 1)))) (pss_cons (ps_if (pt_cmpR (op_neD hr.units) (pe_ix ix_tup (pe_ix ix_tup (pv 5) (pe_un un_neg pe_int) (fun _ _ => rfl)) pe_int (fun _ _ => rfl)) (pe_ix ix_tup (pe_ix ix_tup (pv 2) (pv 3) (fun _ _ => rfl)) pe_int (fun _ _ => rfl)) (by first | rfl | exact nomark _)) (pss_one (ps_ret pe_non)) pss_nil) (pss_cons (ps_setLc (i := 6) (own := [("one", 7)]) (g := (gName 7)) (tt := (tTest (tOp (rEqD K) (tSl (rSlA K) (tOp (rIxT K) (tVar 7) (tC (.int 2))) tNoPart (tPart (tVar 1))) (tVar 5)))) (te := (tVar 7)) rfl sc_committed_state.nd rfl rfl (sw_true rfl rfl rfl (by decide +kernel)) (pi_tup (pv 2)) (blkOk_by (N := N_committed_state) (sc := defScope s_committed_state) (by decide +kernel)) (fun _ _ _ _ _ => by exact (pg_name (i := 7) sc_committed_state.nd rfl (by first | exact Or.inl rfl | exact Or.inr rfl))) (fun _ _ _ _ _ => by exact (pts_one (pt_cmpR (op_eqD hr.units) (pe_slice sl_tupA (pe_ix ix_tup (pv 7) pe_int (fun _ _ => rfl)) po_none (po_some (pv 1))) (pv 5) (by first | rfl | exact nomark _)))) (fun _ _ _ _ _ => by exact (pv 7))) (pss_one (ps_ret (pe_ifExp (pt_cmpR op_gt (pe_op op_mul pe_int (pe_callB call_len_seq (by rfl) T.b_len bt_len (pa_cons (pv 6) pa_nil))) (pe_callB call_len_seq (by rfl) T.b_len bt_len (pa_cons (pv 2) pa_nil)) (by first | rfl | exact nomark _)) (pe_tup (pa_cons (pv 2) (pa_cons (pv 3) (pa_cons (pv 1) pa_nil)))) pe_non)))))))), ?_⟩
  refine es_seq (es_asg (ev_var rfl) (by first | exact eg_tup (eg_cons eg_name (eg_cons eg_name (eg_cons eg_name eg_nil))) rfl | exact eg_lst (eg_cons eg_name (eg_cons eg_name (eg_cons eg_name eg_nil))) rfl)) ?_
  cases hl : s.lead with
  | none =>
    refine es_ifS (ev_orT (c := false) (ev_tB (ev_isN (ev_var rfl))) (fun h => absurd h (by first | (simp [encDd, encEv, encO, isNone, PyData.eqv, PyData.eqvAll]; done) | (simp [encDd, encEv, encO, isNone, PyData.eqv, PyData.eqvAll]; decide +kernel)))) (fun _ => es_rt (es_retE ev_non ?_)) (fun h => absurd h (by first | (simp [encDd, encEv, encO, isNone, PyData.eqv, PyData.eqvAll]; done) | (simp [encDd, encEv, encO, isNone, PyData.eqv, PyData.eqvAll]; decide +kernel)))
    simp [can, hl, encOpt]
  | some l =>
    have ll := p0.lead hl
    refine es_ifS (b := !(decide (s.done < n) && decide (n ≤ (cp s l).rows.length))) (et_eqb (ev_orT (ev_tB (ev_isN (ev_var rfl))) fun _ => ev_notT (ev_test (ev_chB (ev_var rfl) (ev_var rfl) rd_lt (ev_cb (ev_cons (ev_op (ev_op (ev_var rfl) (ev_var rfl) (rd_ixT (at_cp ll))) ev_int (rd_ixT rfl)) ev_nil) rc_lenT) rd_le))) ?_) (fun h => es_rt (es_retE ev_non ?_)) (fun h => es_nxS ?_)
    · simp [encO, isNone]
    · have h' := nt h
      have hc : can s (.commit n) = false := by simp only [can, hl, h', Bool.false_and]
      rw [hc]; rfl
    · have h' := nf h
      have h1 : s.done < n ∧ n ≤ (cp s l).rows.length := by simpa using h'
      refine es_seq (es_set (ev_eqd (ev_slT (ev_op (ev_op (ev_var rfl) (ev_var rfl) (rd_ixT (at_cp ll))) ev_int (rd_ixT rfl)) ev_none (ev_part (ev_var rfl))) (encRows_take _ _))) ?_
      refine es_ifS (b := !decide (((cp s l).rows.getD (n - 1) default).term = (cp s l).term)) (et_eqb (ev_test (ev_op (ev_op (ev_op (ev_var rfl) (ev_neg ev_int) (rd_ixT (at_last (by omega) h1.2))) ev_int (rd_ixT rfl)) (ev_op (ev_op (ev_var rfl) (ev_var rfl) (rd_ixT (at_cp ll))) ev_int (rd_ixT rfl)) (rd_ne rfl rfl))) ?_) (fun h2 => es_rt (es_retE ev_non ?_)) (fun h2 => es_nxS ?_)
      · rw [eqv_int]
        exact congrArg _ (decide_eq_decide.mpr (by omega))
      · have h3 := nt h2
        have hc : can s (.commit n) = false := by simp only [can, hl, h3, Bool.and_false, Bool.false_and]
        rw [hc]; rfl
      · have h3 := nf h2
        have hc : can s (.commit n) = half s.cs (hasFirst (cp s l).rows n) := by simp only [can, hl, h3, h', Bool.and_true, Bool.true_and, decide_eq_true h1.1, decide_eq_true h1.2]
        rw [hc]
        have sz : (s.cs.map encCp).length ≤ sizeLine := Nat.le_trans (m := 5) (by rw [List.length_map]; exact p0.len) (by decide)
        refine es_seq (es_set (ev_lc (ei_tup (ev_var rfl)) (lr_filter (c := encCp) (f := encCp) (p := hasFirst (cp s l).rows n) (by simp) s.cs fun c hc => ⟨eg_name, ?_, ev_var rfl⟩) sz)) ?_
        · refine et_eqb (ev_test (ev_op (ev_eqd (ev_slT (ev_op (ev_var rfl) ev_int (rd_ixT rfl)) ev_none (ev_part (ev_var rfl))) (encRows_take _ _)) (ev_var rfl) (rd_eq (sh_rows _) (sh_rows _)))) ?_
          rw [eqv_rows]
          rfl
        · refine es_ret (ev_ifE (b := half s.cs (hasFirst (cp s l).rows n)) (et_eqb (ev_test (ev_op (ev_op ev_int (ev_cb (ev_cons (ev_var rfl) ev_nil) rc_lenL) (rd_mul (cmul_l (by decide) (by decide)))) (ev_cb (ev_cons (ev_var rfl) ev_nil) rc_lenT) rd_gt)) ?_) (fun h4 => ?_) (fun h4 => ?_))
          · rw [List.length_map, List.length_map, half_len]
          · rw [h4]
            exact ev_eqd (ev_tup (ev_cons (ev_var rfl) (ev_cons (ev_var rfl) (ev_cons (ev_var rfl) ev_nil))) (Nat.le_of_ble_eq_true rfl)) (by simp [beh, hl, encOpt, encSt])
          · rw [h4]
            exact ev_non

end KD

/-! KF6: elections, deeds, plays. -/
namespace KD
open PySem L2 PySem.Spec PyProof.Rows K27
theorem maxT_in (cs : List Cp) : ∀ (vs : List Nat) (m : Nat), vs.foldl (fun m v => max m (cs.getD v default).term) m = m ∨ ∃ v ∈ vs, (cs.getD v default).term = vs.foldl (fun m v => max m (cs.getD v default).term) m
  | [], m => .inl rfl
  | v :: vs, m => by
    show vs.foldl _ (max m (cs.getD v default).term) = m ∨ ∃ u ∈ v :: vs, (cs.getD u default).term = vs.foldl _ (max m (cs.getD v default).term)
    rcases maxT_in cs vs (max m (cs.getD v default).term) with h | ⟨u, hu, h⟩
    · rw [h]
      rcases Nat.le_total (cs.getD v default).term m with z | z
      · exact .inl (Nat.max_eq_left z)
      · exact .inr ⟨v, List.mem_cons_self, (Nat.max_eq_right z).symm⟩
    · exact .inr ⟨u, List.mem_cons_of_mem _ hu, h⟩
theorem maxT_is (s : K27.St) (vs : List Nat) (k : Int) (hk : k ∈ vs.map fun v => (((cp s v).term : Nat) : Int)) (hall : ∀ y ∈ vs.map fun v => (((cp s v).term : Nat) : Int), y ≤ k) : k = ((maxT s.cs vs : Nat) : Int) := by
  obtain ⟨h1, h2⟩ := maxT_ge (cs := s.cs) vs 0
  obtain ⟨v, hv, e⟩ := List.mem_map.mp hk
  have a1 : (cp s v).term ≤ maxT s.cs vs := h2 v hv
  have a2 : ((maxT s.cs vs : Nat) : Int) ≤ k := by
    rcases maxT_in s.cs vs 0 with z | ⟨u, hu, z⟩
    · have : maxT s.cs vs = 0 := z
      omega
    · have := hall _ (List.mem_map.mpr ⟨u, hu, rfl⟩)
      have z' : (cp s u).term = maxT s.cs vs := z
      omega
  omega
theorem rising_last : ∀ (vs : List Nat) (n : Nat), rising vs = true → (h : vs ≠ []) → (vs.all (fun v => decide (v < n))) = decide (vs.getLast h < n)
  | [a], n, _, _ => by
    show (decide (a < n) && true) = _
    rw [Bool.and_true]
    rfl
  | a :: b :: r, n, hr, _ => by
    simp only [rising, Bool.and_eq_true, decide_eq_true_iff] at hr
    have ih := rising_last (b :: r) n hr.2 (by simp)
    rw [List.all_cons, ih, List.getLast_cons (by simp : b :: r ≠ [])]
    have hle : b ≤ (b :: r).getLast (by simp) := by
      have := (rising_nodup hr.2).2 b r rfl
      rcases List.mem_cons.mp (List.getLast_mem (by simp : b :: r ≠ [])) with e | e
      · rw [e]; exact Nat.le_refl _
      · exact Nat.le_of_lt (this _ e)
    by_cases q : (b :: r).getLast (by simp) < n
    · rw [decide_eq_true q, decide_eq_true (by omega)]; rfl
    · rw [decide_eq_false q, Bool.and_false]
theorem at_end (vs : List Nat) (h : vs ≠ []) : atI (nats vs) (-1) = some (.int (vs.getLast h : Nat)) := by
  have hl : 0 < vs.length := List.length_pos_iff.mpr h
  unfold atI ixN nats
  rw [List.length_map, if_neg (by omega), if_pos (by omega)]
  show (vs.map _)[((-1 : Int) + (vs.length : Nat)).toNat]? = _
  rw [show ((-1 : Int) + (vs.length : Nat)).toNat = vs.length - 1 by omega, List.getElem?_map, ← List.getLast?_eq_getElem?, List.getLast?_eq_some_getLast h]
  rfl

abbrev s_elected : Stmt := top 22
abbrev N_elected : List Str := ["state", "number", "voters", "copies", "leader", "many", "term", "one"]
theorem sc_elected : FnScope N_elected ["state", "number", "voters"] (defScope s_elected) := ⟨rfl, rfl, rfl, by decide +kernel, rfl, by decide +kernel, by decide +kernel⟩

theorem elect_cond {s : K27.St} {i : Nat} {vs : List Nat} (hr : rising vs = true) (hne : vs ≠ []) :
    (decide (2 * ((vs.length : Nat) : Int) ≤ (s.cs.length : Nat)) || (decide (((s.cs.length : Nat) : Int) ≤ (vs.getLast hne : Nat)) || !vs.contains i)) = !(decide (2 * vs.length > s.cs.length) && vs.all (fun v => decide (v < s.cs.length)) && vs.contains i) := by
  rw [rising_last vs _ hr hne, Bool.not_and, Bool.not_and, Bool.or_assoc]
  congr 1
  · by_cases h : 2 * vs.length > s.cs.length
    · rw [decide_eq_true h, decide_eq_false (by omega)]; rfl
    · rw [decide_eq_false h, decide_eq_true (by omega)]; rfl
  · congr 1
    by_cases h : vs.getLast hne < s.cs.length
    · rw [decide_eq_true h, decide_eq_false (by omega)]; rfl
    · rw [decide_eq_false h, decide_eq_true (by omega)]; rfl
theorem fr_elect {K : PySem.W.Frag} {g : TG} {tb : TS} {t : Nat} (I : List Cp → En → Prop)
    (step : ∀ v cs ρ, v < cs.length → cs.length ≤ 5 → I cs ρ → ∃ ρ1 is ρ2, EvG K g (.int (v : Nat)) ρ ρ1 is ∧ EvS K tb ρ1 (.nx ρ2) ∧ I (cs.set v ⟨true, t, (cs.getD v default).rows⟩) ρ2) :
    ∀ (vs : List Nat) (cs : List Cp) (ρ : En), (∀ v ∈ vs, v < cs.length) → cs.length ≤ 5 → I cs ρ → ∃ ρ', FR K g tb (nats vs) ρ (.nx ρ') ∧ I (setTerms t vs cs) ρ'
  | [], cs, ρ, _, _, i => ⟨ρ, .nil, i⟩
  | v :: vs, cs, ρ, hv, hl, i => by
    obtain ⟨ρ1, is, ρ2, h1, h2, i2⟩ := step v cs ρ (hv v List.mem_cons_self) hl i
    obtain ⟨ρ', f, i'⟩ := fr_elect I step vs (cs.set v ⟨true, t, (cs.getD v default).rows⟩) ρ2 (fun u hu => by rw [List.length_set]; exact hv u (List.mem_cons_of_mem _ hu)) (by rw [List.length_set]; exact hl) i2
    exact ⟨ρ', .next h1 h2 f, i'⟩
theorem es_elect {K : PySem.W.Frag} {g : TG} {tb u : TS} {wi : TI} {ρ : En} {o : Out} {vs : List Nat} {cs : List Cp} (t : Nat) (I : List Cp → En → Prop) (h0 : EvI K wi ρ (nats vs)) (hρ : I cs ρ) (hv : ∀ v ∈ vs, v < cs.length) (hl : cs.length ≤ 5)
    (step : ∀ v cs ρ, v < cs.length → cs.length ≤ 5 → I cs ρ → ∃ ρ1 is ρ2, EvG K g (.int (v : Nat)) ρ ρ1 is ∧ EvS K tb ρ1 (.nx ρ2) ∧ I (cs.set v ⟨true, t, (cs.getD v default).rows⟩) ρ2)
    (rest : ∀ ρ', I (setTerms t vs cs) ρ' → EvS K u ρ' o) : EvS K (tSeq (tFor wi g tb) u) ρ o := by
  obtain ⟨ρ', f, i⟩ := fr_elect I step vs cs ρ hv hl hρ
  exact es_seq (es_for h0 f) (rest ρ' i)
theorem at_cs {cs : List Cp} {i : Nat} (h : i < cs.length) : atI (cs.map encCp) ((i : Nat) : Int) = some (encCp (cs.getD i default)) := at_map (by simp [List.getD_eq_getElem?_getD, List.getElem?_eq_getElem h])

def F_elected : List PyData → PyData → Prop := fun ds z => ∃ (s : K27.St) (i : Nat) (vs : List Nat), (Gd s) ∧ (form (.elect i vs) = true) ∧ (vs.length ≤ 10) ∧ ds = [encSt s, .int i, .tuple (nats vs)] ∧ z = encOpt (if can s (.elect i vs) then some (beh s (.elect i vs)) else none)
theorem I_elected {s : K27.St} {i : Nat} {vs : List Nat} (p0 : Gd s) (p1 : form (.elect i vs) = true) (p2 : vs.length ≤ 10) : F_elected [encSt s, .int i, .tuple (nats vs)] (encOpt (if can s (.elect i vs) then some (beh s (.elect i vs)) else none)) := ⟨s, i, vs, p0, p1, p2, rfl, rfl⟩
theorem R_elected {P : Program} {w : World} {K : PySem.W.Frag} {mg : Str → Option Value} {base : Heap} (T : Tx mg) (kn : Kn K mg "elected" s_elected ["state", "number", "voters"]) (R_with_copy : Rdy P w K mg base 1 "with_copy" ["copies", "number", "fresh"] (spP K F_with_copy)) (R_are_newer : Rdy P w K mg base 2 "are_newer" ["rows", "other"] (spP K F_are_newer)) : Rdy P w K mg base 3 "elected" ["state", "number", "voters"] (spP K F_elected) := by
  refine rdy_of kn sc_elected (fun ds z h => ?_) (by decide) (fun f cdv A outer s H E hr ds z h => ?_)
  · obtain ⟨s, i, vs, p0, p1, p2, rfl, rfl⟩ := h
    rfl
  obtain ⟨s, i, vs, p0, p1, p2, rfl, rfl⟩ := h
  refine ⟨_, (pss_cons (ps_asg (pv 0) (pg_tup (by rfl) (pgs_cons (pg_name (i := 3) sc_elected.nd rfl (by first | exact Or.inl rfl | exact Or.inr rfl)) (pgs_cons (pg_name (i := 4) sc_elected.nd rfl (by first | exact Or.inl rfl | exact Or.inr rfl)) (pgs_cons (pg_name (i := 5) sc_elected.nd rfl (by first | exact Or.inl rfl | exact Or.inr rfl)) pgs_nil))))) (pss_cons (ps_if (PW.pt (pw_or (pt_cmpR op_le (pe_op op_mul pe_int (pe_callB call_len_seq (by rfl) T.b_len bt_len (pa_cons (pv 2) pa_nil))) (pe_callB call_len_seq (by rfl) T.b_len bt_len (pa_cons (pv 3) pa_nil)) (by first | rfl | exact nomark _)) (pw_or (pt_cmpR op_ge (pe_ix ix_tup (pv 2) (pe_un un_neg pe_int) (fun _ _ => rfl)) (pe_callB call_len_seq (by rfl) T.b_len bt_len (pa_cons (pv 3) pa_nil)) (by first | rfl | exact nomark _)) (pw_or1 (pt_cmpR op_notIn_seq (pv 1) (pv 2) (by first | rfl | exact nomark _)))))) (pss_one (ps_ret pe_non)) pss_nil) (pss_cons (ps_if (pt_not (pt_val (pe_callB (cr_all rfl) (by rfl) T.b_all bt_all (pa_cons (pe_lc (own := [("one", 7)]) (g := (gName 7)) (tt := tYes) (te := (tAndV (tOp (rIxT K) (tOp (rIxT K) (tVar 3) (tVar 7)) (tC (.int 0))) (tNotV (tCall (spP K F_are_newer) [] E0 (tCons (tOp (rIxT K) (tOp (rIxT K) (tVar 3) (tVar 7)) (tC (.int 2))) (tCons (tOp (rIxT K) (tOp (rIxT K) (tVar 3) (tVar 1)) (tC (.int 2))) tNil)))))) rfl sc_elected.nd (pi_tup (pv 2)) (blkOk_by (N := N_elected) (sc := defScope s_elected) (by decide +kernel)) (fun _ _ _ _ _ => by exact (pg_name (i := 7) sc_elected.nd rfl (by first | exact Or.inl rfl | exact Or.inr rfl))) (fun _ _ _ _ _ => by exact pts_nil) (fun _ _ _ _ _ => by exact (pe_and (pe_ix ix_tup (pe_ix ix_tup (pv 3) (pv 7) (fun _ _ => rfl)) pe_int (fun _ _ => rfl)) (pe_one (pe_not (pe_fn R_are_newer (hr.mono (by decide)) (by rfl) (pa_cons (pe_ix ix_tup (pe_ix ix_tup (pv 3) (pv 7) (fun _ _ => rfl)) pe_int (fun _ _ => rfl)) (pa_cons (pe_ix ix_tup (pe_ix ix_tup (pv 3) (pv 1) (fun _ _ => rfl)) pe_int (fun _ _ => rfl)) pa_nil)))))))) pa_nil)))) (pss_one (ps_ret pe_non)) pss_nil) (pss_cons (ps_set (i := 6) sc_elected.nd rfl (by first | exact Or.inl rfl | exact Or.inr rfl) (pe_op op_add (pe_callB (cr_max rfl) (by rfl) T.b_max bt_max (pa_cons (pe_lc (own := [("one", 7)]) (g := (gName 7)) (tt := tYes) (te := (tOp (rIxT K) (tOp (rIxT K) (tVar 3) (tVar 7)) (tC (.int 1)))) rfl sc_elected.nd (pi_tup (pv 2)) (blkOk_by (N := N_elected) (sc := defScope s_elected) (by decide +kernel)) (fun _ _ _ _ _ => by exact (pg_name (i := 7) sc_elected.nd rfl (by first | exact Or.inl rfl | exact Or.inr rfl))) (fun _ _ _ _ _ => by exact pts_nil) (fun _ _ _ _ _ => by exact (pe_ix ix_tup (pe_ix ix_tup (pv 3) (pv 7) (fun _ _ => rfl)) pe_int (fun _ _ => rfl)))) pa_nil)) pe_int)) (pss_cons (ps_for PassesOwn.never rfl (pi_tup (pv 2)) (pg_name (i := 7) sc_elected.nd rfl (by first | exact Or.inl rfl | exact Or.inr rfl)) (pss_one (ps_set (i := 3) sc_elected.nd rfl (by first | exact Or.inl rfl | exact Or.inr rfl) (pe_fn R_with_copy (hr.mono (by decide)) (by rfl) (pa_cons (pv 3) (pa_cons (pv 7) (pa_cons (pe_tup (pa_cons pe_bl (pa_cons (pv 6) (pa_cons (pe_ix ix_tup (pe_ix ix_tup (pv 3) (pv 7) (fun _ _ => rfl)) pe_int (fun _ _ => rfl)) pa_nil)))) pa_nil))))))) (pss_one (ps_ret (pe_tup (pa_cons (pv 3) (pa_cons (pv 1) (pa_cons (pv 5) pa_nil))))))))))), ?_⟩
  have hform : (i ≤ 4 ∧ ∀ v ∈ vs, v ≤ 4) ∧ rising vs = true := by
    simpa [form] using p1
  have hris := hform.2
  refine es_seq (es_asg (ev_var rfl) (by first | exact eg_tup (eg_cons eg_name (eg_cons eg_name (eg_cons eg_name eg_nil))) rfl | exact eg_lst (eg_cons eg_name (eg_cons eg_name (eg_cons eg_name eg_nil))) rfl)) ?_
  by_cases hq : 2 * vs.length ≤ s.cs.length
  · have hc : can s (.elect i vs) = false := by
      simp only [can]
      rw [decide_eq_false (by omega : ¬ 2 * vs.length > s.cs.length)]
      rfl
    rw [hc]
    refine es_ifS (ev_orT (c := false) (ev_test (ev_op (ev_op ev_int (ev_cb (ev_cons (ev_var rfl) ev_nil) rc_lenT) (rd_mul (cmul_l (by decide) (by decide)))) (ev_cb (ev_cons (ev_var rfl) ev_nil) rc_lenT) rd_le)) (fun h => absurd h (by simp [nats]; omega))) (fun _ => es_rt (es_ret ev_non)) (fun h => absurd h (by simp [nats]; omega))
  · have hne : vs ≠ [] := by
      rintro rfl
      exact hq (Nat.zero_le _)
    refine es_ifS (b := !(decide (2 * vs.length > s.cs.length) && vs.all (fun v => decide (v < s.cs.length)) && vs.contains i)) (et_eqb (ev_orT (ev_test (ev_op (ev_op ev_int (ev_cb (ev_cons (ev_var rfl) ev_nil) rc_lenT) (rd_mul (cmul_l (by decide) (by decide)))) (ev_cb (ev_cons (ev_var rfl) ev_nil) rc_lenT) rd_le)) fun _ => ev_orT (ev_test (ev_op (ev_op (ev_var rfl) (ev_neg ev_int) (rd_ixT (at_end vs hne))) (ev_cb (ev_cons (ev_var rfl) ev_nil) rc_lenT) rd_ge)) fun _ => ev_test (ev_op (ev_var rfl) (ev_eqd (ev_var rfl) (congrArg PyData.tuple (nats_eq vs))) rd_inI)) ?_) (fun h => es_rt (es_retE ev_non ?_)) (fun h => es_nxS ?_)
    · rw [← elect_cond hris hne, List.length_map]
      show (decide (2 * (((nats vs).length : Nat) : Int) ≤ _) || (_ || !(vs.map fun v => ((v : Nat) : Int)).contains ((i : Nat) : Int))) = _
      rw [nats_has, show (nats vs).length = vs.length from List.length_map _]
    · have hc : can s (.elect i vs) = false := by
        simp only [can]
        rw [nt h, Bool.false_and]
      rw [hc]; rfl
    · have h1 := nf h
      have h2 : (∀ v ∈ vs, v < s.cs.length) ∧ i ∈ vs := by
        simp only [Bool.and_eq_true, List.all_eq_true, decide_eq_true_iff, List.contains_iff_mem] at h1
        exact ⟨h1.1.2, h1.2⟩
      have hi := h2.1 i h2.2
      have sz : (nats vs).length ≤ sizeLine := Nat.le_trans (m := 20) (by simp [nats]; omega) (by decide)
      refine es_ifS (b := !vs.all fun v => (cp s v).up && !newer (cp s v).rows (cp s i).rows) (ev_notT (ev_tB ?_)) (fun h3 => es_rt (es_retE ev_non ?_)) (fun h3 => es_nxS ?_)
      · refine ev_eqd (ev_cb (ev_cons (ev_eqd (ev_lc (ei_tup (ev_var rfl)) (lr_map (c := fun v : Nat => .int (v : Nat)) (f := fun v => .bool ((cp s v).up && !newer (cp s v).rows (cp s i).rows)) (by simp) vs fun v hv => ⟨eg_name, ev_andB (ev_op (ev_op (ev_var rfl) (ev_var rfl) (rd_ixT (at_cp (h2.1 v hv)))) ev_int (rd_ixT rfl)) fun _ => ev_notV (ev_call (ev_cons (ev_op (ev_op (ev_var rfl) (ev_var rfl) (rd_ixT (at_cp (h2.1 v hv)))) ev_int (rd_ixT rfl)) (ev_cons (ev_op (ev_op (ev_var rfl) (ev_var rfl) (rd_ixT (at_cp hi))) ev_int (rd_ixT rfl)) ev_nil)) I_are_newer)⟩) sz) (congrArg PyData.list List.map_map.symm)) ev_nil) rc_all) (congrArg PyData.bool ?_)
        rw [List.all_map]
        rfl
      · have hc : can s (.elect i vs) = false := by
          simp only [can]
          rw [nt h3, Bool.and_false]
        rw [hc]; rfl
      · have hc : can s (.elect i vs) = true := by
          simp only [can]
          rw [h1, nf h3]
          rfl
        rw [hc]
        refine es_seq (es_set (ev_op (ev_cb (ev_cons (ev_eqd (ev_lc (ei_tup (ev_var rfl)) (lr_map (c := fun v : Nat => .int (v : Nat)) (f := fun v => .int ((cp s v).term : Nat)) (by simp) vs fun v hv => ⟨eg_name, ev_op (ev_op (ev_var rfl) (ev_var rfl) (rd_ixT (at_cp (h2.1 v hv)))) ev_int (rd_ixT rfl)⟩) sz) (congrArg PyData.list List.map_map.symm)) ev_nil) (rc_max (by rw [List.length_map]; exact List.length_pos_iff.mpr hne) (maxT_is s vs))) ev_int rd_add)) ?_
        refine es_elect (cs := s.cs) (maxT s.cs vs + 1) (fun cs ρ => ∃ o, ρ = [some (encSt s), some (.int (i : Nat)), some (.tuple (nats vs)), some (.tuple (cs.map encCp)), some (encO s.lead), some (.int (s.done : Nat)), some (.int ((maxT s.cs vs : Nat) + 1)), o]) (ei_tup (ev_var rfl)) ⟨none, rfl⟩ h2.1 p0.len ?_ ?_
        · rintro v cs ρ hv hl ⟨o, rfl⟩
          exact ⟨_, _, _, eg_name, es_set (ev_call (ev_cons (ev_var rfl) (ev_cons (ev_var rfl) (ev_cons (ev_tup (ev_cons ev_bl (ev_cons (ev_var rfl) (ev_cons (ev_op (ev_op (ev_var rfl) (ev_var rfl) (rd_ixT (at_cs hv))) ev_int (rd_ixT rfl)) ev_nil))) (Nat.le_of_ble_eq_true rfl)) ev_nil))) (I_with_copy (c := ⟨true, maxT s.cs vs + 1, (cs.getD v default).rows⟩) hv hl)), ⟨_, rfl⟩⟩
        · rintro ρ' ⟨o, rfl⟩
          exact es_retE (ev_tup (ev_cons (ev_var rfl) (ev_cons (ev_var rfl) (ev_cons (ev_var rfl) ev_nil))) (Nat.le_of_ble_eq_true rfl)) (by simp [beh, encOpt, encSt, encO])

abbrev s_behind_deed : Stmt := top 27
abbrev N_behind_deed : List Str := ["state", "deed"]
theorem sc_behind_deed : FnScope N_behind_deed ["state", "deed"] (defScope s_behind_deed) := ⟨rfl, rfl, rfl, by decide +kernel, rfl, by decide +kernel, by decide +kernel⟩


def F_behind_deed : List PyData → PyData → Prop := fun ds z => ∃ (s : K27.St) (d : Dd), (Gd s) ∧ (fit d) ∧ ds = [encSt s, encDd d] ∧ z = encOpt (if ok s d then some (beh s d) else none)
theorem I_behind_deed {s : K27.St} {d : Dd} (p0 : Gd s) (p1 : fit d) : F_behind_deed [encSt s, encDd d] (encOpt (if ok s d then some (beh s d) else none)) := ⟨s, d, p0, p1, rfl, rfl⟩
theorem R_behind_deed {P : Program} {w : World} {K : PySem.W.Frag} {mg : Str → Option Value} {base : Heap} (T : Tx mg) (kn : Kn K mg "behind_deed" s_behind_deed ["state", "deed"]) (R_turned_state : Rdy P w K mg base 2 "turned_state" ["state", "number", "up"] (spP K F_turned_state)) (R_committed_state : Rdy P w K mg base 1 "committed_state" ["state", "fresh"] (spP K F_committed_state)) (R_copied : Rdy P w K mg base 2 "copied" ["state", "number"] (spP K F_copied)) (R_appended : Rdy P w K mg base 2 "appended" ["state", "event"] (spP K F_appended)) (R_elected : Rdy P w K mg base 3 "elected" ["state", "number", "voters"] (spP K F_elected)) (R_is_deed_form : Rdy P w K mg base 3 "is_deed_form" ["value"] (spP K F_is_deed_form)) : Rdy P w K mg base 4 "behind_deed" ["state", "deed"] (spP K F_behind_deed) := by
  refine rdy_of kn sc_behind_deed (fun ds z h => ?_) (by decide) (fun f cdv A outer s H E hr ds z h => ?_)
  · obtain ⟨s, d, p0, p1, rfl, rfl⟩ := h
    rfl
  obtain ⟨s, d, p0, p1, rfl, rfl⟩ := h
  refine ⟨_, (pss_cons (ps_if (pt_not (pt_val (pe_fn R_is_deed_form (hr.mono (by decide)) (by rfl) (pa_cons (pv 1) pa_nil)))) (pss_one (ps_ret pe_non)) pss_nil) (pss_cons (ps_if (pt_cmpR (op_eqD hr.units) (pe_ix ix_tup (pv 1) pe_int (fun _ _ => rfl)) pe_str (by first | rfl | exact nomark _)) (pss_one (ps_ret (pe_fn R_elected (hr.mono (by decide)) (by rfl) (pa_cons (pv 0) (pa_cons (pe_ix ix_tup (pv 1) pe_int (fun _ _ => rfl)) (pa_cons (pe_ix ix_tup (pv 1) pe_int (fun _ _ => rfl)) pa_nil)))))) pss_nil) (pss_cons (ps_if (pt_cmpR (op_eqD hr.units) (pe_ix ix_tup (pv 1) pe_int (fun _ _ => rfl)) pe_str (by first | rfl | exact nomark _)) (pss_one (ps_ret (pe_fn R_appended (hr.mono (by decide)) (by rfl) (pa_cons (pv 0) (pa_cons (pe_ix ix_tup (pv 1) pe_int (fun _ _ => rfl)) pa_nil))))) pss_nil) (pss_cons (ps_if (pt_cmpR (op_eqD hr.units) (pe_ix ix_tup (pv 1) pe_int (fun _ _ => rfl)) pe_str (by first | rfl | exact nomark _)) (pss_one (ps_ret (pe_fn R_copied (hr.mono (by decide)) (by rfl) (pa_cons (pv 0) (pa_cons (pe_ix ix_tup (pv 1) pe_int (fun _ _ => rfl)) pa_nil))))) pss_nil) (pss_cons (ps_if (pt_cmpR (op_eqD hr.units) (pe_ix ix_tup (pv 1) pe_int (fun _ _ => rfl)) pe_str (by first | rfl | exact nomark _)) (pss_one (ps_ret (pe_fn R_committed_state (hr.mono (by decide)) (by rfl) (pa_cons (pv 0) (pa_cons (pe_ix ix_tup (pv 1) pe_int (fun _ _ => rfl)) pa_nil))))) pss_nil) (pss_one (ps_ret (pe_fn R_turned_state (hr.mono (by decide)) (by rfl) (pa_cons (pv 0) (pa_cons (pe_ix ix_tup (pv 1) pe_int (fun _ _ => rfl)) (pa_cons (pe_cmpR (op_eqD hr.units) (pe_ix ix_tup (pv 1) pe_int (fun _ _ => rfl)) pe_str (by first | rfl | exact nomark _)) pa_nil))))))))))), ?_⟩
  refine es_ifS (ev_notT (ev_tB (ev_call (ev_cons (ev_var rfl) ev_nil) (I_is_deed_form p1)))) (fun h => es_rt (es_retE ev_non ?_)) (fun h => es_nxS ?_)
  · rw [show ok s d = false by simp only [ok]; rw [nt h, Bool.false_and]]
    rfl
  · have hf := nf h
    have ho : ok s d = can s d := by simp only [ok]; rw [hf, Bool.true_and]
    rw [ho]
    cases d with
    | elect i vs => exact es_ifS (ev_test (ev_op (ev_op (ev_var rfl) ev_int (by first | exact rd_ixT rfl | exact rd_ixL rfl)) ev_str (rd_eq (by first | rfl | exact sh_rows _ | exact sh_ev _ | exact sh_dd _ | decide +kernel) (by first | rfl | exact sh_rows _ | exact sh_ev _ | exact sh_dd _ | decide +kernel)))) (fun _ => es_rt (es_ret (ev_call (ev_cons (ev_var rfl) (ev_cons (ev_op (ev_var rfl) ev_int (by first | exact rd_ixT rfl | exact rd_ixL rfl)) (ev_cons (ev_op (ev_var rfl) ev_int (by first | exact rd_ixT rfl | exact rd_ixL rfl)) ev_nil))) (I_elected p0 hf p1)))) (fun h => absurd h (by first | (simp [encDd, encEv, encO, isNone, PyData.eqv, PyData.eqvAll]; done) | (simp [encDd, encEv, encO, isNone, PyData.eqv, PyData.eqvAll]; decide +kernel)))
    | append e =>
      refine es_ifS (ev_test (ev_op (ev_op (ev_var rfl) ev_int (by first | exact rd_ixT rfl | exact rd_ixL rfl)) ev_str (rd_eq (by first | rfl | exact sh_rows _ | exact sh_ev _ | exact sh_dd _ | decide +kernel) (by first | rfl | exact sh_rows _ | exact sh_ev _ | exact sh_dd _ | decide +kernel)))) (fun h => absurd h (by first | (simp [encDd, encEv, encO, isNone, PyData.eqv, PyData.eqvAll]; done) | (simp [encDd, encEv, encO, isNone, PyData.eqv, PyData.eqvAll]; decide +kernel))) fun _ => es_nxS ?_
      exact es_ifS (ev_test (ev_op (ev_op (ev_var rfl) ev_int (by first | exact rd_ixT rfl | exact rd_ixL rfl)) ev_str (rd_eq (by first | rfl | exact sh_rows _ | exact sh_ev _ | exact sh_dd _ | decide +kernel) (by first | rfl | exact sh_rows _ | exact sh_ev _ | exact sh_dd _ | decide +kernel)))) (fun _ => es_rt (es_ret (ev_call (ev_cons (ev_var rfl) (ev_cons (ev_op (ev_var rfl) ev_int (by first | exact rd_ixT rfl | exact rd_ixL rfl)) ev_nil)) (I_appended p0 p1)))) (fun h => absurd h (by first | (simp [encDd, encEv, encO, isNone, PyData.eqv, PyData.eqvAll]; done) | (simp [encDd, encEv, encO, isNone, PyData.eqv, PyData.eqvAll]; decide +kernel)))
    | copy i =>
      refine es_ifS (ev_test (ev_op (ev_op (ev_var rfl) ev_int (by first | exact rd_ixT rfl | exact rd_ixL rfl)) ev_str (rd_eq (by first | rfl | exact sh_rows _ | exact sh_ev _ | exact sh_dd _ | decide +kernel) (by first | rfl | exact sh_rows _ | exact sh_ev _ | exact sh_dd _ | decide +kernel)))) (fun h => absurd h (by first | (simp [encDd, encEv, encO, isNone, PyData.eqv, PyData.eqvAll]; done) | (simp [encDd, encEv, encO, isNone, PyData.eqv, PyData.eqvAll]; decide +kernel))) fun _ => es_nxS ?_
      refine es_ifS (ev_test (ev_op (ev_op (ev_var rfl) ev_int (by first | exact rd_ixT rfl | exact rd_ixL rfl)) ev_str (rd_eq (by first | rfl | exact sh_rows _ | exact sh_ev _ | exact sh_dd _ | decide +kernel) (by first | rfl | exact sh_rows _ | exact sh_ev _ | exact sh_dd _ | decide +kernel)))) (fun h => absurd h (by first | (simp [encDd, encEv, encO, isNone, PyData.eqv, PyData.eqvAll]; done) | (simp [encDd, encEv, encO, isNone, PyData.eqv, PyData.eqvAll]; decide +kernel))) fun _ => es_nxS ?_
      exact es_ifS (ev_test (ev_op (ev_op (ev_var rfl) ev_int (by first | exact rd_ixT rfl | exact rd_ixL rfl)) ev_str (rd_eq (by first | rfl | exact sh_rows _ | exact sh_ev _ | exact sh_dd _ | decide +kernel) (by first | rfl | exact sh_rows _ | exact sh_ev _ | exact sh_dd _ | decide +kernel)))) (fun _ => es_rt (es_ret (ev_call (ev_cons (ev_var rfl) (ev_cons (ev_op (ev_var rfl) ev_int (by first | exact rd_ixT rfl | exact rd_ixL rfl)) ev_nil)) (I_copied p0)))) (fun h => absurd h (by first | (simp [encDd, encEv, encO, isNone, PyData.eqv, PyData.eqvAll]; done) | (simp [encDd, encEv, encO, isNone, PyData.eqv, PyData.eqvAll]; decide +kernel)))
    | commit n =>
      refine es_ifS (ev_test (ev_op (ev_op (ev_var rfl) ev_int (by first | exact rd_ixT rfl | exact rd_ixL rfl)) ev_str (rd_eq (by first | rfl | exact sh_rows _ | exact sh_ev _ | exact sh_dd _ | decide +kernel) (by first | rfl | exact sh_rows _ | exact sh_ev _ | exact sh_dd _ | decide +kernel)))) (fun h => absurd h (by first | (simp [encDd, encEv, encO, isNone, PyData.eqv, PyData.eqvAll]; done) | (simp [encDd, encEv, encO, isNone, PyData.eqv, PyData.eqvAll]; decide +kernel))) fun _ => es_nxS ?_
      refine es_ifS (ev_test (ev_op (ev_op (ev_var rfl) ev_int (by first | exact rd_ixT rfl | exact rd_ixL rfl)) ev_str (rd_eq (by first | rfl | exact sh_rows _ | exact sh_ev _ | exact sh_dd _ | decide +kernel) (by first | rfl | exact sh_rows _ | exact sh_ev _ | exact sh_dd _ | decide +kernel)))) (fun h => absurd h (by first | (simp [encDd, encEv, encO, isNone, PyData.eqv, PyData.eqvAll]; done) | (simp [encDd, encEv, encO, isNone, PyData.eqv, PyData.eqvAll]; decide +kernel))) fun _ => es_nxS ?_
      refine es_ifS (ev_test (ev_op (ev_op (ev_var rfl) ev_int (by first | exact rd_ixT rfl | exact rd_ixL rfl)) ev_str (rd_eq (by first | rfl | exact sh_rows _ | exact sh_ev _ | exact sh_dd _ | decide +kernel) (by first | rfl | exact sh_rows _ | exact sh_ev _ | exact sh_dd _ | decide +kernel)))) (fun h => absurd h (by first | (simp [encDd, encEv, encO, isNone, PyData.eqv, PyData.eqvAll]; done) | (simp [encDd, encEv, encO, isNone, PyData.eqv, PyData.eqvAll]; decide +kernel))) fun _ => es_nxS ?_
      exact es_ifS (ev_test (ev_op (ev_op (ev_var rfl) ev_int (by first | exact rd_ixT rfl | exact rd_ixL rfl)) ev_str (rd_eq (by first | rfl | exact sh_rows _ | exact sh_ev _ | exact sh_dd _ | decide +kernel) (by first | rfl | exact sh_rows _ | exact sh_ev _ | exact sh_dd _ | decide +kernel)))) (fun _ => es_rt (es_ret (ev_call (ev_cons (ev_var rfl) (ev_cons (ev_op (ev_var rfl) ev_int (by first | exact rd_ixT rfl | exact rd_ixL rfl)) ev_nil)) (I_committed_state p0)))) (fun h => absurd h (by first | (simp [encDd, encEv, encO, isNone, PyData.eqv, PyData.eqvAll]; done) | (simp [encDd, encEv, encO, isNone, PyData.eqv, PyData.eqvAll]; decide +kernel)))
    | stop i =>
      refine es_ifS (ev_test (ev_op (ev_op (ev_var rfl) ev_int (by first | exact rd_ixT rfl | exact rd_ixL rfl)) ev_str (rd_eq (by first | rfl | exact sh_rows _ | exact sh_ev _ | exact sh_dd _ | decide +kernel) (by first | rfl | exact sh_rows _ | exact sh_ev _ | exact sh_dd _ | decide +kernel)))) (fun h => absurd h (by first | (simp [encDd, encEv, encO, isNone, PyData.eqv, PyData.eqvAll]; done) | (simp [encDd, encEv, encO, isNone, PyData.eqv, PyData.eqvAll]; decide +kernel))) fun _ => es_nxS ?_
      refine es_ifS (ev_test (ev_op (ev_op (ev_var rfl) ev_int (by first | exact rd_ixT rfl | exact rd_ixL rfl)) ev_str (rd_eq (by first | rfl | exact sh_rows _ | exact sh_ev _ | exact sh_dd _ | decide +kernel) (by first | rfl | exact sh_rows _ | exact sh_ev _ | exact sh_dd _ | decide +kernel)))) (fun h => absurd h (by first | (simp [encDd, encEv, encO, isNone, PyData.eqv, PyData.eqvAll]; done) | (simp [encDd, encEv, encO, isNone, PyData.eqv, PyData.eqvAll]; decide +kernel))) fun _ => es_nxS ?_
      refine es_ifS (ev_test (ev_op (ev_op (ev_var rfl) ev_int (by first | exact rd_ixT rfl | exact rd_ixL rfl)) ev_str (rd_eq (by first | rfl | exact sh_rows _ | exact sh_ev _ | exact sh_dd _ | decide +kernel) (by first | rfl | exact sh_rows _ | exact sh_ev _ | exact sh_dd _ | decide +kernel)))) (fun h => absurd h (by first | (simp [encDd, encEv, encO, isNone, PyData.eqv, PyData.eqvAll]; done) | (simp [encDd, encEv, encO, isNone, PyData.eqv, PyData.eqvAll]; decide +kernel))) fun _ => es_nxS ?_
      refine es_ifS (ev_test (ev_op (ev_op (ev_var rfl) ev_int (by first | exact rd_ixT rfl | exact rd_ixL rfl)) ev_str (rd_eq (by first | rfl | exact sh_rows _ | exact sh_ev _ | exact sh_dd _ | decide +kernel) (by first | rfl | exact sh_rows _ | exact sh_ev _ | exact sh_dd _ | decide +kernel)))) (fun h => absurd h (by first | (simp [encDd, encEv, encO, isNone, PyData.eqv, PyData.eqvAll]; done) | (simp [encDd, encEv, encO, isNone, PyData.eqv, PyData.eqvAll]; decide +kernel))) fun _ => es_nxS ?_
      exact es_ret (ev_call (ev_cons (ev_var rfl) (ev_cons (ev_op (ev_var rfl) ev_int (rd_ixT rfl)) (ev_cons (ev_eqd (ev_op (ev_op (ev_var rfl) ev_int (rd_ixT rfl)) ev_str (rd_eq (by decide +kernel) (by decide +kernel))) (congrArg PyData.bool (show PyData.eqv (.str "stop") (.str "start") = false by decide +kernel))) ev_nil))) (I_turned_state (up := false) p0))
    | start i =>
      refine es_ifS (ev_test (ev_op (ev_op (ev_var rfl) ev_int (by first | exact rd_ixT rfl | exact rd_ixL rfl)) ev_str (rd_eq (by first | rfl | exact sh_rows _ | exact sh_ev _ | exact sh_dd _ | decide +kernel) (by first | rfl | exact sh_rows _ | exact sh_ev _ | exact sh_dd _ | decide +kernel)))) (fun h => absurd h (by first | (simp [encDd, encEv, encO, isNone, PyData.eqv, PyData.eqvAll]; done) | (simp [encDd, encEv, encO, isNone, PyData.eqv, PyData.eqvAll]; decide +kernel))) fun _ => es_nxS ?_
      refine es_ifS (ev_test (ev_op (ev_op (ev_var rfl) ev_int (by first | exact rd_ixT rfl | exact rd_ixL rfl)) ev_str (rd_eq (by first | rfl | exact sh_rows _ | exact sh_ev _ | exact sh_dd _ | decide +kernel) (by first | rfl | exact sh_rows _ | exact sh_ev _ | exact sh_dd _ | decide +kernel)))) (fun h => absurd h (by first | (simp [encDd, encEv, encO, isNone, PyData.eqv, PyData.eqvAll]; done) | (simp [encDd, encEv, encO, isNone, PyData.eqv, PyData.eqvAll]; decide +kernel))) fun _ => es_nxS ?_
      refine es_ifS (ev_test (ev_op (ev_op (ev_var rfl) ev_int (by first | exact rd_ixT rfl | exact rd_ixL rfl)) ev_str (rd_eq (by first | rfl | exact sh_rows _ | exact sh_ev _ | exact sh_dd _ | decide +kernel) (by first | rfl | exact sh_rows _ | exact sh_ev _ | exact sh_dd _ | decide +kernel)))) (fun h => absurd h (by first | (simp [encDd, encEv, encO, isNone, PyData.eqv, PyData.eqvAll]; done) | (simp [encDd, encEv, encO, isNone, PyData.eqv, PyData.eqvAll]; decide +kernel))) fun _ => es_nxS ?_
      refine es_ifS (ev_test (ev_op (ev_op (ev_var rfl) ev_int (by first | exact rd_ixT rfl | exact rd_ixL rfl)) ev_str (rd_eq (by first | rfl | exact sh_rows _ | exact sh_ev _ | exact sh_dd _ | decide +kernel) (by first | rfl | exact sh_rows _ | exact sh_ev _ | exact sh_dd _ | decide +kernel)))) (fun h => absurd h (by first | (simp [encDd, encEv, encO, isNone, PyData.eqv, PyData.eqvAll]; done) | (simp [encDd, encEv, encO, isNone, PyData.eqv, PyData.eqvAll]; decide +kernel))) fun _ => es_nxS ?_
      exact es_ret (ev_call (ev_cons (ev_var rfl) (ev_cons (ev_op (ev_var rfl) ev_int (rd_ixT rfl)) (ev_cons (ev_eqd (ev_op (ev_op (ev_var rfl) ev_int (rd_ixT rfl)) ev_str (rd_eq (by decide +kernel) (by decide +kernel))) (congrArg PyData.bool (show PyData.eqv (.str "start") (.str "start") = true by decide +kernel))) ev_nil))) (I_turned_state (up := true) p0))
    | go => cases hf
    | non => cases hf
    | app0 => cases hf
    | lst => cases hf

end KD

/-! KF7: plays, their papers, what is committed. -/
namespace KD
open PySem L2 PySem.Spec PyProof.Rows K27
def enF (k : Nat) : List PyData → List PyData
  | [] => []
  | d :: ds => .tuple [.int (k : Nat), d] :: enF (k + 1) ds
theorem enF_at : ∀ (ds : List PyData) (k i : Nat), (enF k ds)[i]? = ds[i]?.map fun d => PyData.tuple [.int ((k + i : Nat) : Int), d]
  | [], _, _ => rfl
  | d :: ds, k, 0 => rfl
  | d :: ds, k, i + 1 => by
    show (enF (k + 1) ds)[i]? = _
    rw [enF_at ds (k + 1) i, show k + 1 + i = k + (i + 1) by omega]
    rfl
theorem enD_eq (ds : List PyData) : enD ds = enF 0 ds := by
  apply List.ext_getElem?
  intro i
  rw [enF_at, Nat.zero_add]
  cases h : ds[i]? with
  | none => rw [List.getElem?_eq_none (by rw [enD_len]; exact List.getElem?_eq_none_iff.mp h)]; rfl
  | some d => rw [enD_at h]; rfl
def fiD {α : Type} (z : α → PyData) (w : PyData) : Option α → PyData
  | some a => z a
  | none => w
def plD (z : K27.St → PyData) (w : Nat → PyData) : Option K27.St × Nat → PyData
  | (some s, _) => z s
  | (none, at_) => w at_
section
variable {K : PySem.W.Frag} {g : TG} {tb u : TS} {wi : TI} {ρ : En} {o : Out}
theorem fr_play {many : Nat} {Φ : Dd → Prop} {w : Nat → PyData} (hm : many ≤ 5) (I : K27.St → En → Prop)
    (step : ∀ k s d ρ, I s ρ → Gd s → Φ d → ∃ ρ1 is, EvG K g (.tuple [.int (k : Nat), encDd d]) ρ ρ1 is ∧ ((ok s d = true ∧ ∃ ρ2, EvS K tb ρ1 (.nx ρ2) ∧ I (beh s d) ρ2) ∨ (ok s d = false ∧ EvS K tb ρ1 (.rt (w k))))) :
    ∀ (ds : List Dd) (k : Nat) (s : K27.St) (ρ : En), (∀ d ∈ ds, Φ d) → k + ds.length ≤ 1000 → Good many k s → I s ρ →
      (∃ s' x ρ', play s ds k = (some s', x) ∧ FR K g tb (enF k (ds.map encDd)) ρ (.nx ρ') ∧ I s' ρ') ∨ (∃ x, play s ds k = (none, x) ∧ FR K g tb (enF k (ds.map encDd)) ρ (.rt (w x)))
  | [], k, s, ρ, _, _, _, i => .inl ⟨s, 0, ρ, rfl, .nil, i⟩
  | d :: ds, k, s, ρ, hf, hk, hg, i => by
    obtain ⟨ρ1, is, h1, h2⟩ := step k s d ρ i ⟨many, k, hg, hm, by simp at hk; omega⟩ (hf d List.mem_cons_self)
    rcases h2 with ⟨ho, ρ2, h2, i2⟩ | ⟨ho, h2⟩
    · have e : play s (d :: ds) k = play (beh s d) ds (k + 1) := by
        show (if ok s d = true then _ else _) = _
        rw [if_pos ho]
      rw [e]
      rcases fr_play hm I step ds (k + 1) (beh s d) ρ2 (fun x hx => hf x (List.mem_cons_of_mem _ hx)) (by simp at hk; omega) (good_step hg ho).1 i2 with ⟨s', x, ρ', e', f, i'⟩ | ⟨x, e', f⟩
      · exact .inl ⟨s', x, ρ', e', .next h1 h2 f, i'⟩
      · exact .inr ⟨x, e', .next h1 h2 f⟩
    · refine .inr ⟨k, ?_, .ret h1 h2⟩
      show (if ok s d = true then _ else _) = _
      rw [ho]
      rfl
theorem es_play {many : Nat} {Φ : Dd → Prop} {z : K27.St → PyData} {w : Nat → PyData} (hm : many ≤ 5) (h1 : 0 < many) (I : K27.St → En → Prop) (ds : List Dd) (hf : ∀ d ∈ ds, Φ d) (hl : ds.length ≤ 1000) (h0 : EvI K wi ρ (enD (ds.map encDd))) (hρ : I (init many) ρ)
    (step : ∀ k s d ρ, I s ρ → Gd s → Φ d → ∃ ρ1 is, EvG K g (.tuple [.int (k : Nat), encDd d]) ρ ρ1 is ∧ ((ok s d = true ∧ ∃ ρ2, EvS K tb ρ1 (.nx ρ2) ∧ I (beh s d) ρ2) ∨ (ok s d = false ∧ EvS K tb ρ1 (.rt (w k)))))
    (rest : ∀ s x ρ', play (init many) ds 0 = (some s, x) → I s ρ' → EvS K u ρ' (.rt (z s))) : EvS K (tSeq (tFor wi g tb) u) ρ (.rt (plD z w (play (init many) ds 0))) := by
  rw [enD_eq] at h0
  rcases fr_play (w := w) hm I step ds 0 (init many) ρ hf (by omega) (good_init h1 0) hρ with ⟨s', x, ρ', e, f, i⟩ | ⟨x, e, f⟩
  · have r := rest s' x ρ' e i
    rw [e]
    exact es_seq (es_for h0 f) r
  · rw [e]
    exact es_rt (es_for h0 f)
theorem play_good {many : Nat} : ∀ (ds : List Dd) (k : Nat) (s s' : K27.St) (x : Nat), Good many k s → play s ds k = (some s', x) → Good many (k + ds.length) s'
  | [], k, s, s', x, hg, e => by
    have : s = s' := by
      have := congrArg Prod.fst e
      exact Option.some.inj this
    rw [← this]
    exact hg
  | d :: ds, k, s, s', x, hg, e => by
    have e' : (if ok s d = true then play (beh s d) ds (k + 1) else (none, k)) = (some s', x) := e
    by_cases ho : ok s d = true
    · rw [if_pos ho] at e'
      have := play_good ds (k + 1) (beh s d) s' x (good_step hg ho).1 e'
      rw [List.length_cons, show k + (ds.length + 1) = k + 1 + ds.length by omega]
      exact this
    · rw [if_neg ho] at e'
      cases e'
theorem play_gd {many : Nat} {ds : List Dd} {s : K27.St} {x : Nat} (h1 : 0 < many) (h2 : many ≤ 5) (hl : ds.length ≤ 1000) (e : play (init many) ds 0 = (some s, x)) : Gd s :=
  ⟨many, _, play_good ds 0 _ _ _ (good_init h1 0) e, h2, by omega⟩
theorem es_find {α : Type} {c : α → PyData} {z : α → PyData} {w : PyData} (I : En → Prop) (p : α → Bool) : ∀ (l : List α), EvI K wi ρ (l.map c) → I ρ →
    (∀ a ∈ l, ∀ ρ, I ρ → ∃ ρ1 is, EvG K g (c a) ρ ρ1 is ∧ ((p a = true ∧ EvS K tb ρ1 (.rt (z a))) ∨ (p a = false ∧ ∃ ρ2, EvS K tb ρ1 (.nx ρ2) ∧ I ρ2))) →
    (∀ ρ', I ρ' → EvS K u ρ' (.rt w)) → EvS K (tSeq (tFor wi g tb) u) ρ (.rt (fiD z w (l.find? p))) := fun l h0 hρ step rest => by
  have key : ∀ (l : List α) (ρ : En), I ρ → (∀ a ∈ l, ∀ ρ, I ρ → ∃ ρ1 is, EvG K g (c a) ρ ρ1 is ∧ ((p a = true ∧ EvS K tb ρ1 (.rt (z a))) ∨ (p a = false ∧ ∃ ρ2, EvS K tb ρ1 (.nx ρ2) ∧ I ρ2))) →
      (∃ a, l.find? p = some a ∧ FR K g tb (l.map c) ρ (.rt (z a))) ∨ (l.find? p = none ∧ ∃ ρ', FR K g tb (l.map c) ρ (.nx ρ') ∧ I ρ') := by
    intro l
    induction l with
    | nil => intro ρ i _; exact .inr ⟨rfl, ρ, .nil, i⟩
    | cons a l ih =>
      intro ρ i st
      obtain ⟨ρ1, is, h1, h2⟩ := st a List.mem_cons_self ρ i
      rcases h2 with ⟨hp, h2⟩ | ⟨hp, ρ2, h2, i2⟩
      · exact .inl ⟨a, List.find?_cons_of_pos hp, .ret h1 h2⟩
      · have e : (a :: l).find? p = l.find? p := List.find?_cons_of_neg (by rw [hp]; decide)
        rw [e]
        rcases ih ρ2 i2 (fun b hb => st b (List.mem_cons_of_mem _ hb)) with ⟨b, e', f⟩ | ⟨e', ρ', f, i'⟩
        · exact .inl ⟨b, e', .next h1 h2 f⟩
        · exact .inr ⟨e', ρ', .next h1 h2 f, i'⟩
  rcases key l ρ hρ step with ⟨a, e, f⟩ | ⟨e, ρ', f, i⟩
  · rw [e]; exact es_rt (es_for h0 f)
  · rw [e]; exact es_seq (es_for h0 f) (rest ρ' i)
end
def evsD (s : K27.St) : PyData := .tuple ((comm s).map fun r => encEv r.ev)

abbrev s_events_in : Stmt := top 29
abbrev N_events_in : List Str := ["state", "copies", "leader", "many", "up", "term", "rows", "having", "one", "event"]
theorem sc_events_in : FnScope N_events_in ["state"] (defScope s_events_in) := ⟨rfl, rfl, rfl, by decide +kernel, rfl, by decide +kernel, by decide +kernel⟩


def F_events_in : List PyData → PyData → Prop := fun ds z => ∃ (s : K27.St), (Gd s) ∧ ds = [encSt s] ∧ z = evsD s
theorem I_events_in {s : K27.St} (p0 : Gd s) : F_events_in [encSt s] (evsD s) := ⟨s, p0, rfl, rfl⟩
theorem R_events_in {P : Program} {w : World} {K : PySem.W.Frag} {mg : Str → Option Value} {base : Heap} (T : Tx mg) (kn : Kn K mg "events_in" s_events_in ["state"]) : Rdy P w K mg base 1 "events_in" ["state"] (spP K F_events_in) := by
  refine rdy_of kn sc_events_in (fun ds z h => ?_) (by decide) (fun f cdv A outer s H E hr ds z h => ?_)
  · obtain ⟨s, p0, rfl, rfl⟩ := h
    rfl
  obtain ⟨s, p0, rfl, rfl⟩ := h
  refine ⟨_, (pss_cons (ps_asg (pv 0) (pg_tup (by rfl) (pgs_cons (pg_name (i := 1) sc_events_in.nd rfl (by first | exact Or.inl rfl | exact Or.inr rfl)) (pgs_cons (pg_name (i := 2) sc_events_in.nd rfl (by first | exact Or.inl rfl | exact Or.inr rfl)) (pgs_cons (pg_name (i := 3) sc_events_in.nd rfl (by first | exact Or.inl rfl | exact Or.inr rfl)) pgs_nil))))) (pss_cons (ps_for PassesOwn.never rfl (pi_tup (pv 1)) (pg_tup (by rfl) (pgs_cons (pg_name (i := 4) sc_events_in.nd rfl (by first | exact Or.inl rfl | exact Or.inr rfl)) (pgs_cons (pg_name (i := 5) sc_events_in.nd rfl (by first | exact Or.inl rfl | exact Or.inr rfl)) (pgs_cons (pg_name (i := 6) sc_events_in.nd rfl (by first | exact Or.inl rfl | exact Or.inr rfl)) pgs_nil)))) (pss_cons (ps_setLc (i := 7) (own := [("one", 8)]) (g := (gName 8)) (tt := (tTest (tOp (rEqD K) (tSl (rSlA K) (tOp (rIxT K) (tVar 8) (tC (.int 2))) tNoPart (tPart (tVar 3))) (tSl (rSlA K) (tVar 6) tNoPart (tPart (tVar 3)))))) (te := (tVar 8)) rfl sc_events_in.nd rfl rfl (sw_true rfl rfl rfl (by decide +kernel)) (pi_tup (pv 1)) (blkOk_by (N := N_events_in) (sc := defScope s_events_in) (by decide +kernel)) (fun _ _ _ _ _ => by exact (pg_name (i := 8) sc_events_in.nd rfl (by first | exact Or.inl rfl | exact Or.inr rfl))) (fun _ _ _ _ _ => by exact (pts_one (pt_cmpR (op_eqD hr.units) (pe_slice sl_tupA (pe_ix ix_tup (pv 8) pe_int (fun _ _ => rfl)) po_none (po_some (pv 3))) (pe_slice sl_tupA (pv 6) po_none (po_some (pv 3))) (by first | rfl | exact nomark _)))) (fun _ _ _ _ _ => by exact (pv 8))) (pss_one (ps_if (PW.pt (pw_and (pt_cmpR op_ge (pe_callB call_len_seq (by rfl) T.b_len bt_len (pa_cons (pv 6) pa_nil)) (pv 3) (by first | rfl | exact nomark _)) (pw_and1 (pt_cmpR op_gt (pe_op op_mul pe_int (pe_callB call_len_seq (by rfl) T.b_len bt_len (pa_cons (pv 7) pa_nil))) (pe_callB call_len_seq (by rfl) T.b_len bt_len (pa_cons (pv 1) pa_nil)) (by first | rfl | exact nomark _))))) (pss_one (ps_ret (pe_callTy call_tuple_of (by rfl) T.b_tuple bt_tuple (pa_cons (pe_lc (own := [("term", 5), ("event", 9)]) (g := (gTup K 2 (gCons (gName 5) (gCons (gName 9) gNil)))) (tt := tYes) (te := (tVar 9)) rfl sc_events_in.nd (pi_tup (pe_slice sl_tupA (pv 6) po_none (po_some (pv 3)))) (blkOk_by (N := N_events_in) (sc := defScope s_events_in) (by decide +kernel)) (fun _ _ _ _ _ => by exact (pg_tup (by rfl) (pgs_cons (pg_name (i := 5) sc_events_in.nd rfl (by first | exact Or.inl rfl | exact Or.inr rfl)) (pgs_cons (pg_name (i := 9) sc_events_in.nd rfl (by first | exact Or.inl rfl | exact Or.inr rfl)) pgs_nil)))) (fun _ _ _ _ _ => by exact pts_nil) (fun _ _ _ _ _ => by exact (pv 9))) pa_nil)))) pss_nil)))) (pss_one (ps_ret (pe_tup pa_nil))))), ?_⟩
  have sz : (s.cs.map encCp).length ≤ sizeLine := Nat.le_trans (m := 5) (by rw [List.length_map]; exact p0.len) (by decide)
  have ez : evsD s = fiD (fun c : Cp => .tuple ((c.rows.take s.done).map fun r => encEv r.ev)) (.tuple []) (s.cs.find? fun c => decide (s.done ≤ c.rows.length) && half s.cs (hasFirst c.rows s.done)) := by
    unfold evsD comm
    cases s.cs.find? (fun c => decide (s.done ≤ c.rows.length) && half s.cs (hasFirst c.rows s.done)) <;> rfl
  rw [ez]
  refine es_seq (es_asg (ev_var rfl) (by first | exact eg_tup (eg_cons eg_name (eg_cons eg_name (eg_cons eg_name eg_nil))) rfl | exact eg_lst (eg_cons eg_name (eg_cons eg_name (eg_cons eg_name eg_nil))) rfl)) ?_
  refine es_find (c := encCp) (z := fun c => .tuple ((c.rows.take s.done).map fun r => encEv r.ev)) (w := .tuple []) (fun ρ => ∃ o1 o2 o3 o4 o5 o6, ρ = [some (encSt s), some (.tuple (s.cs.map encCp)), some (encO s.lead), some (.int (s.done : Nat)), o1, o2, o3, o4, o5, o6]) (fun c => decide (s.done ≤ c.rows.length) && half s.cs (hasFirst c.rows s.done)) s.cs ?_ ⟨none, none, none, none, none, none, rfl⟩ ?_ ?_
  · exact ei_tup (ev_var rfl)
  · rintro c hc ρ ⟨o1, o2, o3, o4, o5, o6, rfl⟩
    refine ⟨_, _, eg_tup (eg_cons eg_name (eg_cons eg_name (eg_cons eg_name eg_nil))) rfl, ?_⟩
    have hlen : c.rows.length ≤ 1000 := by
      obtain ⟨i, hi⟩ := List.getElem?_of_mem hc
      rw [← cp_of hi]
      exact p0.rows i
    cases hb : (decide (s.done ≤ c.rows.length) && half s.cs (hasFirst c.rows s.done)) with
    | true =>
      refine .inl ⟨rfl, ?_⟩
      refine es_seq (es_set (ev_lc (ei_tup (ev_var rfl)) (lr_filter (c := encCp) (f := encCp) (p := hasFirst c.rows s.done) (by simp) s.cs fun d hd => ⟨eg_name, et_eqb (ev_test (ev_op (ev_eqd (ev_slT (ev_op (ev_var rfl) ev_int (rd_ixT rfl)) ev_none (ev_part (ev_var rfl))) (encRows_take _ _)) (ev_eqd (ev_slT (ev_var rfl) ev_none (ev_part (ev_var rfl))) (encRows_take _ _)) (rd_eq (sh_rows _) (sh_rows _)))) (by rw [eqv_rows]; rfl), ev_var rfl⟩) sz)) ?_
      refine es_if (b := decide (s.done ≤ c.rows.length) && half s.cs (hasFirst c.rows s.done)) (et_eqb (ev_andT (ev_test (ev_op (ev_cb (ev_cons (ev_var rfl) ev_nil) rc_lenT) (ev_var rfl) rd_ge)) fun _ => ev_test (ev_op (ev_op ev_int (ev_cb (ev_cons (ev_var rfl) ev_nil) rc_lenL) (rd_mul (cmul_l (by decide) (by decide)))) (ev_cb (ev_cons (ev_var rfl) ev_nil) rc_lenT) rd_gt)) ?_) (fun _ => ?_) (fun h => ?_)
      · rw [List.length_map, List.length_map, List.length_map, half_len]
        exact congrArg (· && _) (decide_eq_decide.mpr (by omega))
      · exact es_ret (ev_cb (ev_cons (ev_lc (ei_tup (ev_eqd (ev_slT (ev_var rfl) ev_none (ev_part (ev_var rfl))) (encRows_take _ _))) (lr_map (c := encRow) (f := fun r => encEv r.ev) (by simp) (c.rows.take s.done) fun r hr => ⟨eg_tup (eg_cons eg_name (eg_cons eg_name eg_nil)) rfl, ev_var rfl⟩) (Nat.le_trans (m := 1000) (by simp; omega) (by decide))) ev_nil) rc_tupL)
      · rw [hb] at h; cases h
    | false =>
      refine .inr ⟨rfl, [some (encSt s), some (.tuple (s.cs.map encCp)), some (encO s.lead), some (.int (s.done : Nat)), some (.bool c.up), some (.int (c.term : Nat)), some (encRows c.rows), some (.list ((s.cs.filter (hasFirst c.rows s.done)).map encCp)), o5, o6], ?_, ?_⟩
      · refine es_seq (es_set (ev_lc (ei_tup (ev_var rfl)) (lr_filter (c := encCp) (f := encCp) (p := hasFirst c.rows s.done) (by simp) s.cs fun d hd => ⟨eg_name, et_eqb (ev_test (ev_op (ev_eqd (ev_slT (ev_op (ev_var rfl) ev_int (rd_ixT rfl)) ev_none (ev_part (ev_var rfl))) (encRows_take _ _)) (ev_eqd (ev_slT (ev_var rfl) ev_none (ev_part (ev_var rfl))) (encRows_take _ _)) (rd_eq (sh_rows _) (sh_rows _)))) (by rw [eqv_rows]; rfl), ev_var rfl⟩) sz)) ?_
        refine es_if (b := decide (s.done ≤ c.rows.length) && half s.cs (hasFirst c.rows s.done)) (et_eqb (ev_andT (ev_test (ev_op (ev_cb (ev_cons (ev_var rfl) ev_nil) rc_lenT) (ev_var rfl) rd_ge)) fun _ => ev_test (ev_op (ev_op ev_int (ev_cb (ev_cons (ev_var rfl) ev_nil) rc_lenL) (rd_mul (cmul_l (by decide) (by decide)))) (ev_cb (ev_cons (ev_var rfl) ev_nil) rc_lenT) rd_gt)) ?_) (fun h => ?_) (fun _ => es_next)
        · rw [List.length_map, List.length_map, List.length_map, half_len]
          exact congrArg (· && _) (decide_eq_decide.mpr (by omega))
        · rw [hb] at h; cases h
      · exact ⟨_, _, _, _, _, _, rfl⟩
  · rintro ρ' ⟨o1, o2, o3, o4, o5, o6, rfl⟩
    exact es_ret (ev_tup ev_nil (Nat.le_of_ble_eq_true rfl))

abbrev s_state_or_wrong : Stmt := top 28
abbrev N_state_or_wrong : List Str := ["many", "value", "state", "at", "deed"]
theorem sc_state_or_wrong : FnScope N_state_or_wrong ["many", "value"] (defScope s_state_or_wrong) := ⟨rfl, rfl, rfl, by decide +kernel, rfl, by decide +kernel, by decide +kernel⟩


def F_state_or_wrong : List PyData → PyData → Prop := fun ds z => ∃ (many : Nat) (dl : List Dd), (many = 3 ∨ many = 5) ∧ (∀ d ∈ dl, fit d) ∧ (dl.length ≤ 400) ∧ ds = [.int many, .tuple (dl.map encDd)] ∧ z = plD (fun s => .tuple [encSt s, .int 0]) (fun x => .tuple [.none, .int (x : Nat)]) (play (init many) dl 0)
theorem I_state_or_wrong {many : Nat} {dl : List Dd} (p0 : many = 3 ∨ many = 5) (p1 : ∀ d ∈ dl, fit d) (p2 : dl.length ≤ 400) : F_state_or_wrong [.int many, .tuple (dl.map encDd)] (plD (fun s => .tuple [encSt s, .int 0]) (fun x => .tuple [.none, .int (x : Nat)]) (play (init many) dl 0)) := ⟨many, dl, p0, p1, p2, rfl, rfl⟩
theorem R_state_or_wrong {P : Program} {w : World} {K : PySem.W.Frag} {mg : Str → Option Value} {base : Heap} (T : Tx mg) (kn : Kn K mg "state_or_wrong" s_state_or_wrong ["many", "value"]) (R_behind_deed : Rdy P w K mg base 4 "behind_deed" ["state", "deed"] (spP K F_behind_deed)) (R_begun_state : Rdy P w K mg base 1 "begun_state" ["many"] (spP K F_begun_state)) : Rdy P w K mg base 5 "state_or_wrong" ["many", "value"] (spP K F_state_or_wrong) := by
  obtain ⟨_, c_MOST_DEEDS⟩ := T.k_MOST_DEEDS
  refine rdy_of kn sc_state_or_wrong (fun ds z h => ?_) (by decide) (fun f cdv A outer s H E hr ds z h => ?_)
  · obtain ⟨many, dl, p0, p1, p2, rfl, rfl⟩ := h
    rfl
  obtain ⟨many, dl, p0, p1, p2, rfl, rfl⟩ := h
  refine ⟨_, (pss_cons (ps_if (PW.pt (pw_or (pt_not (pt_val (pe_callB call_isi (by rfl) T.b_isinstance bt_isinstance (pa_cons (pv 1) (pa_cons (pe_bltn (v := .ty "tuple") (by rfl) T.b_tuple bt_tuple rfl) pa_nil))))) (pw_or1 (pt_cmpR op_gt (pe_callB call_len_seq (by rfl) T.b_len bt_len (pa_cons (pv 1) pa_nil)) (pe_glob (v := .int 400) rfl c_MOST_DEEDS ⟨_, rfl⟩) (by first | rfl | exact nomark _))))) (pss_one (ps_ret (pe_tup (pa_cons pe_non (pa_cons pe_int pa_nil))))) pss_nil) (pss_cons (ps_set (i := 2) sc_state_or_wrong.nd rfl (by first | exact Or.inl rfl | exact Or.inr rfl) (pe_fn R_begun_state (hr.mono (by decide)) (by rfl) (pa_cons (pv 0) pa_nil))) (pss_cons (ps_for PassesOwn.never rfl (pi_enT (by rfl) T.b_enumerate (pa_cons (pv 1) pa_nil)) (pg_tup (by rfl) (pgs_cons (pg_name (i := 3) sc_state_or_wrong.nd rfl (by first | exact Or.inl rfl | exact Or.inr rfl)) (pgs_cons (pg_name (i := 4) sc_state_or_wrong.nd rfl (by first | exact Or.inl rfl | exact Or.inr rfl)) pgs_nil))) (pss_cons (ps_set (i := 2) sc_state_or_wrong.nd rfl (by first | exact Or.inl rfl | exact Or.inr rfl) (pe_fn R_behind_deed (hr.mono (by decide)) (by rfl) (pa_cons (pv 2) (pa_cons (pv 4) pa_nil)))) (pss_one (ps_if (pt_cmp (pc_isN (pv 2)) rfl) (pss_one (ps_ret (pe_tup (pa_cons pe_non (pa_cons (pv 3) pa_nil))))) pss_nil)))) (pss_one (ps_ret (pe_tup (pa_cons (pv 2) (pa_cons pe_int pa_nil)))))))), ?_⟩
  refine es_ifS (et_eqb (ev_orT (ev_notT (ev_tB (ev_isi (ev_var rfl) (by first | exact kit_int_tuple | exact kit_tuple_tuple | exact kit_str_tuple | exact kit_bool_tuple | exact kit_list_tuple | exact kit_none_tuple)))) (fun _ => (ev_test (ev_op (ev_cb (ev_cons (ev_var rfl) ev_nil) (by first | exact rc_lenT | exact rc_lenL)) ev_int rd_gt)))) (show (!true || decide ((400 : Int) < (((dl.map encDd).length : Nat) : Int))) = false by rw [List.length_map]; simp; omega)) (fun h => absurd h (by first | (simp [encDd, encEv, encO, isNone, PyData.eqv, PyData.eqvAll]; done) | (simp [encDd, encEv, encO, isNone, PyData.eqv, PyData.eqvAll]; decide +kernel))) fun _ => es_nxS ?_
  refine es_seq (es_set (ev_call (ev_cons (ev_var rfl) ev_nil) (I_begun_state (by omega) (by omega)))) ?_
  refine es_play (many := many) (by omega) (by omega) (fun s ρ => ∃ o1 o2, ρ = [some (.int (many : Nat)), some (.tuple (dl.map encDd)), some (encSt s), o1, o2]) dl p1 (by omega) ?_ ⟨none, none, rfl⟩ ?_ ?_
  · exact ei_enT (ev_cons (ev_var rfl) ev_nil)
  · rintro k s d ρ ⟨o1, o2, rfl⟩ hg hfit
    refine ⟨_, _, eg_tup (eg_cons eg_name (eg_cons eg_name eg_nil)) rfl, ?_⟩
    cases ho : ok s d with
    | true =>
      refine .inl ⟨rfl, _, es_seq (es_set (ev_eqd (ev_call (ev_cons (ev_var rfl) (ev_cons (ev_var rfl) ev_nil)) (I_behind_deed hg hfit)) (show encOpt (if ok s d then some (beh s d) else none) = encSt (beh s d) by rw [ho]; rfl))) (es_if (ev_tB (ev_isN (ev_var rfl))) (fun h => nomatch h) fun _ => es_next), ⟨_, _, rfl⟩⟩
    | false =>
      exact .inr ⟨rfl, es_seq (es_set (ev_eqd (ev_call (ev_cons (ev_var rfl) (ev_cons (ev_var rfl) ev_nil)) (I_behind_deed hg hfit)) (show encOpt (if ok s d then some (beh s d) else none) = .none by rw [ho]; rfl))) (es_if (ev_tB (ev_isN (ev_var rfl))) (fun _ => es_ret (ev_tup (ev_cons ev_non (ev_cons (ev_var rfl) ev_nil)) (Nat.le_of_ble_eq_true rfl))) (fun h => nomatch h))⟩
  · rintro s x ρ' _ ⟨o1, o2, rfl⟩
    exact es_ret (ev_tup (ev_cons (ev_var rfl) (ev_cons ev_int ev_nil)) (Nat.le_of_ble_eq_true rfl))

abbrev s_need_many : Stmt := top 30
abbrev N_need_many : List Str := ["many"]
theorem sc_need_many : FnScope N_need_many ["many"] (defScope s_need_many) := ⟨rfl, rfl, rfl, by decide +kernel, rfl, by decide +kernel, by decide +kernel⟩


def F_need_many : List PyData → PyData → Prop := fun ds z => ∃ (many : Nat), (many = 3 ∨ many = 5) ∧ ds = [.int many] ∧ z = .none
theorem I_need_many {many : Nat} (p0 : many = 3 ∨ many = 5) : F_need_many [.int many] (.none) := ⟨many, p0, rfl, rfl⟩
theorem R_need_many {P : Program} {w : World} {K : PySem.W.Frag} {mg : Str → Option Value} {base : Heap} (T : Tx mg) (kn : Kn K mg "need_many" s_need_many ["many"]) (R_is_from_to : Rdy P w K mg base 1 "is_from_to" ["value", "low", "high"] (spP K F_is_from_to)) : Rdy P w K mg base 2 "need_many" ["many"] (spP K F_need_many) := by
  refine rdy_nx kn sc_need_many (fun ds z h => ?_) (by decide) (fun f cdv A outer s H E hr ds z h => ?_)
  · obtain ⟨many, p0, rfl, rfl⟩ := h
    rfl
  obtain ⟨many, p0, rfl, rfl⟩ := h
  refine ⟨_, (pss_one (ps_if (PW.pt (pw_or (pt_not (pt_val (pe_fn R_is_from_to (hr.mono (by decide)) (by rfl) (pa_cons (pv 0) (pa_cons pe_int (pa_cons pe_int pa_nil)))))) (pw_or1 (pt_cmpR (op_eqD hr.units) (pv 0) pe_int (by first | rfl | exact nomark _))))) (pss_one ps_never) pss_nil)), [some (.int (many : Nat))], ?_, rfl⟩
  refine es_if (et_eqb (ev_orT (ev_notT (ev_tB (ev_call (ev_cons (ev_var rfl) (ev_cons ev_int (ev_cons ev_int ev_nil))) I_is_from_to))) (fun _ => (ev_test (ev_op (ev_var rfl) ev_int (rd_eq (by first | rfl | exact sh_rows _ | exact sh_ev _ | exact sh_dd _ | decide +kernel) (by first | rfl | exact sh_rows _ | exact sh_ev _ | exact sh_dd _ | decide +kernel)))))) (c := false) ?_) (fun h => nomatch h) (fun _ => es_next)
  rcases p0 with rfl | rfl <;> rfl

abbrev s_need_play : Stmt := top 31
abbrev N_need_play : List Str := ["many", "deeds", "state", "at"]
theorem sc_need_play : FnScope N_need_play ["many", "deeds"] (defScope s_need_play) := ⟨rfl, rfl, rfl, by decide +kernel, rfl, by decide +kernel, by decide +kernel⟩


def F_need_play : List PyData → PyData → Prop := fun ds z => ∃ (many : Nat) (dl : List Dd) (s : K27.St) (x : Nat), (many = 3 ∨ many = 5) ∧ (∀ d ∈ dl, fit d) ∧ (dl.length ≤ 400) ∧ (play (init many) dl 0 = (some s, x)) ∧ ds = [.int many, .tuple (dl.map encDd)] ∧ z = encSt s
theorem I_need_play {many : Nat} {dl : List Dd} {s : K27.St} {x : Nat} (p0 : many = 3 ∨ many = 5) (p1 : ∀ d ∈ dl, fit d) (p2 : dl.length ≤ 400) (p3 : play (init many) dl 0 = (some s, x)) : F_need_play [.int many, .tuple (dl.map encDd)] (encSt s) := ⟨many, dl, s, x, p0, p1, p2, p3, rfl, rfl⟩
theorem R_need_play {P : Program} {w : World} {K : PySem.W.Frag} {mg : Str → Option Value} {base : Heap} (T : Tx mg) (kn : Kn K mg "need_play" s_need_play ["many", "deeds"]) (R_state_or_wrong : Rdy P w K mg base 5 "state_or_wrong" ["many", "value"] (spP K F_state_or_wrong)) (R_need_many : Rdy P w K mg base 2 "need_many" ["many"] (spP K F_need_many)) : Rdy P w K mg base 6 "need_play" ["many", "deeds"] (spP K F_need_play) := by
  refine rdy_of kn sc_need_play (fun ds z h => ?_) (by decide) (fun f cdv A outer s H E hr ds z h => ?_)
  · obtain ⟨many, dl, s, x, p0, p1, p2, p3, rfl, rfl⟩ := h
    rfl
  obtain ⟨many, dl, s, x, p0, p1, p2, p3, rfl, rfl⟩ := h
  refine ⟨_, (pss_cons (ps_expr (pe_fn R_need_many (hr.mono (by decide)) (by rfl) (pa_cons (pv 0) pa_nil))) (pss_cons (ps_asg (pe_fn R_state_or_wrong (hr.mono (by decide)) (by rfl) (pa_cons (pv 0) (pa_cons (pv 1) pa_nil))) (pg_tup (by rfl) (pgs_cons (pg_name (i := 2) sc_need_play.nd rfl (by first | exact Or.inl rfl | exact Or.inr rfl)) (pgs_cons (pg_name (i := 3) sc_need_play.nd rfl (by first | exact Or.inl rfl | exact Or.inr rfl)) pgs_nil)))) (pss_cons (ps_if (pt_cmp (pc_isN (pv 2)) rfl) (pss_one ps_never) pss_nil) (pss_one (ps_ret (pv 2)))))), ?_⟩
  refine es_seq (es_expr (ev_call (ev_cons (ev_var rfl) ev_nil) (I_need_many p0))) ?_
  refine es_seq (es_asg (ev_eqd (ev_call (ev_cons (ev_var rfl) (ev_cons (ev_var rfl) ev_nil)) (I_state_or_wrong p0 p1 p2)) (show plD _ _ (play (init many) dl 0) = .tuple [encSt s, .int 0] by rw [p3]; rfl)) (by first | exact eg_tup (eg_cons eg_name (eg_cons eg_name eg_nil)) rfl | exact eg_lst (eg_cons eg_name (eg_cons eg_name eg_nil)) rfl)) ?_
  refine es_ifS (ev_tB (ev_isN (ev_var rfl))) (fun h => nomatch h) (fun _ => es_nxS ?_)
  exact es_ret (ev_var rfl)

abbrev s_play_paper : Stmt := top 33
abbrev N_play_paper : List Str := ["many", "value", "state", "at"]
theorem sc_play_paper : FnScope N_play_paper ["many", "value"] (defScope s_play_paper) := ⟨rfl, rfl, rfl, by decide +kernel, rfl, by decide +kernel, by decide +kernel⟩


def F_play_paper : List PyData → PyData → Prop := fun ds z => ∃ (many : Nat) (dl : List Dd), (many = 3 ∨ many = 5) ∧ (∀ d ∈ dl, fit d) ∧ (dl.length ≤ 400) ∧ ds = [.int many, .tuple (dl.map encDd)] ∧ z = plD (fun s => .tuple [.str "play", encSt s, evsD s]) (fun x => .tuple [.str "wrong", .int (x : Nat)]) (play (init many) dl 0)
theorem I_play_paper {many : Nat} {dl : List Dd} (p0 : many = 3 ∨ many = 5) (p1 : ∀ d ∈ dl, fit d) (p2 : dl.length ≤ 400) : F_play_paper [.int many, .tuple (dl.map encDd)] (plD (fun s => .tuple [.str "play", encSt s, evsD s]) (fun x => .tuple [.str "wrong", .int (x : Nat)]) (play (init many) dl 0)) := ⟨many, dl, p0, p1, p2, rfl, rfl⟩
theorem R_play_paper {P : Program} {w : World} {K : PySem.W.Frag} {mg : Str → Option Value} {base : Heap} (T : Tx mg) (kn : Kn K mg "play_paper" s_play_paper ["many", "value"]) (R_events_in : Rdy P w K mg base 1 "events_in" ["state"] (spP K F_events_in)) (R_state_or_wrong : Rdy P w K mg base 5 "state_or_wrong" ["many", "value"] (spP K F_state_or_wrong)) (R_need_many : Rdy P w K mg base 2 "need_many" ["many"] (spP K F_need_many)) : Rdy P w K mg base 6 "play_paper" ["many", "value"] (spP K F_play_paper) := by
  obtain ⟨_, c_PLAY⟩ := T.k_PLAY
  obtain ⟨_, c_WRONG⟩ := T.k_WRONG
  refine rdy_of kn sc_play_paper (fun ds z h => ?_) (by decide) (fun f cdv A outer s H E hr ds z h => ?_)
  · obtain ⟨many, dl, p0, p1, p2, rfl, rfl⟩ := h
    rfl
  obtain ⟨many, dl, p0, p1, p2, rfl, rfl⟩ := h
  refine ⟨_, (pss_cons (ps_expr (pe_fn R_need_many (hr.mono (by decide)) (by rfl) (pa_cons (pv 0) pa_nil))) (pss_cons (ps_asg (pe_fn R_state_or_wrong (hr.mono (by decide)) (by rfl) (pa_cons (pv 0) (pa_cons (pv 1) pa_nil))) (pg_tup (by rfl) (pgs_cons (pg_name (i := 2) sc_play_paper.nd rfl (by first | exact Or.inl rfl | exact Or.inr rfl)) (pgs_cons (pg_name (i := 3) sc_play_paper.nd rfl (by first | exact Or.inl rfl | exact Or.inr rfl)) pgs_nil)))) (pss_one (ps_ret (pe_ifExp (pt_cmp (pc_notN (pv 2)) rfl) (pe_tup (pa_cons (pe_glob (v := .str "play") rfl c_PLAY ⟨_, rfl⟩) (pa_cons (pv 2) (pa_cons (pe_fn R_events_in (hr.mono (by decide)) (by rfl) (pa_cons (pv 2) pa_nil)) pa_nil)))) (pe_tup (pa_cons (pe_glob (v := .str "wrong") rfl c_WRONG ⟨_, rfl⟩) (pa_cons (pv 3) pa_nil)))))))), ?_⟩
  refine es_seq (es_expr (ev_call (ev_cons (ev_var rfl) ev_nil) (I_need_many p0))) ?_
  cases hp : play (init many) dl 0 with
  | mk o x =>
  cases o with
  | some s =>
    have gd : Gd s := play_gd (by omega) (by omega) (by omega) hp
    refine es_seq (es_asg (ev_eqd (ev_call (ev_cons (ev_var rfl) (ev_cons (ev_var rfl) ev_nil)) (I_state_or_wrong p0 p1 p2)) (show plD _ _ (play (init many) dl 0) = .tuple [encSt s, .int 0] by rw [hp]; rfl)) (by first | exact eg_tup (eg_cons eg_name (eg_cons eg_name eg_nil)) rfl | exact eg_lst (eg_cons eg_name (eg_cons eg_name eg_nil)) rfl)) ?_
    exact es_ret (ev_ifE (ev_tB (ev_notN (ev_var rfl))) (fun _ => ev_tup (ev_cons ev_str (ev_cons (ev_var rfl) (ev_cons (ev_call (ev_cons (ev_var rfl) ev_nil) (I_events_in gd)) ev_nil))) (Nat.le_of_ble_eq_true rfl)) (fun h => nomatch h))
  | none =>
    refine es_seq (es_asg (ev_eqd (ev_call (ev_cons (ev_var rfl) (ev_cons (ev_var rfl) ev_nil)) (I_state_or_wrong p0 p1 p2)) (show plD _ _ (play (init many) dl 0) = .tuple [.none, .int (x : Nat)] by rw [hp]; rfl)) (by first | exact eg_tup (eg_cons eg_name (eg_cons eg_name eg_nil)) rfl | exact eg_lst (eg_cons eg_name (eg_cons eg_name eg_nil)) rfl)) ?_
    exact es_ret (ev_ifE (ev_tB (ev_notN (ev_var rfl))) (fun h => nomatch h) (fun _ => ev_tup (ev_cons ev_str (ev_cons (ev_var rfl) ev_nil)) (Nat.le_of_ble_eq_true rfl)))

abbrev s_state_behind : Stmt := top 34
abbrev N_state_behind : List Str := ["many", "deeds"]
theorem sc_state_behind : FnScope N_state_behind ["many", "deeds"] (defScope s_state_behind) := ⟨rfl, rfl, rfl, by decide +kernel, rfl, by decide +kernel, by decide +kernel⟩


def F_state_behind : List PyData → PyData → Prop := fun ds z => ∃ (many : Nat) (dl : List Dd) (s : K27.St) (x : Nat), (many = 3 ∨ many = 5) ∧ (∀ d ∈ dl, fit d) ∧ (dl.length ≤ 400) ∧ (play (init many) dl 0 = (some s, x)) ∧ ds = [.int many, .tuple (dl.map encDd)] ∧ z = encSt s
theorem I_state_behind {many : Nat} {dl : List Dd} {s : K27.St} {x : Nat} (p0 : many = 3 ∨ many = 5) (p1 : ∀ d ∈ dl, fit d) (p2 : dl.length ≤ 400) (p3 : play (init many) dl 0 = (some s, x)) : F_state_behind [.int many, .tuple (dl.map encDd)] (encSt s) := ⟨many, dl, s, x, p0, p1, p2, p3, rfl, rfl⟩
theorem R_state_behind {P : Program} {w : World} {K : PySem.W.Frag} {mg : Str → Option Value} {base : Heap} (T : Tx mg) (kn : Kn K mg "state_behind" s_state_behind ["many", "deeds"]) (R_need_play : Rdy P w K mg base 6 "need_play" ["many", "deeds"] (spP K F_need_play)) : Rdy P w K mg base 7 "state_behind" ["many", "deeds"] (spP K F_state_behind) := by
  refine rdy_of kn sc_state_behind (fun ds z h => ?_) (by decide) (fun f cdv A outer s H E hr ds z h => ?_)
  · obtain ⟨many, dl, s, x, p0, p1, p2, p3, rfl, rfl⟩ := h
    rfl
  obtain ⟨many, dl, s, x, p0, p1, p2, p3, rfl, rfl⟩ := h
  refine ⟨_, (pss_one (ps_ret (pe_fn R_need_play (hr.mono (by decide)) (by rfl) (pa_cons (pv 0) (pa_cons (pv 1) pa_nil))))), ?_⟩
  exact es_ret (ev_call (ev_cons (ev_var rfl) (ev_cons (ev_var rfl) ev_nil)) (I_need_play p0 p1 p2 p3))

abbrev s_committed : Stmt := top 35
abbrev N_committed : List Str := ["many", "deeds"]
theorem sc_committed : FnScope N_committed ["many", "deeds"] (defScope s_committed) := ⟨rfl, rfl, rfl, by decide +kernel, rfl, by decide +kernel, by decide +kernel⟩


def F_committed : List PyData → PyData → Prop := fun ds z => ∃ (many : Nat) (dl : List Dd) (s : K27.St) (x : Nat), (many = 3 ∨ many = 5) ∧ (∀ d ∈ dl, fit d) ∧ (dl.length ≤ 400) ∧ (play (init many) dl 0 = (some s, x)) ∧ ds = [.int many, .tuple (dl.map encDd)] ∧ z = evsD s
theorem I_committed {many : Nat} {dl : List Dd} {s : K27.St} {x : Nat} (p0 : many = 3 ∨ many = 5) (p1 : ∀ d ∈ dl, fit d) (p2 : dl.length ≤ 400) (p3 : play (init many) dl 0 = (some s, x)) : F_committed [.int many, .tuple (dl.map encDd)] (evsD s) := ⟨many, dl, s, x, p0, p1, p2, p3, rfl, rfl⟩
theorem R_committed {P : Program} {w : World} {K : PySem.W.Frag} {mg : Str → Option Value} {base : Heap} (T : Tx mg) (kn : Kn K mg "committed" s_committed ["many", "deeds"]) (R_events_in : Rdy P w K mg base 1 "events_in" ["state"] (spP K F_events_in)) (R_need_play : Rdy P w K mg base 6 "need_play" ["many", "deeds"] (spP K F_need_play)) : Rdy P w K mg base 7 "committed" ["many", "deeds"] (spP K F_committed) := by
  refine rdy_of kn sc_committed (fun ds z h => ?_) (by decide) (fun f cdv A outer s H E hr ds z h => ?_)
  · obtain ⟨many, dl, s, x, p0, p1, p2, p3, rfl, rfl⟩ := h
    rfl
  obtain ⟨many, dl, s, x, p0, p1, p2, p3, rfl, rfl⟩ := h
  refine ⟨_, (pss_one (ps_ret (pe_fn R_events_in (hr.mono (by decide)) (by rfl) (pa_cons (pe_fn R_need_play (hr.mono (by decide)) (by rfl) (pa_cons (pv 0) (pa_cons (pv 1) pa_nil))) pa_nil)))), ?_⟩
  exact es_ret (ev_call (ev_cons (ev_call (ev_cons (ev_var rfl) (ev_cons (ev_var rfl) ev_nil)) (I_need_play p0 p1 p2 p3)) ev_nil) (I_events_in (play_gd (by omega) (by omega) (by omega) p3)))

end KD

/-! KZ: sorted(set(tuple)), a great power. -/
namespace KD
open PySem L2 PySem.Spec PyProof.Rows K27
def rSetT (K : PySem.W.Frag) (w : World) : List V → Hp → VK → Prop := fun vs H Q => ∃ (p : Addr) (ns : List Int), vs = [.ref p] ∧ SqT K H p (ns.map V.int) ∧ ns.length ≤ 20 ∧
  ∀ (q : Addr) (c : Nat), H q = none → c ≤ ns.length → Q (.ref q) (upd H q (SetO w q (fun j => decide (j ∈ ns)) c))
theorem cr_setTup {X : Cx} (calm : X.calm = true) : CallR X (.type "set") (rSetT X.K X.w) := by
  intro pins s σ H vs us Q I rel hyp
  obtain ⟨p, ns, rfl, tup, few, fin⟩ := hyp
  rw [Vals.ref1 rel]
  obtain ⟨its, rv, isT, _⟩ := I.tuple tup
  have hInts : IntsAre its.toArray.toList ns := intsAre_of rv
  refine call_set_tupI ns (I.ok.hd calm) (show s.heap.IsTuple p its.toArray from isT) hInts (by unfold scanBound; omega) fun h' tk c made le keep => ?_
  have fr : H s.heap.objs.size = none := I.hok.fresh (Nat.le_refl _)
  exact ⟨.ref s.heap.objs.size, _, I.laid (t' := tk) keep (Nat.le_refl _) (setO_new made), rfl, fin _ c fr le⟩
theorem srt_uniq : ∀ (a b : List Int), a.Pairwise (· < ·) → b.Pairwise (· < ·) → (∀ k, k ∈ a ↔ k ∈ b) → a = b
  | [], [], _, _, _ => rfl
  | [], y :: b, _, _, h => absurd ((h y).mpr List.mem_cons_self) (by simp)
  | x :: a, [], _, _, h => absurd ((h x).mp List.mem_cons_self) (by simp)
  | x :: a, y :: b, ha, hb, h => by
    rw [List.pairwise_cons] at ha hb
    have e : x = y := by
      rcases List.mem_cons.mp ((h x).mp List.mem_cons_self) with q | q
      · exact q
      · rcases List.mem_cons.mp ((h y).mpr List.mem_cons_self) with q' | q'
        · exact q'.symm
        · have h1 := hb.1 x q
          have h2 := ha.1 y q'
          omega
    subst e
    congr 1
    refine srt_uniq a b ha.2 hb.2 fun k => ⟨fun hk => ?_, fun hk => ?_⟩
    · rcases List.mem_cons.mp ((h k).mp (List.mem_cons_of_mem _ hk)) with q | q
      · have := ha.1 k hk; omega
      · exact q
    · rcases List.mem_cons.mp ((h k).mpr (List.mem_cons_of_mem _ hk)) with q | q
      · have := hb.1 k hk; omega
      · exact q
theorem ev_srtSet {K : PySem.W.Frag} {w : World} {ρ : En} {te : TE} {ns : List Int} (hn : ns.Pairwise (· < ·)) (hl : ns.length ≤ 20) (h : EvE K te ρ (.tuple (ns.map .int))) : EvE K (tCB (rSortedSet w) (tCons (tCB (rSetT K w) (tCons te tNil)) tNil)) ρ (.list (ns.map .int)) := fun σ G H hs hd Q q =>
  h σ G H hs hd _ fun v G2 H2 s dv => by
    obtain ⟨p, vs, e1, e2, e3⟩ := dp_tup dv
    have z := dpa_ints e3
    subst z e1
    refine ⟨p, ns, rfl, sqt_mono s.sub e2, hl, fun a c ha hc => ?_⟩
    refine ⟨a, _, c, rfl, upd_same, by omega, fun ms b h1 h2 h3 hb => ?_⟩
    have e : ms = ns := srt_uniq ms ns h1 hn fun k => by rw [h2 k]; simp
    subst e
    have ab : b ≠ a := fun z => by rw [z, upd_same] at hb; cases hb
    have hb2 : H2 b = none := by rw [upd_ne ab] at hb; exact hb
    have st : Stp G2 H2 (upd G2 b (.lst (ms.map V.int))) (upd (upd H2 a (SetO w a (fun j => decide (j ∈ ms)) c)) b (.lst (ms.map V.int))) := by
      refine ⟨fun x o ex => ?_, fun x o ex => ?_, fun x hx => upd_ne fun (z : x = b) => hx (by rw [z]; exact hb2)⟩
      · by_cases z : x = b
        · subst z; rw [upd_same] at ex ⊢; exact ex
        · rw [upd_ne z] at ex ⊢
          rw [upd_ne (ne_of_none (s.sub x o ex) ha)]
          exact s.sub x o ex
      · rw [upd_ne (ne_of_none ex hb2), upd_ne (ne_of_none ex ha)]
        exact ex
    exact q _ _ _ (s.trans st) (.lst (.inl (.inl upd_same)) (ints_dpa ms))
/-- a power whose bits are bounded -/
theorem op_powB {X : Cx} : OpR X (binaryOp .Pow) (rI (fun i j => 0 ≤ j ∧ (Builtin.Int.intBits i : Int) * j ≤ 2 ^ 27) fun i j => .int (i ^ j.toNat)) := opI fun _ _ _ _ _ _ _ c q => pow_int c.1 c.2 q
end KD

/-! KF8: the law's own look at states. -/
namespace KD
open PySem L2 PySem.Spec PyProof.Rows K27
theorem eqv_lnil (xs : List PyData) : PyData.eqv (.list xs) (.list []) = xs.isEmpty := by
  cases xs <;> simp [PyData.eqv, PyData.eqvAll]
theorem sh_lnats (vs : List Nat) : SeqAt.shaped (.list (nats vs)) = true := shaped_of (by simp [PyData.canLay0, (lay_nats vs).1]) (by have := (lay_nats vs).2; simp [PyData.depth]; omega)
theorem sh_lnil : SeqAt.shaped (.list []) = true := rfl
theorem nats_emp (vs : List Nat) : (nats vs).isEmpty = vs.isEmpty := by cases vs <;> rfl
theorem filter_emp {α : Type} (l : List α) (p : α → Bool) : (l.filter p).isEmpty = l.all fun a => !p a := by
  induction l with
  | nil => rfl
  | cons a l ih =>
    cases h : p a with
    | true => rw [List.filter_cons_of_pos h]; simp [h]
    | false => rw [List.filter_cons_of_neg (by rw [h]; decide), ih]; simp [h]
theorem at_cpL {s : K27.St} {i : Nat} (h : i < s.cs.length) : atI (s.cs.map encCpL) ((i : Nat) : Int) = some (encCpL (cp s i)) := at_map (cp_at h)

abbrev s__law_is_count : Stmt := top 41
abbrev N__law_is_count : List Str := ["value"]
theorem sc__law_is_count : FnScope N__law_is_count ["value"] (defScope s__law_is_count) := ⟨rfl, rfl, rfl, by decide +kernel, rfl, by decide +kernel, by decide +kernel⟩


def F__law_is_count : List PyData → PyData → Prop := fun ds z => ∃ (i : Int), ds = [.int i] ∧ z = .bool (decide (0 ≤ i))
theorem I__law_is_count {i : Int}  : F__law_is_count [.int i] (.bool (decide (0 ≤ i))) := ⟨i, rfl, rfl⟩
theorem R__law_is_count {P : Program} {w : World} {K : PySem.W.Frag} {mg : Str → Option Value} {base : Heap} (T : Tx mg) (kn : Kn K mg "_law_is_count" s__law_is_count ["value"]) : Rdy P w K mg base 1 "_law_is_count" ["value"] (spP K F__law_is_count) := by
  refine rdy_of kn sc__law_is_count (fun ds z h => ?_) (by decide) (fun f cdv A outer s H E hr ds z h => ?_)
  · obtain ⟨i, rfl, rfl⟩ := h
    rfl
  obtain ⟨i, rfl, rfl⟩ := h
  refine ⟨_, (pss_one (ps_ret (pe_and (pe_callB call_isi (by rfl) T.b_isinstance bt_isinstance (pa_cons (pv 0) (pa_cons (pe_bltn (v := .ty "int") (by rfl) T.b_int bt_int rfl) pa_nil))) (pe_and (pe_not (pe_callB call_isi (by rfl) T.b_isinstance bt_isinstance (pa_cons (pv 0) (pa_cons (pe_bltn (v := .ty "bool") (by rfl) T.b_bool bt_bool rfl) pa_nil)))) (pe_one (pe_cmpR op_ge (pv 0) pe_int (by first | rfl | exact nomark _))))))), ?_⟩
  exact es_retE (ev_andB (ev_isi (ev_var rfl) (by first | exact kit_int_int | exact kit_tuple_int | exact kit_str_int | exact kit_bool_int | exact kit_list_int | exact kit_none_int)) (fun _ => (ev_andB (ev_notV (ev_isi (ev_var rfl) (by first | exact kit_int_bool | exact kit_tuple_bool | exact kit_str_bool | exact kit_bool_bool | exact kit_list_bool | exact kit_none_bool))) (fun _ => (ev_op (ev_var rfl) ev_int rd_ge))))) (by simp)

abbrev s__law_last : Stmt := top 43
abbrev N__law_last : List Str := ["rows"]
theorem sc__law_last : FnScope N__law_last ["rows"] (defScope s__law_last) := ⟨rfl, rfl, rfl, by decide +kernel, rfl, by decide +kernel, by decide +kernel⟩


def F__law_last : List PyData → PyData → Prop := fun ds z => ∃ (rows : List K27.Row), ds = [encRows rows] ∧ z = .tuple [.int (lastT rows : Nat), .int (rows.length : Nat)]
theorem I__law_last {rows : List K27.Row}  : F__law_last [encRows rows] (.tuple [.int (lastT rows : Nat), .int (rows.length : Nat)]) := ⟨rows, rfl, rfl⟩
theorem R__law_last {P : Program} {w : World} {K : PySem.W.Frag} {mg : Str → Option Value} {base : Heap} (T : Tx mg) (kn : Kn K mg "_law_last" s__law_last ["rows"]) : Rdy P w K mg base 1 "_law_last" ["rows"] (spP K F__law_last) := by
  refine rdy_of kn sc__law_last (fun ds z h => ?_) (by decide) (fun f cdv A outer s H E hr ds z h => ?_)
  · obtain ⟨rows, rfl, rfl⟩ := h
    rfl
  obtain ⟨rows, rfl, rfl⟩ := h
  refine ⟨_, (pss_one (ps_ret (pe_tup (pa_cons (pe_ifExp (pt_cmpR (op_neD hr.units) (pv 0) (pe_tup pa_nil) (by first | rfl | exact nomark _)) (pe_ix ix_tup (pe_ix ix_tup (pv 0) (pe_un un_neg pe_int) (fun _ _ => rfl)) pe_int (fun _ _ => rfl)) pe_int) (pa_cons (pe_callB call_len_seq (by rfl) T.b_len bt_len (pa_cons (pv 0) pa_nil)) pa_nil))))), ?_⟩
  have hlast : EvE K (tIf _ _ _) _ (.int (lastT rows : Nat)) := ev_ifE (tt := tTest (tOp (rNeD K) (tVar 0) (tTup tNil))) (ta := tOp (rIxT K) (tOp (rIxT K) (tVar 0) (tUn (rU fun i => .int (-i)) (tC (.int 1)))) (tC (.int 0))) (tb := tC (.int 0)) (ρ := startE N__law_last.length [encRows rows]) (b := !decide (rows = [])) (ev_test (by
      rw [← eqv_nil]
      exact ev_op (ev_var rfl) (ev_tup ev_nil (Nat.le_of_ble_eq_true rfl)) (rd_ne (sh_rows rows) sh_nil))) (fun h => by
      have hne : rows ≠ [] := by simpa using h
      obtain ⟨r, hr'⟩ : ∃ r, rows.getLast? = some r := ⟨_, List.getLast?_eq_some_getLast hne⟩
      have e : lastT rows = r.term := by unfold lastT; rw [hr']
      rw [e]
      have h1 : atI (rows.map encRow) (-1) = some (encRow r) := by
        have hl : 0 < rows.length := List.length_pos_iff.mpr hne
        unfold atI ixN
        rw [List.length_map, if_neg (by omega), if_pos (by omega)]
        have e2 : ((-1 : Int) + (rows.length : Nat)).toNat = rows.length - 1 := by omega
        show (rows.map encRow)[((-1 : Int) + (rows.length : Nat)).toNat]? = _
        rw [e2, List.getElem?_map, ← List.getLast?_eq_getElem?, hr']
        rfl
      exact ev_op (ev_op (ev_var rfl) (ev_neg ev_int) (rd_ixT h1)) ev_int (rd_ixT rfl)) (fun h => by
      have hne : rows = [] := by simpa using h
      subst hne
      exact ev_int)
  exact es_retE (ev_tup (ev_cons hlast (ev_cons (ev_cb (ev_cons (ev_var rfl) ev_nil) rc_lenT) ev_nil)) (Nat.le_of_ble_eq_true rfl)) (by rw [List.length_map])

abbrev s__law_state : Stmt := top 44
abbrev N__law_state : List Str := ["many", "copy"]
theorem sc__law_state : FnScope N__law_state ["many"] (defScope s__law_state) := ⟨rfl, rfl, rfl, by decide +kernel, rfl, by decide +kernel, by decide +kernel⟩


def F__law_state : List PyData → PyData → Prop := fun ds z => ∃ (many : Nat), (many ≤ 5) ∧ ds = [.int many] ∧ z = encStL (init many)
theorem I__law_state {many : Nat} (p0 : many ≤ 5) : F__law_state [.int many] (encStL (init many)) := ⟨many, p0, rfl, rfl⟩
theorem R__law_state {P : Program} {w : World} {K : PySem.W.Frag} {mg : Str → Option Value} {base : Heap} (T : Tx mg) (kn : Kn K mg "_law_state" s__law_state ["many"]) : Rdy P w K mg base 1 "_law_state" ["many"] (spP K F__law_state) := by
  refine rdy_of kn sc__law_state (fun ds z h => ?_) (by decide) (fun f cdv A outer s H E hr ds z h => ?_)
  · obtain ⟨many, p0, rfl, rfl⟩ := h
    rfl
  obtain ⟨many, p0, rfl, rfl⟩ := h
  refine ⟨_, (pss_one (ps_ret (pe_lst (pa_cons (pe_lc (own := [("copy", 1)]) (g := (gName 1)) (tt := tYes) (te := (tLst (tCons (tC (.bl true)) (tCons (tC (.int 0)) (tCons (tTup tNil) tNil))))) rfl sc__law_state.nd (pi_range1 (by rfl) T.b_range (pa_cons (pv 0) pa_nil)) (blkOk_by (N := N__law_state) (sc := defScope s__law_state) (by decide +kernel)) (fun _ _ _ _ _ => by exact (pg_name (i := 1) sc__law_state.nd rfl (by first | exact Or.inl rfl | exact Or.inr rfl))) (fun _ _ _ _ _ => by exact pts_nil) (fun _ _ _ _ _ => by exact (pe_lst (pa_cons pe_bl (pa_cons pe_int (pa_cons (pe_tup pa_nil) pa_nil)))))) (pa_cons pe_non (pa_cons pe_int pa_nil)))))), ?_⟩
  refine es_retE (ev_lst (ev_cons (ev_lc (ei_range1 (ev_cons (ev_var rfl) ev_nil) (by omega) (by omega)) (lr_map (c := fun i : Nat => .int (i : Nat)) (f := fun _ => encCpL ⟨true, 0, []⟩) (by simp) (List.range ((many : Nat) : Int).toNat) fun v _ => ⟨eg_name, ev_lst (ev_cons ev_bl (ev_cons ev_int (ev_cons (ev_tup ev_nil (Nat.le_of_ble_eq_true rfl)) ev_nil))) (Nat.le_of_ble_eq_true rfl)⟩) (Nat.le_trans (m := 10) (by simp; omega) (by decide))) (ev_cons ev_non (ev_cons ev_int ev_nil))) (Nat.le_of_ble_eq_true rfl)) ?_
  simp [encStL, init, encO, List.map_const']

abbrev s__law_told_state : Stmt := top 47
abbrev N__law_told_state : List Str := ["state", "one"]
theorem sc__law_told_state : FnScope N__law_told_state ["state"] (defScope s__law_told_state) := ⟨rfl, rfl, rfl, by decide +kernel, rfl, by decide +kernel, by decide +kernel⟩


def F__law_told_state : List PyData → PyData → Prop := fun ds z => ∃ (s : K27.St), (Gd s) ∧ ds = [encStL s] ∧ z = encSt s
theorem I__law_told_state {s : K27.St} (p0 : Gd s) : F__law_told_state [encStL s] (encSt s) := ⟨s, p0, rfl, rfl⟩
theorem R__law_told_state {P : Program} {w : World} {K : PySem.W.Frag} {mg : Str → Option Value} {base : Heap} (T : Tx mg) (kn : Kn K mg "_law_told_state" s__law_told_state ["state"]) : Rdy P w K mg base 1 "_law_told_state" ["state"] (spP K F__law_told_state) := by
  refine rdy_of kn sc__law_told_state (fun ds z h => ?_) (by decide) (fun f cdv A outer s H E hr ds z h => ?_)
  · obtain ⟨s, p0, rfl, rfl⟩ := h
    rfl
  obtain ⟨s, p0, rfl, rfl⟩ := h
  refine ⟨_, (pss_one (ps_ret (pe_tup (pa_cons (pe_callTy call_tuple_of (by rfl) T.b_tuple bt_tuple (pa_cons (pe_lc (own := [("one", 1)]) (g := (gName 1)) (tt := tYes) (te := (tCB (rTupOf K) (tCons (tVar 1) tNil))) rfl sc__law_told_state.nd (pi_list (pe_ix ix_list (pv 0) pe_int (fun _ _ => rfl))) (blkOk_by (N := N__law_told_state) (sc := defScope s__law_told_state) (by decide +kernel)) (fun _ _ _ _ _ => by exact (pg_name (i := 1) sc__law_told_state.nd rfl (by first | exact Or.inl rfl | exact Or.inr rfl))) (fun _ _ _ _ _ => by exact pts_nil) (fun _ _ _ _ _ => by exact (pe_callTy call_tuple_of (by rfl) T.b_tuple bt_tuple (pa_cons (pv 1) pa_nil)))) pa_nil)) (pa_cons (pe_ix ix_list (pv 0) pe_int (fun _ _ => rfl)) (pa_cons (pe_ix ix_list (pv 0) pe_int (fun _ _ => rfl)) pa_nil)))))), ?_⟩
  have sz : (s.cs.map encCpL).length ≤ sizeLine := Nat.le_trans (m := 5) (by rw [List.length_map]; exact p0.len) (by decide)
  exact es_ret (ev_tup (ev_cons (ev_cb (ev_cons (ev_lc (ei_lst (ev_op (ev_var rfl) ev_int (rd_ixL rfl))) (lr_map (c := encCpL) (f := encCp) (by simp) s.cs fun c _ => ⟨eg_name, ev_cb (ev_cons (ev_var rfl) ev_nil) rc_tupL⟩) sz) ev_nil) rc_tupL) (ev_cons (ev_op (ev_var rfl) ev_int (rd_ixL rfl)) (ev_cons (ev_op (ev_var rfl) ev_int (rd_ixL rfl)) ev_nil))) (Nat.le_of_ble_eq_true rfl))

abbrev s__law_are_events : Stmt := top 42
abbrev N__law_are_events : List Str := ["value", "event", "one"]
theorem sc__law_are_events : FnScope N__law_are_events ["value"] (defScope s__law_are_events) := ⟨rfl, rfl, rfl, by decide +kernel, rfl, by decide +kernel, by decide +kernel⟩


def F__law_are_events : List PyData → PyData → Prop := fun ds z => ∃ (e : Ev), (evOk e = true) ∧ ds = [.tuple [encEv e]] ∧ z = .bool true
theorem I__law_are_events {e : Ev} (p0 : evOk e = true) : F__law_are_events [.tuple [encEv e]] (.bool true) := ⟨e, p0, rfl, rfl⟩
theorem R__law_are_events {P : Program} {w : World} {K : PySem.W.Frag} {mg : Str → Option Value} {base : Heap} (T : Tx mg) (kn : Kn K mg "_law_are_events" s__law_are_events ["value"]) (R__law_is_count : Rdy P w K mg base 1 "_law_is_count" ["value"] (spP K F__law_is_count)) : Rdy P w K mg base 2 "_law_are_events" ["value"] (spP K F__law_are_events) := by
  refine rdy_of kn sc__law_are_events (fun ds z h => ?_) (by decide) (fun f cdv A outer s H E hr ds z h => ?_)
  · obtain ⟨e, p0, rfl, rfl⟩ := h
    rfl
  obtain ⟨e, p0, rfl, rfl⟩ := h
  refine ⟨_, (pss_cons (ps_if (PW.pt (pw_or (pt_not (pt_val (pe_callB call_isi (by rfl) T.b_isinstance bt_isinstance (pa_cons (pv 0) (pa_cons (pe_bltn (v := .ty "tuple") (by rfl) T.b_tuple bt_tuple rfl) pa_nil))))) (pw_or1 (pt_cmpR op_gt (pe_callB call_len_seq (by rfl) T.b_len bt_len (pa_cons (pv 0) pa_nil)) pe_int (by first | rfl | exact nomark _))))) (pss_one (ps_ret pe_bl)) pss_nil) (pss_cons (ps_for PassesOwn.never rfl (pi_tup (pv 0)) (pg_name (i := 1) sc__law_are_events.nd rfl (by first | exact Or.inl rfl | exact Or.inr rfl)) (pss_cons (ps_if (PW.pt (pw_or (pt_not (pt_val (pe_callB call_isi (by rfl) T.b_isinstance bt_isinstance (pa_cons (pv 1) (pa_cons (pe_bltn (v := .ty "tuple") (by rfl) T.b_tuple bt_tuple rfl) pa_nil))))) (pw_or (pt_cmpR (op_eqD hr.units) (pv 1) (pe_tup pa_nil) (by first | rfl | exact nomark _)) (pw_or1 (pt_not (pt_val (pe_callB call_isi (by rfl) T.b_isinstance bt_isinstance (pa_cons (pe_ix ix_tup (pv 1) pe_int (fun _ _ => rfl)) (pa_cons (pe_bltn (v := .ty "str") (by rfl) T.b_str bt_str rfl) pa_nil))))))))) (pss_one (ps_ret pe_bl)) pss_nil) (pss_one (ps_if (pt_cmpR (op_eqD hr.units) (pe_ix ix_tup (pv 1) pe_int (fun _ _ => rfl)) pe_str (by first | rfl | exact nomark _)) (pss_cons (ps_if (PW.pt (pw_or (pt_cmpR (op_neD hr.units) (pe_callB call_len_seq (by rfl) T.b_len bt_len (pa_cons (pv 1) pa_nil)) pe_int (by first | rfl | exact nomark _)) (pw_or (pt_not (pt_val (pe_callB call_isi (by rfl) T.b_isinstance bt_isinstance (pa_cons (pe_ix ix_tup (pv 1) pe_int (fun _ _ => rfl)) (pa_cons (pe_bltn (v := .ty "tuple") (by rfl) T.b_tuple bt_tuple rfl) pa_nil))))) (pw_or (pt_not (pt_val (pe_callB call_isi (by rfl) T.b_isinstance bt_isinstance (pa_cons (pe_ix ix_tup (pv 1) pe_int (fun _ _ => rfl)) (pa_cons (pe_bltn (v := .ty "bool") (by rfl) T.b_bool bt_bool rfl) pa_nil))))) (pw_or (pt_not (pt_val (pe_fn R__law_is_count (hr.mono (by decide)) (by rfl) (pa_cons (pe_ix ix_tup (pv 1) pe_int (fun _ _ => rfl)) pa_nil)))) (pw_or1 (pt_cmpR op_gt (pe_ix ix_tup (pv 1) pe_int (fun _ _ => rfl)) pe_int (by first | rfl | exact nomark _)))))))) (pss_one (ps_ret pe_bl)) pss_nil) (pss_one (ps_if (PW.pt (pw_or (pt_cmpR op_gt (pe_callB call_len_seq (by rfl) T.b_len bt_len (pa_cons (pe_ix ix_tup (pv 1) pe_int (fun _ _ => rfl)) pa_nil)) pe_int (by first | rfl | exact nomark _)) (pw_or1 (pt_cmpR (op_neD hr.units) (pe_lc (own := [("one", 2)]) (g := (gName 2)) (tt := (tOr (tNot (tB (tCall (spP K F__law_is_count) [] E0 (tCons (tVar 2) tNil)))) (tTest (tOp _ (tVar 2) (tC (.int 9)))))) (te := (tVar 2)) rfl sc__law_are_events.nd (pi_tup (pe_ix ix_tup (pv 1) pe_int (fun _ _ => rfl))) (blkOk_by (N := N__law_are_events) (sc := defScope s__law_are_events) (by decide +kernel)) (fun _ _ _ _ _ => by exact (pg_name (i := 2) sc__law_are_events.nd rfl (by first | exact Or.inl rfl | exact Or.inr rfl))) (fun _ _ _ _ _ => by exact (pts_one (PW.pt (pw_or (pt_not (pt_val (pe_fn R__law_is_count (hr.mono (by decide)) (by rfl) (pa_cons (pv 2) pa_nil)))) (pw_or1 (pt_cmpR op_gt (pv 2) pe_int (by first | rfl | exact nomark _))))))) (fun _ _ _ _ _ => by exact (pv 2))) (pe_lst pa_nil) (by first | rfl | exact nomark _))))) (pss_one (ps_ret pe_bl)) pss_nil))) (pss_one (ps_if (pt_cmpR (op_neD hr.units) (pv 1) (pe_tup (pa_cons pe_str pa_nil)) (by first | rfl | exact nomark _)) (pss_one (ps_ret pe_bl)) pss_nil)))))) (pss_one (ps_ret pe_bl)))), ?_⟩
  refine es_ifS (ev_orT (ev_notT (ev_tB (ev_isi (ev_var rfl) (by first | exact kit_int_tuple | exact kit_tuple_tuple | exact kit_str_tuple | exact kit_bool_tuple | exact kit_list_tuple | exact kit_none_tuple)))) (fun _ => (ev_test (ev_op (ev_cb (ev_cons (ev_var rfl) ev_nil) (by first | exact rc_lenT | exact rc_lenL)) ev_int rd_gt)))) (fun h => absurd h (by first | (simp [encDd, encEv, encO, isNone, PyData.eqv, PyData.eqvAll]; done) | (simp [encDd, encEv, encO, isNone, PyData.eqv, PyData.eqvAll]; decide +kernel))) fun _ => es_nxS ?_
  refine es_run (fun ρ => ∃ o o', ρ = [some (.tuple [encEv e]), o, o']) [e] encEv ?_ ⟨none, none, rfl⟩ ?_ fun ρ' _ => es_ret ev_bl
  · exact ei_tup (ev_var rfl)
  · rintro a ha ρ ⟨o, o', rfl⟩
    rw [List.mem_singleton] at ha
    subst ha
    cases a with
    | off =>
      refine ⟨_, _, [some (.tuple [encEv .off]), some (encEv .off), o'], eg_name, ?_, ⟨_, _, rfl⟩⟩
      refine es_ifS (ev_orT (ev_notT (ev_tB (ev_isi (ev_var rfl) (by first | exact kit_int_tuple | exact kit_tuple_tuple | exact kit_str_tuple | exact kit_bool_tuple | exact kit_list_tuple | exact kit_none_tuple)))) (fun _ => (ev_orT (ev_test (ev_op (ev_var rfl) (ev_tup ev_nil (Nat.le_of_ble_eq_true rfl)) (rd_eq (by first | rfl | exact sh_rows _ | exact sh_ev _ | exact sh_dd _ | decide +kernel) (by first | rfl | exact sh_rows _ | exact sh_ev _ | exact sh_dd _ | decide +kernel)))) (fun _ => (ev_notT (ev_tB (ev_isi (ev_op (ev_var rfl) ev_int (by first | exact rd_ixT rfl | exact rd_ixL rfl)) (by first | exact kit_int_str | exact kit_tuple_str | exact kit_str_str | exact kit_bool_str | exact kit_list_str | exact kit_none_str)))))))) (fun h => absurd h (by first | (simp [encDd, encEv, encO, isNone, PyData.eqv, PyData.eqvAll]; done) | (simp [encDd, encEv, encO, isNone, PyData.eqv, PyData.eqvAll]; decide +kernel))) fun _ => es_nxS ?_
      refine es_if (ev_test (ev_op (ev_op (ev_var rfl) ev_int (by first | exact rd_ixT rfl | exact rd_ixL rfl)) ev_str (rd_eq (by first | rfl | exact sh_rows _ | exact sh_ev _ | exact sh_dd _ | decide +kernel) (by first | rfl | exact sh_rows _ | exact sh_ev _ | exact sh_dd _ | decide +kernel)))) (fun h => absurd h (by first | (simp [encDd, encEv, encO, isNone, PyData.eqv, PyData.eqvAll]; done) | (simp [encDd, encEv, encO, isNone, PyData.eqv, PyData.eqvAll]; decide +kernel))) fun _ => ?_
      exact es_if (ev_test (ev_op (ev_var rfl) (ev_tup (ev_cons ev_str ev_nil) (Nat.le_of_ble_eq_true rfl)) (rd_ne (by first | rfl | exact sh_rows _ | exact sh_ev _ | exact sh_dd _ | decide +kernel) (by first | rfl | exact sh_rows _ | exact sh_ev _ | exact sh_dd _ | decide +kernel)))) (fun h => absurd h (by first | (simp [encDd, encEv, encO, isNone, PyData.eqv, PyData.eqvAll]; done) | (simp [encDd, encEv, encO, isNone, PyData.eqv, PyData.eqvAll]; decide +kernel))) fun _ => es_next
    | ans a b g n =>
      obtain ⟨ha, hb, hn⟩ := evOk_path p0
      refine ⟨_, _, [some (.tuple [encEv (.ans a b g n)]), some (encEv (.ans a b g n)), o'], eg_name, ?_, ⟨_, _, rfl⟩⟩
      refine es_ifS (ev_orT (ev_notT (ev_tB (ev_isi (ev_var rfl) (by first | exact kit_int_tuple | exact kit_tuple_tuple | exact kit_str_tuple | exact kit_bool_tuple | exact kit_list_tuple | exact kit_none_tuple)))) (fun _ => (ev_orT (ev_test (ev_op (ev_var rfl) (ev_tup ev_nil (Nat.le_of_ble_eq_true rfl)) (rd_eq (by first | rfl | exact sh_rows _ | exact sh_ev _ | exact sh_dd _ | decide +kernel) (by first | rfl | exact sh_rows _ | exact sh_ev _ | exact sh_dd _ | decide +kernel)))) (fun _ => (ev_notT (ev_tB (ev_isi (ev_op (ev_var rfl) ev_int (by first | exact rd_ixT rfl | exact rd_ixL rfl)) (by first | exact kit_int_str | exact kit_tuple_str | exact kit_str_str | exact kit_bool_str | exact kit_list_str | exact kit_none_str)))))))) (fun h => absurd h (by first | (simp [encDd, encEv, encO, isNone, PyData.eqv, PyData.eqvAll]; done) | (simp [encDd, encEv, encO, isNone, PyData.eqv, PyData.eqvAll]; decide +kernel))) fun _ => es_nxS ?_
      refine es_if (ev_test (ev_op (ev_op (ev_var rfl) ev_int (by first | exact rd_ixT rfl | exact rd_ixL rfl)) ev_str (rd_eq (by first | rfl | exact sh_rows _ | exact sh_ev _ | exact sh_dd _ | decide +kernel) (by first | rfl | exact sh_rows _ | exact sh_ev _ | exact sh_dd _ | decide +kernel)))) (fun _ => ?_) (fun h => absurd h (by first | (simp [encDd, encEv, encO, isNone, PyData.eqv, PyData.eqvAll]; done) | (simp [encDd, encEv, encO, isNone, PyData.eqv, PyData.eqvAll]; decide +kernel)))
      refine es_ifS (ev_orT (ev_test (ev_op (ev_cb (ev_cons (ev_var rfl) ev_nil) (by first | exact rc_lenT | exact rc_lenL)) ev_int (rd_ne (by first | rfl | exact sh_rows _ | exact sh_ev _ | exact sh_dd _ | decide +kernel) (by first | rfl | exact sh_rows _ | exact sh_ev _ | exact sh_dd _ | decide +kernel)))) (fun _ => (ev_orT (ev_notT (ev_tB (ev_isi (ev_op (ev_var rfl) ev_int (by first | exact rd_ixT rfl | exact rd_ixL rfl)) (by first | exact kit_int_tuple | exact kit_tuple_tuple | exact kit_str_tuple | exact kit_bool_tuple | exact kit_list_tuple | exact kit_none_tuple)))) (fun _ => (ev_orT (ev_notT (ev_tB (ev_isi (ev_op (ev_var rfl) ev_int (by first | exact rd_ixT rfl | exact rd_ixL rfl)) (by first | exact kit_int_bool | exact kit_tuple_bool | exact kit_str_bool | exact kit_bool_bool | exact kit_list_bool | exact kit_none_bool)))) (fun _ => (ev_orT (ev_notT (ev_tB (ev_call (ev_cons (ev_op (ev_var rfl) ev_int (by first | exact rd_ixT rfl | exact rd_ixL rfl)) ev_nil) I__law_is_count))) (fun _ => (ev_test (ev_op (ev_op (ev_var rfl) ev_int (by first | exact rd_ixT rfl | exact rd_ixL rfl)) ev_int rd_gt)))))))))) (fun h => absurd h (by simp [PyData.eqv]; omega)) fun _ => es_nxS ?_
      refine es_if (b := false || false) (ev_orT (et_eqb (ev_test (ev_op (ev_cb (ev_cons (ev_op (ev_var rfl) ev_int (rd_ixT rfl)) ev_nil) rc_lenT) ev_int rd_gt)) rfl) fun _ => et_eqb (ev_test (ev_op (ev_lc (ei_tup (ev_op (ev_var rfl) ev_int (rd_ixT rfl))) (.no eg_name (by simp) (et_eqb (ev_orT (ev_notT (ev_tB (ev_call (ev_cons (ev_var rfl) ev_nil) I__law_is_count))) fun _ => ev_test (ev_op (ev_var rfl) ev_int rd_gt)) (by simp; omega)) (.no eg_name (by simp) (et_eqb (ev_orT (ev_notT (ev_tB (ev_call (ev_cons (ev_var rfl) ev_nil) I__law_is_count))) fun _ => ev_test (ev_op (ev_var rfl) ev_int rd_gt)) (by simp; omega)) .nil)) (Nat.le_of_ble_eq_true rfl)) (ev_lst ev_nil (Nat.le_of_ble_eq_true rfl)) (rd_ne rfl rfl))) (by simp [PyData.eqv, PyData.eqvAll])) (fun h => nomatch h) fun _ => es_next

abbrev s__law_is_event : Stmt := top 51
abbrev N__law_is_event : List Str := ["value"]
theorem sc__law_is_event : FnScope N__law_is_event ["value"] (defScope s__law_is_event) := ⟨rfl, rfl, rfl, by decide +kernel, rfl, by decide +kernel, by decide +kernel⟩


def F__law_is_event : List PyData → PyData → Prop := fun ds z => ∃ (e : Ev), (evOk e = true) ∧ ds = [encEv e] ∧ z = .bool true
theorem I__law_is_event {e : Ev} (p0 : evOk e = true) : F__law_is_event [encEv e] (.bool true) := ⟨e, p0, rfl, rfl⟩
theorem R__law_is_event {P : Program} {w : World} {K : PySem.W.Frag} {mg : Str → Option Value} {base : Heap} (T : Tx mg) (kn : Kn K mg "_law_is_event" s__law_is_event ["value"]) (R__law_are_events : Rdy P w K mg base 2 "_law_are_events" ["value"] (spP K F__law_are_events)) : Rdy P w K mg base 3 "_law_is_event" ["value"] (spP K F__law_is_event) := by
  refine rdy_of kn sc__law_is_event (fun ds z h => ?_) (by decide) (fun f cdv A outer s H E hr ds z h => ?_)
  · obtain ⟨e, p0, rfl, rfl⟩ := h
    rfl
  obtain ⟨e, p0, rfl, rfl⟩ := h
  refine ⟨_, (pss_one (ps_ret (pe_fn R__law_are_events (hr.mono (by decide)) (by rfl) (pa_cons (pe_tup (pa_cons (pv 0) pa_nil)) pa_nil)))), ?_⟩
  exact es_ret (ev_call (ev_cons (ev_tup (ev_cons (ev_var rfl) ev_nil) (Nat.le_of_ble_eq_true rfl)) ev_nil) (I__law_are_events p0))

end KD

/-! KF9: which deeds can be, by the law; what is committed, by the law. -/
namespace KD
open PySem L2 PySem.Spec PyProof.Rows K27
theorem not_gt4 (v : Nat) : (!decide (4 < v)) = decide (v ≤ 4) := by
  by_cases q : v ≤ 4
  · rw [decide_eq_true q, decide_eq_false (by omega)]; rfl
  · rw [decide_eq_false q, decide_eq_true (by omega)]; rfl
def fit2 : Dd → Prop
  | .elect _ vs => vs.length ≤ 10 ∧ rising vs = true
  | .append e => evOk e = true
  | _ => True
theorem fit2.fit {d : Dd} (h : fit2 d) : fit d := by
  cases d <;> first | exact h.1 | exact h | trivial
theorem rising_pw : ∀ {vs : List Nat}, rising vs = true → (vs.map fun v => ((v : Nat) : Int)).Pairwise (· < ·)
  | [], _ => .nil
  | a :: r, h => by
    rw [List.map_cons, List.pairwise_cons]
    refine ⟨fun y hy => ?_, rising_pw (vs := r) ?_⟩
    · obtain ⟨u, hu, rfl⟩ := List.mem_map.mp hy
      have := (rising_nodup h).2 a r rfl u hu
      omega
    · cases r with
      | nil => rfl
      | cons b r =>
        simp only [rising, Bool.and_eq_true] at h
        exact h.2
theorem natsL_eqv (vs : List Nat) : PyData.eqv (.list (nats vs)) (.list (nats vs)) = true := by
  have : ∀ l : List Nat, PyData.eqvAll (nats l) (nats l) = true := fun l => by
    induction l with
    | nil => rfl
    | cons a l ih => simp [nats, PyData.eqvAll, PyData.eqv] at ih ⊢; exact ih
  simp only [PyData.eqv]
  exact this vs

abbrev s__law_is_deed : Stmt := top 52
abbrev N__law_is_deed : List Str := ["value", "one"]
theorem sc__law_is_deed : FnScope N__law_is_deed ["value"] (defScope s__law_is_deed) := ⟨rfl, rfl, rfl, by decide +kernel, rfl, by decide +kernel, by decide +kernel⟩


def F__law_is_deed : List PyData → PyData → Prop := fun ds z => ∃ (d : Dd), (fit2 d) ∧ ds = [encDd d] ∧ z = .bool (form d)
theorem I__law_is_deed {d : Dd} (p0 : fit2 d) : F__law_is_deed [encDd d] (.bool (form d)) := ⟨d, p0, rfl, rfl⟩
theorem R__law_is_deed {P : Program} {w : World} {K : PySem.W.Frag} {mg : Str → Option Value} {base : Heap} (T : Tx mg) (kn : Kn K mg "_law_is_deed" s__law_is_deed ["value"]) (R__law_is_count : Rdy P w K mg base 1 "_law_is_count" ["value"] (spP K F__law_is_count)) (R__law_is_event : Rdy P w K mg base 3 "_law_is_event" ["value"] (spP K F__law_is_event)) : Rdy P w K mg base 4 "_law_is_deed" ["value"] (spP K F__law_is_deed) := by
  refine rdy_of kn sc__law_is_deed (fun ds z h => ?_) (by decide) (fun f cdv A outer s H E hr ds z h => ?_)
  · obtain ⟨d, p0, rfl, rfl⟩ := h
    rfl
  obtain ⟨d, p0, rfl, rfl⟩ := h
  refine ⟨_, (pss_cons (ps_if (PW.pt (pw_or (pt_not (pt_val (pe_callB call_isi (by rfl) T.b_isinstance bt_isinstance (pa_cons (pv 0) (pa_cons (pe_bltn (v := .ty "tuple") (by rfl) T.b_tuple bt_tuple rfl) pa_nil))))) (pw_or (pt_not (pt_chain op_le op_le pe_int (pe_callB call_len_seq (by rfl) T.b_len bt_len (pa_cons (pv 0) pa_nil)) pe_int)) (pw_or1 (pt_not (pt_val (pe_callB call_isi (by rfl) T.b_isinstance bt_isinstance (pa_cons (pe_ix ix_tup (pv 0) pe_int (fun _ _ => rfl)) (pa_cons (pe_bltn (v := .ty "str") (by rfl) T.b_str bt_str rfl) pa_nil))))))))) (pss_one (ps_ret pe_bl)) pss_nil) (pss_cons (ps_if (pt_cmpR (op_eqD hr.units) (pe_ix ix_tup (pv 0) pe_int (fun _ _ => rfl)) pe_str (by first | rfl | exact nomark _)) (pss_cons (ps_if (PW.pt (pw_or (pt_cmpR (op_neD hr.units) (pe_callB call_len_seq (by rfl) T.b_len bt_len (pa_cons (pv 0) pa_nil)) pe_int (by first | rfl | exact nomark _)) (pw_or (pt_not (pt_val (pe_fn R__law_is_count (hr.mono (by decide)) (by rfl) (pa_cons (pe_ix ix_tup (pv 0) pe_int (fun _ _ => rfl)) pa_nil)))) (pw_or (pt_cmpR op_gt (pe_ix ix_tup (pv 0) pe_int (fun _ _ => rfl)) pe_int (by first | rfl | exact nomark _)) (pw_or1 (pt_not (pt_val (pe_callB call_isi (by rfl) T.b_isinstance bt_isinstance (pa_cons (pe_ix ix_tup (pv 0) pe_int (fun _ _ => rfl)) (pa_cons (pe_bltn (v := .ty "tuple") (by rfl) T.b_tuple bt_tuple rfl) pa_nil)))))))))) (pss_one (ps_ret pe_bl)) pss_nil) (pss_one (ps_ret (pe_and (pe_cmpR (op_eqD hr.units) (pe_lc (own := [("one", 1)]) (g := (gName 1)) (tt := (tOr (tNot (tB (tCall (spP K F__law_is_count) [] E0 (tCons (tVar 1) tNil)))) (tTest (tOp _ (tVar 1) (tC (.int 4)))))) (te := (tVar 1)) rfl sc__law_is_deed.nd (pi_tup (pe_ix ix_tup (pv 0) pe_int (fun _ _ => rfl))) (blkOk_by (N := N__law_is_deed) (sc := defScope s__law_is_deed) (by decide +kernel)) (fun _ _ _ _ _ => by exact (pg_name (i := 1) sc__law_is_deed.nd rfl (by first | exact Or.inl rfl | exact Or.inr rfl))) (fun _ _ _ _ _ => by exact (pts_one (PW.pt (pw_or (pt_not (pt_val (pe_fn R__law_is_count (hr.mono (by decide)) (by rfl) (pa_cons (pv 1) pa_nil)))) (pw_or1 (pt_cmpR op_gt (pv 1) pe_int (by first | rfl | exact nomark _))))))) (fun _ _ _ _ _ => by exact (pv 1))) (pe_lst pa_nil) (by first | rfl | exact nomark _)) (pe_one (pe_cmpR (op_eqD hr.units) (pe_callTy call_list_of (by rfl) T.b_list bt_list (pa_cons (pe_ix ix_tup (pv 0) pe_int (fun _ _ => rfl)) pa_nil)) (pe_callB (cr_sortedSet rfl) (by rfl) T.b_sorted bt_sorted (pa_cons (pe_callTy (cr_setTup rfl) (by rfl) T.b_set bt_set (pa_cons (pe_ix ix_tup (pv 0) pe_int (fun _ _ => rfl)) pa_nil)) pa_nil)) (by first | rfl | exact nomark _))))))) pss_nil) (pss_cons (ps_if (pt_cmpR (op_neD hr.units) (pe_callB call_len_seq (by rfl) T.b_len bt_len (pa_cons (pv 0) pa_nil)) pe_int (by first | rfl | exact nomark _)) (pss_one (ps_ret pe_bl)) pss_nil) (pss_cons (ps_if (pt_cmpR (op_eqD hr.units) (pe_ix ix_tup (pv 0) pe_int (fun _ _ => rfl)) pe_str (by first | rfl | exact nomark _)) (pss_one (ps_ret (pe_fn R__law_is_event (hr.mono (by decide)) (by rfl) (pa_cons (pe_ix ix_tup (pv 0) pe_int (fun _ _ => rfl)) pa_nil)))) pss_nil) (pss_cons (ps_if (pt_cmpR (op_eqD hr.units) (pe_ix ix_tup (pv 0) pe_int (fun _ _ => rfl)) pe_str (by first | rfl | exact nomark _)) (pss_one (ps_ret (pe_and (pe_fn R__law_is_count (hr.mono (by decide)) (by rfl) (pa_cons (pe_ix ix_tup (pv 0) pe_int (fun _ _ => rfl)) pa_nil)) (pe_one (pe_chain op_le op_le pe_int (pe_ix ix_tup (pv 0) pe_int (fun _ _ => rfl)) pe_int))))) pss_nil) (pss_one (ps_ret (pe_and (pe_cmpR op_in_seq (pe_ix ix_tup (pv 0) pe_int (fun _ _ => rfl)) (pe_tup (pa_cons pe_str (pa_cons pe_str (pa_cons pe_str pa_nil)))) (by first | rfl | exact nomark _)) (pe_and (pe_fn R__law_is_count (hr.mono (by decide)) (by rfl) (pa_cons (pe_ix ix_tup (pv 0) pe_int (fun _ _ => rfl)) pa_nil)) (pe_one (pe_cmpR op_le (pe_ix ix_tup (pv 0) pe_int (fun _ _ => rfl)) pe_int (by first | rfl | exact nomark _)))))))))))), ?_⟩
  cases d with
  | elect i vs =>
    have sz : (nats vs).length ≤ sizeLine := Nat.le_trans (m := 10) (by rw [nats, List.length_map]; exact p0.1) (by decide)
    refine es_ifS (ev_orT (ev_notT (ev_tB (ev_isi (ev_var rfl) (by first | exact kit_int_tuple | exact kit_tuple_tuple | exact kit_str_tuple | exact kit_bool_tuple | exact kit_list_tuple | exact kit_none_tuple)))) (fun _ => (ev_orT (ev_notT (ev_test (ev_chB ev_int (ev_cb (ev_cons (ev_var rfl) ev_nil) (by first | exact rc_lenT | exact rc_lenL)) rd_le ev_int rd_le))) (fun _ => (ev_notT (ev_tB (ev_isi (ev_op (ev_var rfl) ev_int (by first | exact rd_ixT rfl | exact rd_ixL rfl)) (by first | exact kit_int_str | exact kit_tuple_str | exact kit_str_str | exact kit_bool_str | exact kit_list_str | exact kit_none_str)))))))) (fun h => absurd h (by first | (simp [encDd, encEv, encO, isNone, PyData.eqv, PyData.eqvAll]; done) | (simp [encDd, encEv, encO, isNone, PyData.eqv, PyData.eqvAll]; decide +kernel))) fun _ => es_nxS ?_
    refine es_ifS (ev_test (ev_op (ev_op (ev_var rfl) ev_int (by first | exact rd_ixT rfl | exact rd_ixL rfl)) ev_str (rd_eq (by first | rfl | exact sh_rows _ | exact sh_ev _ | exact sh_dd _ | decide +kernel) (by first | rfl | exact sh_rows _ | exact sh_ev _ | exact sh_dd _ | decide +kernel)))) (fun _ => es_rt ?_) (fun h => absurd h (by first | (simp [encDd, encEv, encO, isNone, PyData.eqv, PyData.eqvAll]; done) | (simp [encDd, encEv, encO, isNone, PyData.eqv, PyData.eqvAll]; decide +kernel)))
    refine es_ifS (b := decide (4 < i)) (et_eqb (ev_orT (ev_test (ev_op (ev_cb (ev_cons (ev_var rfl) ev_nil) (by first | exact rc_lenT | exact rc_lenL)) ev_int (rd_ne (by first | rfl | exact sh_rows _ | exact sh_ev _ | exact sh_dd _ | decide +kernel) (by first | rfl | exact sh_rows _ | exact sh_ev _ | exact sh_dd _ | decide +kernel)))) (fun _ => (ev_orT (ev_notT (ev_tB (ev_call (ev_cons (ev_op (ev_var rfl) ev_int (by first | exact rd_ixT rfl | exact rd_ixL rfl)) ev_nil) I__law_is_count))) (fun _ => (ev_orT (ev_test (ev_op (ev_op (ev_var rfl) ev_int (by first | exact rd_ixT rfl | exact rd_ixL rfl)) ev_int rd_gt)) (fun _ => (ev_notT (ev_tB (ev_isi (ev_op (ev_var rfl) ev_int (by first | exact rd_ixT rfl | exact rd_ixL rfl)) (by first | exact kit_int_tuple | exact kit_tuple_tuple | exact kit_str_tuple | exact kit_bool_tuple | exact kit_list_tuple | exact kit_none_tuple)))))))))) (by simp [PyData.eqv]; omega)) (fun h => es_rt (es_retE ev_bl ?_)) (fun h => es_nxS ?_)
    · have h' : 4 < i := by simpa using h
      simp [form]
      omega
    · have h' : i ≤ 4 := by simpa using h
      refine es_retE (ev_andB (c := true) (ev_eqd (ev_op (ev_lc (ei_tup (ev_op (ev_var rfl) ev_int (rd_ixT rfl))) (lr_filter (c := fun v : Nat => .int (v : Nat)) (f := fun v : Nat => .int (v : Nat)) (p := fun v => decide (4 < v)) (by simp) vs fun v _ => ⟨eg_name, et_eqb (ev_orT (ev_notT (ev_tB (ev_call (ev_cons (ev_var rfl) ev_nil) I__law_is_count))) fun _ => ev_test (ev_op (ev_var rfl) ev_int rd_gt)) (by simp; omega), ev_var rfl⟩) sz) (ev_lst ev_nil (Nat.le_of_ble_eq_true rfl)) (rd_eq (sh_lnats _) sh_lnil)) (congrArg PyData.bool (show PyData.eqv (.list (nats (vs.filter fun v => decide (4 < v)))) (.list []) = vs.all fun v => decide (v ≤ 4) by
        rw [eqv_lnil, nats_emp, filter_emp]
        congr 1
        funext v
        exact not_gt4 v))) fun _ => ?_) ?_
      · refine ev_eqd (ev_op (ev_cb (ev_cons (ev_op (ev_var rfl) ev_int (rd_ixT rfl)) ev_nil) rc_listT) (ev_srtSet (rising_pw p0.2) (by rw [List.length_map]; exact Nat.le_trans p0.1 (by decide)) (ev_eqd (ev_op (ev_var rfl) ev_int (rd_ixT rfl)) (congrArg PyData.tuple (nats_eq vs)))) (rd_eq (sh_lnats _) (by rw [← nats_eq]; exact sh_lnats _))) (congrArg PyData.bool ?_)
        rw [← nats_eq]
        exact natsL_eqv vs
      · simp [form, h', p0.2]
  | append e =>
    refine es_ifS (ev_orT (ev_notT (ev_tB (ev_isi (ev_var rfl) (by first | exact kit_int_tuple | exact kit_tuple_tuple | exact kit_str_tuple | exact kit_bool_tuple | exact kit_list_tuple | exact kit_none_tuple)))) (fun _ => (ev_orT (ev_notT (ev_test (ev_chB ev_int (ev_cb (ev_cons (ev_var rfl) ev_nil) (by first | exact rc_lenT | exact rc_lenL)) rd_le ev_int rd_le))) (fun _ => (ev_notT (ev_tB (ev_isi (ev_op (ev_var rfl) ev_int (by first | exact rd_ixT rfl | exact rd_ixL rfl)) (by first | exact kit_int_str | exact kit_tuple_str | exact kit_str_str | exact kit_bool_str | exact kit_list_str | exact kit_none_str)))))))) (fun h => absurd h (by first | (simp [encDd, encEv, encO, isNone, PyData.eqv, PyData.eqvAll]; done) | (simp [encDd, encEv, encO, isNone, PyData.eqv, PyData.eqvAll]; decide +kernel))) fun _ => es_nxS ?_
    refine es_ifS (ev_test (ev_op (ev_op (ev_var rfl) ev_int (by first | exact rd_ixT rfl | exact rd_ixL rfl)) ev_str (rd_eq (by first | rfl | exact sh_rows _ | exact sh_ev _ | exact sh_dd _ | decide +kernel) (by first | rfl | exact sh_rows _ | exact sh_ev _ | exact sh_dd _ | decide +kernel)))) (fun h => absurd h (by first | (simp [encDd, encEv, encO, isNone, PyData.eqv, PyData.eqvAll]; done) | (simp [encDd, encEv, encO, isNone, PyData.eqv, PyData.eqvAll]; decide +kernel))) fun _ => es_nxS ?_
    refine es_ifS (ev_test (ev_op (ev_cb (ev_cons (ev_var rfl) ev_nil) (by first | exact rc_lenT | exact rc_lenL)) ev_int (rd_ne (by first | rfl | exact sh_rows _ | exact sh_ev _ | exact sh_dd _ | decide +kernel) (by first | rfl | exact sh_rows _ | exact sh_ev _ | exact sh_dd _ | decide +kernel)))) (fun h => absurd h (by first | (simp [encDd, encEv, encO, isNone, PyData.eqv, PyData.eqvAll]; done) | (simp [encDd, encEv, encO, isNone, PyData.eqv, PyData.eqvAll]; decide +kernel))) fun _ => es_nxS ?_
    exact es_ifS (ev_test (ev_op (ev_op (ev_var rfl) ev_int (by first | exact rd_ixT rfl | exact rd_ixL rfl)) ev_str (rd_eq (by first | rfl | exact sh_rows _ | exact sh_ev _ | exact sh_dd _ | decide +kernel) (by first | rfl | exact sh_rows _ | exact sh_ev _ | exact sh_dd _ | decide +kernel)))) (fun _ => es_rt (es_retE (ev_call (ev_cons (ev_op (ev_var rfl) ev_int (by first | exact rd_ixT rfl | exact rd_ixL rfl)) ev_nil) (I__law_is_event p0)) (congrArg PyData.bool (show true = evOk e from p0.symm)))) (fun h => absurd h (by first | (simp [encDd, encEv, encO, isNone, PyData.eqv, PyData.eqvAll]; done) | (simp [encDd, encEv, encO, isNone, PyData.eqv, PyData.eqvAll]; decide +kernel)))
  | copy i =>
    refine es_ifS (ev_orT (ev_notT (ev_tB (ev_isi (ev_var rfl) (by first | exact kit_int_tuple | exact kit_tuple_tuple | exact kit_str_tuple | exact kit_bool_tuple | exact kit_list_tuple | exact kit_none_tuple)))) (fun _ => (ev_orT (ev_notT (ev_test (ev_chB ev_int (ev_cb (ev_cons (ev_var rfl) ev_nil) (by first | exact rc_lenT | exact rc_lenL)) rd_le ev_int rd_le))) (fun _ => (ev_notT (ev_tB (ev_isi (ev_op (ev_var rfl) ev_int (by first | exact rd_ixT rfl | exact rd_ixL rfl)) (by first | exact kit_int_str | exact kit_tuple_str | exact kit_str_str | exact kit_bool_str | exact kit_list_str | exact kit_none_str)))))))) (fun h => absurd h (by first | (simp [encDd, encEv, encO, isNone, PyData.eqv, PyData.eqvAll]; done) | (simp [encDd, encEv, encO, isNone, PyData.eqv, PyData.eqvAll]; decide +kernel))) fun _ => es_nxS ?_
    refine es_ifS (ev_test (ev_op (ev_op (ev_var rfl) ev_int (by first | exact rd_ixT rfl | exact rd_ixL rfl)) ev_str (rd_eq (by first | rfl | exact sh_rows _ | exact sh_ev _ | exact sh_dd _ | decide +kernel) (by first | rfl | exact sh_rows _ | exact sh_ev _ | exact sh_dd _ | decide +kernel)))) (fun h => absurd h (by first | (simp [encDd, encEv, encO, isNone, PyData.eqv, PyData.eqvAll]; done) | (simp [encDd, encEv, encO, isNone, PyData.eqv, PyData.eqvAll]; decide +kernel))) fun _ => es_nxS ?_
    refine es_ifS (ev_test (ev_op (ev_cb (ev_cons (ev_var rfl) ev_nil) (by first | exact rc_lenT | exact rc_lenL)) ev_int (rd_ne (by first | rfl | exact sh_rows _ | exact sh_ev _ | exact sh_dd _ | decide +kernel) (by first | rfl | exact sh_rows _ | exact sh_ev _ | exact sh_dd _ | decide +kernel)))) (fun h => absurd h (by first | (simp [encDd, encEv, encO, isNone, PyData.eqv, PyData.eqvAll]; done) | (simp [encDd, encEv, encO, isNone, PyData.eqv, PyData.eqvAll]; decide +kernel))) fun _ => es_nxS ?_
    refine es_ifS (ev_test (ev_op (ev_op (ev_var rfl) ev_int (by first | exact rd_ixT rfl | exact rd_ixL rfl)) ev_str (rd_eq (by first | rfl | exact sh_rows _ | exact sh_ev _ | exact sh_dd _ | decide +kernel) (by first | rfl | exact sh_rows _ | exact sh_ev _ | exact sh_dd _ | decide +kernel)))) (fun h => absurd h (by first | (simp [encDd, encEv, encO, isNone, PyData.eqv, PyData.eqvAll]; done) | (simp [encDd, encEv, encO, isNone, PyData.eqv, PyData.eqvAll]; decide +kernel))) fun _ => es_nxS ?_
    refine es_ifS (ev_test (ev_op (ev_op (ev_var rfl) ev_int (by first | exact rd_ixT rfl | exact rd_ixL rfl)) ev_str (rd_eq (by first | rfl | exact sh_rows _ | exact sh_ev _ | exact sh_dd _ | decide +kernel) (by first | rfl | exact sh_rows _ | exact sh_ev _ | exact sh_dd _ | decide +kernel)))) (fun h => absurd h (by first | (simp [encDd, encEv, encO, isNone, PyData.eqv, PyData.eqvAll]; done) | (simp [encDd, encEv, encO, isNone, PyData.eqv, PyData.eqvAll]; decide +kernel))) fun _ => es_nxS ?_
    refine es_retE (ev_andB (ev_op (ev_op (ev_var rfl) ev_int (by first | exact rd_ixT rfl | exact rd_ixL rfl)) (ev_tup (ev_cons ev_str (ev_cons ev_str (ev_cons ev_str ev_nil))) (Nat.le_of_ble_eq_true rfl)) (rd_inS (ns := ["copy", "stop", "start"]))) (fun _ => (ev_andB (ev_call (ev_cons (ev_op (ev_var rfl) ev_int (by first | exact rd_ixT rfl | exact rd_ixL rfl)) ev_nil) I__law_is_count) (fun _ => (ev_op (ev_op (ev_var rfl) ev_int (by first | exact rd_ixT rfl | exact rd_ixL rfl)) ev_int rd_le))))) ?_
    simp [form]
    all_goals (first | omega | decide +kernel)
  | commit i =>
    refine es_ifS (ev_orT (ev_notT (ev_tB (ev_isi (ev_var rfl) (by first | exact kit_int_tuple | exact kit_tuple_tuple | exact kit_str_tuple | exact kit_bool_tuple | exact kit_list_tuple | exact kit_none_tuple)))) (fun _ => (ev_orT (ev_notT (ev_test (ev_chB ev_int (ev_cb (ev_cons (ev_var rfl) ev_nil) (by first | exact rc_lenT | exact rc_lenL)) rd_le ev_int rd_le))) (fun _ => (ev_notT (ev_tB (ev_isi (ev_op (ev_var rfl) ev_int (by first | exact rd_ixT rfl | exact rd_ixL rfl)) (by first | exact kit_int_str | exact kit_tuple_str | exact kit_str_str | exact kit_bool_str | exact kit_list_str | exact kit_none_str)))))))) (fun h => absurd h (by first | (simp [encDd, encEv, encO, isNone, PyData.eqv, PyData.eqvAll]; done) | (simp [encDd, encEv, encO, isNone, PyData.eqv, PyData.eqvAll]; decide +kernel))) fun _ => es_nxS ?_
    refine es_ifS (ev_test (ev_op (ev_op (ev_var rfl) ev_int (by first | exact rd_ixT rfl | exact rd_ixL rfl)) ev_str (rd_eq (by first | rfl | exact sh_rows _ | exact sh_ev _ | exact sh_dd _ | decide +kernel) (by first | rfl | exact sh_rows _ | exact sh_ev _ | exact sh_dd _ | decide +kernel)))) (fun h => absurd h (by first | (simp [encDd, encEv, encO, isNone, PyData.eqv, PyData.eqvAll]; done) | (simp [encDd, encEv, encO, isNone, PyData.eqv, PyData.eqvAll]; decide +kernel))) fun _ => es_nxS ?_
    refine es_ifS (ev_test (ev_op (ev_cb (ev_cons (ev_var rfl) ev_nil) (by first | exact rc_lenT | exact rc_lenL)) ev_int (rd_ne (by first | rfl | exact sh_rows _ | exact sh_ev _ | exact sh_dd _ | decide +kernel) (by first | rfl | exact sh_rows _ | exact sh_ev _ | exact sh_dd _ | decide +kernel)))) (fun h => absurd h (by first | (simp [encDd, encEv, encO, isNone, PyData.eqv, PyData.eqvAll]; done) | (simp [encDd, encEv, encO, isNone, PyData.eqv, PyData.eqvAll]; decide +kernel))) fun _ => es_nxS ?_
    refine es_ifS (ev_test (ev_op (ev_op (ev_var rfl) ev_int (by first | exact rd_ixT rfl | exact rd_ixL rfl)) ev_str (rd_eq (by first | rfl | exact sh_rows _ | exact sh_ev _ | exact sh_dd _ | decide +kernel) (by first | rfl | exact sh_rows _ | exact sh_ev _ | exact sh_dd _ | decide +kernel)))) (fun h => absurd h (by first | (simp [encDd, encEv, encO, isNone, PyData.eqv, PyData.eqvAll]; done) | (simp [encDd, encEv, encO, isNone, PyData.eqv, PyData.eqvAll]; decide +kernel))) fun _ => es_nxS ?_
    refine es_ifS (ev_test (ev_op (ev_op (ev_var rfl) ev_int (by first | exact rd_ixT rfl | exact rd_ixL rfl)) ev_str (rd_eq (by first | rfl | exact sh_rows _ | exact sh_ev _ | exact sh_dd _ | decide +kernel) (by first | rfl | exact sh_rows _ | exact sh_ev _ | exact sh_dd _ | decide +kernel)))) (fun _ => es_rt (es_retE (ev_andB (ev_call (ev_cons (ev_op (ev_var rfl) ev_int (by first | exact rd_ixT rfl | exact rd_ixL rfl)) ev_nil) I__law_is_count) (fun _ => (ev_chB ev_int (ev_op (ev_var rfl) ev_int (by first | exact rd_ixT rfl | exact rd_ixL rfl)) rd_le ev_int rd_le))) ?_)) (fun h => absurd h (by first | (simp [encDd, encEv, encO, isNone, PyData.eqv, PyData.eqvAll]; done) | (simp [encDd, encEv, encO, isNone, PyData.eqv, PyData.eqvAll]; decide +kernel)))
    refine congrArg PyData.bool ?_
    show (decide ((0 : Int) ≤ (i : Nat)) && (decide ((1 : Int) ≤ (i : Nat)) && decide (((i : Nat) : Int) ≤ 400))) = (decide (1 ≤ i) && decide (i ≤ 400))
    rw [decide_eq_true (by omega : (0 : Int) ≤ (i : Nat)), Bool.true_and]
    exact congr (congrArg _ (decide_eq_decide.mpr (by omega))) (decide_eq_decide.mpr (by omega))
  | stop i =>
    refine es_ifS (ev_orT (ev_notT (ev_tB (ev_isi (ev_var rfl) (by first | exact kit_int_tuple | exact kit_tuple_tuple | exact kit_str_tuple | exact kit_bool_tuple | exact kit_list_tuple | exact kit_none_tuple)))) (fun _ => (ev_orT (ev_notT (ev_test (ev_chB ev_int (ev_cb (ev_cons (ev_var rfl) ev_nil) (by first | exact rc_lenT | exact rc_lenL)) rd_le ev_int rd_le))) (fun _ => (ev_notT (ev_tB (ev_isi (ev_op (ev_var rfl) ev_int (by first | exact rd_ixT rfl | exact rd_ixL rfl)) (by first | exact kit_int_str | exact kit_tuple_str | exact kit_str_str | exact kit_bool_str | exact kit_list_str | exact kit_none_str)))))))) (fun h => absurd h (by first | (simp [encDd, encEv, encO, isNone, PyData.eqv, PyData.eqvAll]; done) | (simp [encDd, encEv, encO, isNone, PyData.eqv, PyData.eqvAll]; decide +kernel))) fun _ => es_nxS ?_
    refine es_ifS (ev_test (ev_op (ev_op (ev_var rfl) ev_int (by first | exact rd_ixT rfl | exact rd_ixL rfl)) ev_str (rd_eq (by first | rfl | exact sh_rows _ | exact sh_ev _ | exact sh_dd _ | decide +kernel) (by first | rfl | exact sh_rows _ | exact sh_ev _ | exact sh_dd _ | decide +kernel)))) (fun h => absurd h (by first | (simp [encDd, encEv, encO, isNone, PyData.eqv, PyData.eqvAll]; done) | (simp [encDd, encEv, encO, isNone, PyData.eqv, PyData.eqvAll]; decide +kernel))) fun _ => es_nxS ?_
    refine es_ifS (ev_test (ev_op (ev_cb (ev_cons (ev_var rfl) ev_nil) (by first | exact rc_lenT | exact rc_lenL)) ev_int (rd_ne (by first | rfl | exact sh_rows _ | exact sh_ev _ | exact sh_dd _ | decide +kernel) (by first | rfl | exact sh_rows _ | exact sh_ev _ | exact sh_dd _ | decide +kernel)))) (fun h => absurd h (by first | (simp [encDd, encEv, encO, isNone, PyData.eqv, PyData.eqvAll]; done) | (simp [encDd, encEv, encO, isNone, PyData.eqv, PyData.eqvAll]; decide +kernel))) fun _ => es_nxS ?_
    refine es_ifS (ev_test (ev_op (ev_op (ev_var rfl) ev_int (by first | exact rd_ixT rfl | exact rd_ixL rfl)) ev_str (rd_eq (by first | rfl | exact sh_rows _ | exact sh_ev _ | exact sh_dd _ | decide +kernel) (by first | rfl | exact sh_rows _ | exact sh_ev _ | exact sh_dd _ | decide +kernel)))) (fun h => absurd h (by first | (simp [encDd, encEv, encO, isNone, PyData.eqv, PyData.eqvAll]; done) | (simp [encDd, encEv, encO, isNone, PyData.eqv, PyData.eqvAll]; decide +kernel))) fun _ => es_nxS ?_
    refine es_ifS (ev_test (ev_op (ev_op (ev_var rfl) ev_int (by first | exact rd_ixT rfl | exact rd_ixL rfl)) ev_str (rd_eq (by first | rfl | exact sh_rows _ | exact sh_ev _ | exact sh_dd _ | decide +kernel) (by first | rfl | exact sh_rows _ | exact sh_ev _ | exact sh_dd _ | decide +kernel)))) (fun h => absurd h (by first | (simp [encDd, encEv, encO, isNone, PyData.eqv, PyData.eqvAll]; done) | (simp [encDd, encEv, encO, isNone, PyData.eqv, PyData.eqvAll]; decide +kernel))) fun _ => es_nxS ?_
    refine es_retE (ev_andB (ev_op (ev_op (ev_var rfl) ev_int (by first | exact rd_ixT rfl | exact rd_ixL rfl)) (ev_tup (ev_cons ev_str (ev_cons ev_str (ev_cons ev_str ev_nil))) (Nat.le_of_ble_eq_true rfl)) (rd_inS (ns := ["copy", "stop", "start"]))) (fun _ => (ev_andB (ev_call (ev_cons (ev_op (ev_var rfl) ev_int (by first | exact rd_ixT rfl | exact rd_ixL rfl)) ev_nil) I__law_is_count) (fun _ => (ev_op (ev_op (ev_var rfl) ev_int (by first | exact rd_ixT rfl | exact rd_ixL rfl)) ev_int rd_le))))) ?_
    simp [form]
    all_goals (first | omega | decide +kernel)
  | start i =>
    refine es_ifS (ev_orT (ev_notT (ev_tB (ev_isi (ev_var rfl) (by first | exact kit_int_tuple | exact kit_tuple_tuple | exact kit_str_tuple | exact kit_bool_tuple | exact kit_list_tuple | exact kit_none_tuple)))) (fun _ => (ev_orT (ev_notT (ev_test (ev_chB ev_int (ev_cb (ev_cons (ev_var rfl) ev_nil) (by first | exact rc_lenT | exact rc_lenL)) rd_le ev_int rd_le))) (fun _ => (ev_notT (ev_tB (ev_isi (ev_op (ev_var rfl) ev_int (by first | exact rd_ixT rfl | exact rd_ixL rfl)) (by first | exact kit_int_str | exact kit_tuple_str | exact kit_str_str | exact kit_bool_str | exact kit_list_str | exact kit_none_str)))))))) (fun h => absurd h (by first | (simp [encDd, encEv, encO, isNone, PyData.eqv, PyData.eqvAll]; done) | (simp [encDd, encEv, encO, isNone, PyData.eqv, PyData.eqvAll]; decide +kernel))) fun _ => es_nxS ?_
    refine es_ifS (ev_test (ev_op (ev_op (ev_var rfl) ev_int (by first | exact rd_ixT rfl | exact rd_ixL rfl)) ev_str (rd_eq (by first | rfl | exact sh_rows _ | exact sh_ev _ | exact sh_dd _ | decide +kernel) (by first | rfl | exact sh_rows _ | exact sh_ev _ | exact sh_dd _ | decide +kernel)))) (fun h => absurd h (by first | (simp [encDd, encEv, encO, isNone, PyData.eqv, PyData.eqvAll]; done) | (simp [encDd, encEv, encO, isNone, PyData.eqv, PyData.eqvAll]; decide +kernel))) fun _ => es_nxS ?_
    refine es_ifS (ev_test (ev_op (ev_cb (ev_cons (ev_var rfl) ev_nil) (by first | exact rc_lenT | exact rc_lenL)) ev_int (rd_ne (by first | rfl | exact sh_rows _ | exact sh_ev _ | exact sh_dd _ | decide +kernel) (by first | rfl | exact sh_rows _ | exact sh_ev _ | exact sh_dd _ | decide +kernel)))) (fun h => absurd h (by first | (simp [encDd, encEv, encO, isNone, PyData.eqv, PyData.eqvAll]; done) | (simp [encDd, encEv, encO, isNone, PyData.eqv, PyData.eqvAll]; decide +kernel))) fun _ => es_nxS ?_
    refine es_ifS (ev_test (ev_op (ev_op (ev_var rfl) ev_int (by first | exact rd_ixT rfl | exact rd_ixL rfl)) ev_str (rd_eq (by first | rfl | exact sh_rows _ | exact sh_ev _ | exact sh_dd _ | decide +kernel) (by first | rfl | exact sh_rows _ | exact sh_ev _ | exact sh_dd _ | decide +kernel)))) (fun h => absurd h (by first | (simp [encDd, encEv, encO, isNone, PyData.eqv, PyData.eqvAll]; done) | (simp [encDd, encEv, encO, isNone, PyData.eqv, PyData.eqvAll]; decide +kernel))) fun _ => es_nxS ?_
    refine es_ifS (ev_test (ev_op (ev_op (ev_var rfl) ev_int (by first | exact rd_ixT rfl | exact rd_ixL rfl)) ev_str (rd_eq (by first | rfl | exact sh_rows _ | exact sh_ev _ | exact sh_dd _ | decide +kernel) (by first | rfl | exact sh_rows _ | exact sh_ev _ | exact sh_dd _ | decide +kernel)))) (fun h => absurd h (by first | (simp [encDd, encEv, encO, isNone, PyData.eqv, PyData.eqvAll]; done) | (simp [encDd, encEv, encO, isNone, PyData.eqv, PyData.eqvAll]; decide +kernel))) fun _ => es_nxS ?_
    refine es_retE (ev_andB (ev_op (ev_op (ev_var rfl) ev_int (by first | exact rd_ixT rfl | exact rd_ixL rfl)) (ev_tup (ev_cons ev_str (ev_cons ev_str (ev_cons ev_str ev_nil))) (Nat.le_of_ble_eq_true rfl)) (rd_inS (ns := ["copy", "stop", "start"]))) (fun _ => (ev_andB (ev_call (ev_cons (ev_op (ev_var rfl) ev_int (by first | exact rd_ixT rfl | exact rd_ixL rfl)) ev_nil) I__law_is_count) (fun _ => (ev_op (ev_op (ev_var rfl) ev_int (by first | exact rd_ixT rfl | exact rd_ixL rfl)) ev_int rd_le))))) ?_
    simp [form]
    all_goals (first | omega | decide +kernel)
  | go =>
    refine es_ifS (ev_orT (ev_notT (ev_tB (ev_isi (ev_var rfl) (by first | exact kit_int_tuple | exact kit_tuple_tuple | exact kit_str_tuple | exact kit_bool_tuple | exact kit_list_tuple | exact kit_none_tuple)))) (fun _ => (ev_orT (ev_notT (ev_test (ev_chB ev_int (ev_cb (ev_cons (ev_var rfl) ev_nil) (by first | exact rc_lenT | exact rc_lenL)) rd_le ev_int rd_le))) (fun _ => (ev_notT (ev_tB (ev_isi (ev_op (ev_var rfl) ev_int (by first | exact rd_ixT rfl | exact rd_ixL rfl)) (by first | exact kit_int_str | exact kit_tuple_str | exact kit_str_str | exact kit_bool_str | exact kit_list_str | exact kit_none_str)))))))) (fun h => absurd h (by first | (simp [encDd, encEv, encO, isNone, PyData.eqv, PyData.eqvAll]; done) | (simp [encDd, encEv, encO, isNone, PyData.eqv, PyData.eqvAll]; decide +kernel))) fun _ => es_nxS ?_
    refine es_ifS (ev_test (ev_op (ev_op (ev_var rfl) ev_int (by first | exact rd_ixT rfl | exact rd_ixL rfl)) ev_str (rd_eq (by first | rfl | exact sh_rows _ | exact sh_ev _ | exact sh_dd _ | decide +kernel) (by first | rfl | exact sh_rows _ | exact sh_ev _ | exact sh_dd _ | decide +kernel)))) (fun h => absurd h (by first | (simp [encDd, encEv, encO, isNone, PyData.eqv, PyData.eqvAll]; done) | (simp [encDd, encEv, encO, isNone, PyData.eqv, PyData.eqvAll]; decide +kernel))) fun _ => es_nxS ?_
    refine es_ifS (ev_test (ev_op (ev_cb (ev_cons (ev_var rfl) ev_nil) (by first | exact rc_lenT | exact rc_lenL)) ev_int (rd_ne (by first | rfl | exact sh_rows _ | exact sh_ev _ | exact sh_dd _ | decide +kernel) (by first | rfl | exact sh_rows _ | exact sh_ev _ | exact sh_dd _ | decide +kernel)))) (fun h => absurd h (by first | (simp [encDd, encEv, encO, isNone, PyData.eqv, PyData.eqvAll]; done) | (simp [encDd, encEv, encO, isNone, PyData.eqv, PyData.eqvAll]; decide +kernel))) fun _ => es_nxS ?_
    refine es_ifS (ev_test (ev_op (ev_op (ev_var rfl) ev_int (by first | exact rd_ixT rfl | exact rd_ixL rfl)) ev_str (rd_eq (by first | rfl | exact sh_rows _ | exact sh_ev _ | exact sh_dd _ | decide +kernel) (by first | rfl | exact sh_rows _ | exact sh_ev _ | exact sh_dd _ | decide +kernel)))) (fun h => absurd h (by first | (simp [encDd, encEv, encO, isNone, PyData.eqv, PyData.eqvAll]; done) | (simp [encDd, encEv, encO, isNone, PyData.eqv, PyData.eqvAll]; decide +kernel))) fun _ => es_nxS ?_
    refine es_ifS (ev_test (ev_op (ev_op (ev_var rfl) ev_int (by first | exact rd_ixT rfl | exact rd_ixL rfl)) ev_str (rd_eq (by first | rfl | exact sh_rows _ | exact sh_ev _ | exact sh_dd _ | decide +kernel) (by first | rfl | exact sh_rows _ | exact sh_ev _ | exact sh_dd _ | decide +kernel)))) (fun h => absurd h (by first | (simp [encDd, encEv, encO, isNone, PyData.eqv, PyData.eqvAll]; done) | (simp [encDd, encEv, encO, isNone, PyData.eqv, PyData.eqvAll]; decide +kernel))) fun _ => es_nxS ?_
    refine es_retE (ev_andB (ev_op (ev_op (ev_var rfl) ev_int (by first | exact rd_ixT rfl | exact rd_ixL rfl)) (ev_tup (ev_cons ev_str (ev_cons ev_str (ev_cons ev_str ev_nil))) (Nat.le_of_ble_eq_true rfl)) (rd_inS (ns := ["copy", "stop", "start"]))) (fun _ => (ev_andB (ev_call (ev_cons (ev_op (ev_var rfl) ev_int (by first | exact rd_ixT rfl | exact rd_ixL rfl)) ev_nil) I__law_is_count) (fun _ => (ev_op (ev_op (ev_var rfl) ev_int (by first | exact rd_ixT rfl | exact rd_ixL rfl)) ev_int rd_le))))) ?_
    simp [form]
    all_goals (first | omega | decide +kernel)
  | non => exact es_ifS (ev_orT (c := false) (ev_notT (ev_tB (ev_isi (ev_var rfl) (by first | exact kit_int_tuple | exact kit_tuple_tuple | exact kit_str_tuple | exact kit_bool_tuple | exact kit_list_tuple | exact kit_none_tuple)))) (fun h => absurd h (by decide))) (fun _ => es_rt (es_ret ev_bl)) (fun h => absurd h (by first | (simp [encDd, encEv, encO, isNone, PyData.eqv, PyData.eqvAll]; done) | (simp [encDd, encEv, encO, isNone, PyData.eqv, PyData.eqvAll]; decide +kernel)))
  | app0 => exact es_ifS (ev_orT (ev_notT (ev_tB (ev_isi (ev_var rfl) (by first | exact kit_int_tuple | exact kit_tuple_tuple | exact kit_str_tuple | exact kit_bool_tuple | exact kit_list_tuple | exact kit_none_tuple)))) (fun _ => (ev_orT (c := false) (ev_notT (ev_test (ev_chB ev_int (ev_cb (ev_cons (ev_var rfl) ev_nil) (by first | exact rc_lenT | exact rc_lenL)) rd_le ev_int rd_le))) (fun h => absurd h (by decide))))) (fun _ => es_rt (es_ret ev_bl)) (fun h => absurd h (by first | (simp [encDd, encEv, encO, isNone, PyData.eqv, PyData.eqvAll]; done) | (simp [encDd, encEv, encO, isNone, PyData.eqv, PyData.eqvAll]; decide +kernel)))
  | lst => exact es_ifS (ev_orT (c := false) (ev_notT (ev_tB (ev_isi (ev_var rfl) (by first | exact kit_int_tuple | exact kit_tuple_tuple | exact kit_str_tuple | exact kit_bool_tuple | exact kit_list_tuple | exact kit_none_tuple)))) (fun h => absurd h (by decide))) (fun _ => es_rt (es_ret ev_bl)) (fun h => absurd h (by first | (simp [encDd, encEv, encO, isNone, PyData.eqv, PyData.eqvAll]; done) | (simp [encDd, encEv, encO, isNone, PyData.eqv, PyData.eqvAll]; decide +kernel)))

abbrev s__law_can : Stmt := top 45
abbrev N__law_can : List Str := ["state", "deed", "copies", "leads", "done", "word", "number", "voters", "rows", "one"]
theorem sc__law_can : FnScope N__law_can ["state", "deed"] (defScope s__law_can) := ⟨rfl, rfl, rfl, by decide +kernel, rfl, by decide +kernel, by decide +kernel⟩


def F__law_can : List PyData → PyData → Prop := fun ds z => ∃ (s : K27.St) (d : Dd), (Gd s) ∧ (fit2 d) ∧ (form d = true) ∧ ds = [encStL s, encDd d] ∧ z = .bool (can s d)
theorem I__law_can {s : K27.St} {d : Dd} (p0 : Gd s) (p1 : fit2 d) (p2 : form d = true) : F__law_can [encStL s, encDd d] (.bool (can s d)) := ⟨s, d, p0, p1, p2, rfl, rfl⟩
theorem R__law_can {P : Program} {w : World} {K : PySem.W.Frag} {mg : Str → Option Value} {base : Heap} (T : Tx mg) (kn : Kn K mg "_law_can" s__law_can ["state", "deed"]) (R__law_last : Rdy P w K mg base 1 "_law_last" ["rows"] (spP K F__law_last)) : Rdy P w K mg base 2 "_law_can" ["state", "deed"] (spP K F__law_can) := by
  refine rdy_of kn sc__law_can (fun ds z h => ?_) (by decide) (fun f cdv A outer s H E hr ds z h => ?_)
  · obtain ⟨s, d, p0, p1, p2, rfl, rfl⟩ := h
    rfl
  obtain ⟨s, d, p0, p1, p2, rfl, rfl⟩ := h
  refine ⟨_, (pss_cons (ps_asg (pv 0) (pg_unl (by rfl) (pgs_cons (pg_name (i := 2) sc__law_can.nd rfl (by first | exact Or.inl rfl | exact Or.inr rfl)) (pgs_cons (pg_name (i := 3) sc__law_can.nd rfl (by first | exact Or.inl rfl | exact Or.inr rfl)) (pgs_cons (pg_name (i := 4) sc__law_can.nd rfl (by first | exact Or.inl rfl | exact Or.inr rfl)) pgs_nil))))) (pss_cons (ps_asg (pe_tup (pa_cons (pe_ix ix_tup (pv 1) pe_int (fun _ _ => rfl)) (pa_cons (pe_ix ix_tup (pv 1) pe_int (fun _ _ => rfl)) pa_nil))) (pg_tup (by rfl) (pgs_cons (pg_name (i := 5) sc__law_can.nd rfl (by first | exact Or.inl rfl | exact Or.inr rfl)) (pgs_cons (pg_name (i := 6) sc__law_can.nd rfl (by first | exact Or.inl rfl | exact Or.inr rfl)) pgs_nil)))) (pss_cons (ps_if (pt_cmpR (op_eqD hr.units) (pv 5) pe_str (by first | rfl | exact nomark _)) (pss_cons (ps_set (i := 7) sc__law_can.nd rfl (by first | exact Or.inl rfl | exact Or.inr rfl) (pe_ix ix_tup (pv 1) pe_int (fun _ _ => rfl))) (pss_cons (ps_if (PW.pt (pw_or (pt_cmpR op_le (pe_op op_mul pe_int (pe_callB call_len_seq (by rfl) T.b_len bt_len (pa_cons (pv 7) pa_nil))) (pe_callB call_len_seq (by rfl) T.b_len bt_len (pa_cons (pv 2) pa_nil)) (by first | rfl | exact nomark _)) (pw_or (pt_cmpR (op_neD hr.units) (pe_lc (own := [("one", 9)]) (g := (gName 9)) (tt := (tTest (tOp _ (tVar 9) (tCB (rLenS K) (tCons (tVar 2) tNil))))) (te := (tVar 9)) rfl sc__law_can.nd (pi_tup (pv 7)) (blkOk_by (N := N__law_can) (sc := defScope s__law_can) (by decide +kernel)) (fun _ _ _ _ _ => by exact (pg_name (i := 9) sc__law_can.nd rfl (by first | exact Or.inl rfl | exact Or.inr rfl))) (fun _ _ _ _ _ => by exact (pts_one (pt_cmpR op_ge (pv 9) (pe_callB call_len_seq (by rfl) T.b_len bt_len (pa_cons (pv 2) pa_nil)) (by first | rfl | exact nomark _)))) (fun _ _ _ _ _ => by exact (pv 9))) (pe_lst pa_nil) (by first | rfl | exact nomark _)) (pw_or1 (pt_cmpR op_notIn_seq (pv 6) (pv 7) (by first | rfl | exact nomark _)))))) (pss_one (ps_ret pe_bl)) pss_nil) (pss_one (ps_ret (pe_cmpR (op_eqD hr.units) (pe_lc (own := [("one", 9)]) (g := (gName 9)) (tt := (tOr (tNot (tB (tOp (rIxL K) (tOp (rIxL K) (tVar 2) (tVar 9)) (tC (.int 0))))) (tTest (tOp (rGtP K) (tCall (spP K F__law_last) [] E0 (tCons (tOp (rIxL K) (tOp (rIxL K) (tVar 2) (tVar 9)) (tC (.int 2))) tNil)) (tCall (spP K F__law_last) [] E0 (tCons (tOp (rIxL K) (tOp (rIxL K) (tVar 2) (tVar 6)) (tC (.int 2))) tNil)))))) (te := (tVar 9)) rfl sc__law_can.nd (pi_tup (pv 7)) (blkOk_by (N := N__law_can) (sc := defScope s__law_can) (by decide +kernel)) (fun _ _ _ _ _ => by exact (pg_name (i := 9) sc__law_can.nd rfl (by first | exact Or.inl rfl | exact Or.inr rfl))) (fun _ _ _ _ _ => by exact (pts_one (PW.pt (pw_or (pt_not (pt_val (pe_ix ix_list (pe_ix ix_list (pv 2) (pv 9) (fun _ _ => rfl)) pe_int (fun _ _ => rfl)))) (pw_or1 (pt_cmpR (op_gtP (Nat.lt_of_le_of_lt (Nat.le_add_right _ 64) hr.units)) (pe_fn R__law_last (hr.mono (by decide)) (by rfl) (pa_cons (pe_ix ix_list (pe_ix ix_list (pv 2) (pv 9) (fun _ _ => rfl)) pe_int (fun _ _ => rfl)) pa_nil)) (pe_fn R__law_last (hr.mono (by decide)) (by rfl) (pa_cons (pe_ix ix_list (pe_ix ix_list (pv 2) (pv 6) (fun _ _ => rfl)) pe_int (fun _ _ => rfl)) pa_nil)) (by first | rfl | exact nomark _))))))) (fun _ _ _ _ _ => by exact (pv 9))) (pe_lst pa_nil) (by first | rfl | exact nomark _)))))) pss_nil) (pss_cons (ps_if (pt_cmpR op_in_seq (pv 5) (pe_tup (pa_cons pe_str (pa_cons pe_str pa_nil))) (by first | rfl | exact nomark _)) (pss_one (ps_ret (pe_and (pe_cmpR op_lt (pv 6) (pe_callB call_len_seq (by rfl) T.b_len bt_len (pa_cons (pv 2) pa_nil)) (by first | rfl | exact nomark _)) (pe_one (pe_cmpR (op_eqD hr.units) (pe_ix ix_list (pe_ix ix_list (pv 2) (pv 6) (fun _ _ => rfl)) pe_int (fun _ _ => rfl)) (pe_cmpR (op_eqD hr.units) (pv 5) pe_str (by first | rfl | exact nomark _)) (by first | rfl | exact nomark _)))))) pss_nil) (pss_cons (ps_if (pt_cmp (pc_isN (pv 3)) rfl) (pss_one (ps_ret pe_bl)) pss_nil) (pss_cons (ps_if (pt_cmpR (op_eqD hr.units) (pv 5) pe_str (by first | rfl | exact nomark _)) (pss_one (ps_ret pe_bl)) pss_nil) (pss_cons (ps_if (pt_cmpR (op_eqD hr.units) (pv 5) pe_str (by first | rfl | exact nomark _)) (pss_one (ps_ret (pe_and (pe_cmpR op_lt (pv 6) (pe_callB call_len_seq (by rfl) T.b_len bt_len (pa_cons (pv 2) pa_nil)) (by first | rfl | exact nomark _)) (pe_and (pe_cmpR (op_neD hr.units) (pv 6) (pv 3) (by first | rfl | exact nomark _)) (pe_one (pe_ix ix_list (pe_ix ix_list (pv 2) (pv 6) (fun _ _ => rfl)) pe_int (fun _ _ => rfl))))))) pss_nil) (pss_cons (ps_set (i := 8) sc__law_can.nd rfl (by first | exact Or.inl rfl | exact Or.inr rfl) (pe_ix ix_list (pe_ix ix_list (pv 2) (pv 3) (fun _ _ => rfl)) pe_int (fun _ _ => rfl))) (pss_cons (ps_if (PW.pt (pw_or (pt_cmpR op_gt (pv 6) (pe_callB call_len_seq (by rfl) T.b_len bt_len (pa_cons (pv 8) pa_nil)) (by first | rfl | exact nomark _)) (pw_or (pt_cmpR op_le (pv 6) (pv 4) (by first | rfl | exact nomark _)) (pw_or1 (pt_cmpR (op_neD hr.units) (pe_ix ix_tup (pe_ix ix_tup (pv 8) (pe_op op_sub (pv 6) pe_int) (fun _ _ => rfl)) pe_int (fun _ _ => rfl)) (pe_ix ix_list (pe_ix ix_list (pv 2) (pv 3) (fun _ _ => rfl)) pe_int (fun _ _ => rfl)) (by first | rfl | exact nomark _)))))) (pss_one (ps_ret pe_bl)) pss_nil) (pss_one (ps_ret (pe_cmpR op_gt (pe_op op_mul pe_int (pe_callB call_len_seq (by rfl) T.b_len bt_len (pa_cons (pe_lc (own := [("one", 9)]) (g := (gName 9)) (tt := (tTest (tOp (rEqD K) (tSl (rSlA K) (tOp (rIxL K) (tVar 9) (tC (.int 2))) tNoPart (tPart (tVar 6))) (tSl (rSlA K) (tVar 8) tNoPart (tPart (tVar 6)))))) (te := (tVar 9)) rfl sc__law_can.nd (pi_list (pv 2)) (blkOk_by (N := N__law_can) (sc := defScope s__law_can) (by decide +kernel)) (fun _ _ _ _ _ => by exact (pg_name (i := 9) sc__law_can.nd rfl (by first | exact Or.inl rfl | exact Or.inr rfl))) (fun _ _ _ _ _ => by exact (pts_one (pt_cmpR (op_eqD hr.units) (pe_slice sl_tupA (pe_ix ix_list (pv 9) pe_int (fun _ _ => rfl)) po_none (po_some (pv 6))) (pe_slice sl_tupA (pv 8) po_none (po_some (pv 6))) (by first | rfl | exact nomark _)))) (fun _ _ _ _ _ => by exact (pv 9))) pa_nil))) (pe_callB call_len_seq (by rfl) T.b_len bt_len (pa_cons (pv 2) pa_nil)) (by first | rfl | exact nomark _))))))))))))), ?_⟩
  have szc : (s.cs.map encCpL).length ≤ sizeLine := Nat.le_trans (m := 5) (by rw [List.length_map]; exact p0.len) (by decide)
  refine es_seq (es_asg (ev_var rfl) (by first | exact eg_tup (eg_cons eg_name (eg_cons eg_name (eg_cons eg_name eg_nil))) rfl | exact eg_lst (eg_cons eg_name (eg_cons eg_name (eg_cons eg_name eg_nil))) rfl)) ?_
  cases d with
  | elect i vs =>
    have sz : (nats vs).length ≤ sizeLine := Nat.le_trans (m := 10) (by rw [nats, List.length_map]; exact p1.1) (by decide)
    refine es_seq (es_asg (ev_tup (ev_cons (ev_op (ev_var rfl) ev_int (rd_ixT rfl)) (ev_cons (ev_op (ev_var rfl) ev_int (rd_ixT rfl)) ev_nil)) (Nat.le_of_ble_eq_true rfl)) (eg_tup (eg_cons eg_name (eg_cons eg_name eg_nil)) rfl)) ?_
    refine es_ifS (ev_test (ev_op (ev_var rfl) ev_str (rd_eq (by first | rfl | exact sh_rows _ | exact sh_ev _ | exact sh_dd _ | decide +kernel) (by first | rfl | exact sh_rows _ | exact sh_ev _ | exact sh_dd _ | decide +kernel)))) (fun _ => ?_) (fun h => absurd h (by first | (simp [encDd, encEv, encO, isNone, PyData.eqv, PyData.eqvAll]; done) | (simp [encDd, encEv, encO, isNone, PyData.eqv, PyData.eqvAll]; decide +kernel)))
    refine es_rt (es_seq (es_set (ev_op (ev_var rfl) ev_int (rd_ixT rfl))) ?_)
    refine es_ifS (b := !(decide (2 * vs.length > s.cs.length) && vs.all (fun v => decide (v < s.cs.length)) && vs.contains i)) (et_eqb (ev_orT (ev_test (ev_op (ev_op ev_int (ev_cb (ev_cons (ev_var rfl) ev_nil) rc_lenT) (rd_mul (cmul_l (by decide) (by decide)))) (ev_cb (ev_cons (ev_var rfl) ev_nil) rc_lenL) rd_le)) fun _ => ev_orT (ev_test (ev_op (ev_lc (ei_tup (ev_var rfl)) (lr_filter (c := fun v : Nat => .int (v : Nat)) (f := fun v : Nat => .int (v : Nat)) (p := fun v => decide (((s.cs.map encCpL).length : Int) ≤ (v : Nat))) (by simp) vs fun v _ => ⟨eg_name, ev_test (ev_op (ev_var rfl) (ev_cb (ev_cons (ev_var rfl) ev_nil) rc_lenL) rd_ge), ev_var rfl⟩) sz) (ev_lst ev_nil (Nat.le_of_ble_eq_true rfl)) (rd_ne (sh_lnats _) sh_lnil))) fun _ => ev_test (ev_op (ev_var rfl) (ev_eqd (ev_var rfl) (congrArg PyData.tuple (nats_eq vs))) rd_inI)) ?_) (fun h => es_rt (es_retE ev_bl ?_)) (fun h => es_nxS ?_)
    · show (decide (2 * (((nats vs).length : Nat) : Int) ≤ _) || ((!PyData.eqv (.list (nats (vs.filter _))) (.list [])) || !(vs.map fun v => ((v : Nat) : Int)).contains ((i : Nat) : Int))) = _
      rw [nats_has, show (nats vs).length = vs.length from List.length_map _, eqv_lnil, nats_emp, filter_emp, List.length_map, Bool.not_and, Bool.not_and, Bool.or_assoc]
      congr 1
      · by_cases h : 2 * vs.length > s.cs.length
        · rw [decide_eq_true h, decide_eq_false (by omega)]; rfl
        · rw [decide_eq_false h, decide_eq_true (by omega)]; rfl
      · congr 2
        congr 1
        funext v
        by_cases h : v < s.cs.length
        · rw [decide_eq_true h, decide_eq_false (by omega)]; rfl
        · rw [decide_eq_false h, decide_eq_true (by omega)]; rfl
    · have hc : can s (.elect i vs) = false := by
        simp only [can]
        rw [nt h, Bool.false_and]
      rw [hc]
    · have h1 := nf h
      have h2 : (∀ v ∈ vs, v < s.cs.length) ∧ i ∈ vs := by
        simp only [Bool.and_eq_true, List.all_eq_true, decide_eq_true_iff, List.contains_iff_mem] at h1
        exact ⟨h1.1.2, h1.2⟩
      have hi := h2.1 i h2.2
      have hc : can s (.elect i vs) = vs.all fun v => (cp s v).up && !newer (cp s v).rows (cp s i).rows := by
        simp only [can]
        rw [h1, Bool.true_and]
      rw [hc]
      refine es_retE (ev_op (ev_lc (ei_tup (ev_var rfl)) (lr_filter (c := fun v : Nat => .int (v : Nat)) (f := fun v : Nat => .int (v : Nat)) (p := fun v => !(cp s v).up || newer (cp s v).rows (cp s i).rows) (by simp) vs fun v hv => ⟨eg_name, et_eqb (ev_orT (ev_notT (ev_tB (ev_op (ev_op (ev_var rfl) (ev_var rfl) (rd_ixL (at_cpL (h2.1 v hv)))) ev_int (rd_ixL rfl)))) fun _ => ev_test (ev_op (ev_call (ev_cons (ev_op (ev_op (ev_var rfl) (ev_var rfl) (rd_ixL (at_cpL (h2.1 v hv)))) ev_int (rd_ixL rfl)) ev_nil) I__law_last) (ev_call (ev_cons (ev_op (ev_op (ev_var rfl) (ev_var rfl) (rd_ixL (at_cpL hi))) ev_int (rd_ixL rfl)) ev_nil) I__law_last) rd_gtP)) (by rw [gtP_newer]), ev_var rfl⟩) sz) (ev_lst ev_nil (Nat.le_of_ble_eq_true rfl)) (rd_eq (sh_lnats _) sh_lnil)) (congrArg PyData.bool ?_)
      show PyData.eqv (.list (nats (vs.filter _))) (.list []) = _
      rw [eqv_lnil, nats_emp, filter_emp]
      congr 1
      funext v
      simp
  | append e =>
    refine es_seq (es_asg (ev_tup (ev_cons (ev_op (ev_var rfl) ev_int (rd_ixT rfl)) (ev_cons (ev_op (ev_var rfl) ev_int (rd_ixT rfl)) ev_nil)) (Nat.le_of_ble_eq_true rfl)) (eg_tup (eg_cons eg_name (eg_cons eg_name eg_nil)) rfl)) ?_
    refine es_ifS (ev_test (ev_op (ev_var rfl) ev_str (rd_eq (by first | rfl | exact sh_rows _ | exact sh_ev _ | exact sh_dd _ | decide +kernel) (by first | rfl | exact sh_rows _ | exact sh_ev _ | exact sh_dd _ | decide +kernel)))) (fun h => absurd h (by first | (simp [encDd, encEv, encO, isNone, PyData.eqv, PyData.eqvAll]; done) | (simp [encDd, encEv, encO, isNone, PyData.eqv, PyData.eqvAll]; decide +kernel))) fun _ => es_nxS ?_
    refine es_ifS (ev_test (ev_op (ev_var rfl) (ev_tup (ev_cons ev_str (ev_cons ev_str ev_nil)) (Nat.le_of_ble_eq_true rfl)) (rd_inS (ns := ["stop", "start"])))) (fun h => absurd h (by first | (simp [encDd, encEv, encO, isNone, PyData.eqv, PyData.eqvAll]; done) | (simp [encDd, encEv, encO, isNone, PyData.eqv, PyData.eqvAll]; decide +kernel))) fun _ => es_nxS ?_
    cases hl : s.lead with
    | none =>
      refine es_ifS (ev_tB (ev_isN (ev_var rfl))) (fun _ => es_rt (es_retE ev_bl ?_)) (fun h => absurd h (by first | (simp [encDd, encEv, encO, isNone, PyData.eqv, PyData.eqvAll]; done) | (simp [encDd, encEv, encO, isNone, PyData.eqv, PyData.eqvAll]; decide +kernel)))
      simp [can, hl]
    | some l =>
      refine es_ifS (ev_tB (ev_isN (ev_var rfl))) (fun h => absurd h (by first | (simp [encDd, encEv, encO, isNone, PyData.eqv, PyData.eqvAll]; done) | (simp [encDd, encEv, encO, isNone, PyData.eqv, PyData.eqvAll]; decide +kernel))) fun _ => es_nxS ?_
      refine es_ifS (ev_test (ev_op (ev_var rfl) ev_str (rd_eq (by first | rfl | exact sh_rows _ | exact sh_ev _ | exact sh_dd _ | decide +kernel) (by first | rfl | exact sh_rows _ | exact sh_ev _ | exact sh_dd _ | decide +kernel)))) (fun _ => es_rt (es_retE ev_bl ?_)) (fun h => absurd h (by first | (simp [encDd, encEv, encO, isNone, PyData.eqv, PyData.eqvAll]; done) | (simp [encDd, encEv, encO, isNone, PyData.eqv, PyData.eqvAll]; decide +kernel)))
      simp [can, hl]
  | copy i =>
    refine es_seq (es_asg (ev_tup (ev_cons (ev_op (ev_var rfl) ev_int (rd_ixT rfl)) (ev_cons (ev_op (ev_var rfl) ev_int (rd_ixT rfl)) ev_nil)) (Nat.le_of_ble_eq_true rfl)) (eg_tup (eg_cons eg_name (eg_cons eg_name eg_nil)) rfl)) ?_
    refine es_ifS (ev_test (ev_op (ev_var rfl) ev_str (rd_eq (by first | rfl | exact sh_rows _ | exact sh_ev _ | exact sh_dd _ | decide +kernel) (by first | rfl | exact sh_rows _ | exact sh_ev _ | exact sh_dd _ | decide +kernel)))) (fun h => absurd h (by first | (simp [encDd, encEv, encO, isNone, PyData.eqv, PyData.eqvAll]; done) | (simp [encDd, encEv, encO, isNone, PyData.eqv, PyData.eqvAll]; decide +kernel))) fun _ => es_nxS ?_
    refine es_ifS (ev_test (ev_op (ev_var rfl) (ev_tup (ev_cons ev_str (ev_cons ev_str ev_nil)) (Nat.le_of_ble_eq_true rfl)) (rd_inS (ns := ["stop", "start"])))) (fun h => absurd h (by first | (simp [encDd, encEv, encO, isNone, PyData.eqv, PyData.eqvAll]; done) | (simp [encDd, encEv, encO, isNone, PyData.eqv, PyData.eqvAll]; decide +kernel))) fun _ => es_nxS ?_
    cases hl : s.lead with
    | none =>
      refine es_ifS (ev_tB (ev_isN (ev_var rfl))) (fun _ => es_rt (es_retE ev_bl ?_)) (fun h => absurd h (by first | (simp [encDd, encEv, encO, isNone, PyData.eqv, PyData.eqvAll]; done) | (simp [encDd, encEv, encO, isNone, PyData.eqv, PyData.eqvAll]; decide +kernel)))
      simp [can, hl]
    | some l =>
      refine es_ifS (ev_tB (ev_isN (ev_var rfl))) (fun h => absurd h (by first | (simp [encDd, encEv, encO, isNone, PyData.eqv, PyData.eqvAll]; done) | (simp [encDd, encEv, encO, isNone, PyData.eqv, PyData.eqvAll]; decide +kernel))) fun _ => es_nxS ?_
      refine es_ifS (ev_test (ev_op (ev_var rfl) ev_str (rd_eq (by first | rfl | exact sh_rows _ | exact sh_ev _ | exact sh_dd _ | decide +kernel) (by first | rfl | exact sh_rows _ | exact sh_ev _ | exact sh_dd _ | decide +kernel)))) (fun h => absurd h (by first | (simp [encDd, encEv, encO, isNone, PyData.eqv, PyData.eqvAll]; done) | (simp [encDd, encEv, encO, isNone, PyData.eqv, PyData.eqvAll]; decide +kernel))) fun _ => es_nxS ?_
      refine es_ifS (ev_test (ev_op (ev_var rfl) ev_str (rd_eq (by first | rfl | exact sh_rows _ | exact sh_ev _ | exact sh_dd _ | decide +kernel) (by first | rfl | exact sh_rows _ | exact sh_ev _ | exact sh_dd _ | decide +kernel)))) (fun _ => es_rt (es_retE (ev_andB (ev_op (ev_var rfl) (ev_cb (ev_cons (ev_var rfl) ev_nil) rc_lenL) rd_lt) fun h => ev_andB (ev_op (ev_var rfl) (ev_var rfl) (rd_ne rfl rfl)) fun _ => ev_op (ev_op (ev_var rfl) (ev_var rfl) (rd_ixL (at_cpL ?_))) ev_int (rd_ixL rfl)) (congrArg PyData.bool ?_))) (fun h => absurd h (by first | (simp [encDd, encEv, encO, isNone, PyData.eqv, PyData.eqvAll]; done) | (simp [encDd, encEv, encO, isNone, PyData.eqv, PyData.eqvAll]; decide +kernel)))
      · simpa using h
      · simp only [can, hl, List.length_map, Bool.and_assoc]
        show (decide (((i : Nat) : Int) < (s.cs.length : Nat)) && ((!PyData.eqv (.int (i : Nat)) (.int (l : Nat))) && _)) = _
        rw [eqv_int]
        refine congr (congrArg _ (decide_eq_decide.mpr (by omega))) (congr (congrArg _ ?_) rfl)
        by_cases h : i = l
        · rw [decide_eq_true (by omega), decide_eq_false (by simp [h])]; rfl
        · rw [decide_eq_false (by omega), decide_eq_true (by simp [h])]; rfl
  | commit n =>
    refine es_seq (es_asg (ev_tup (ev_cons (ev_op (ev_var rfl) ev_int (rd_ixT rfl)) (ev_cons (ev_op (ev_var rfl) ev_int (rd_ixT rfl)) ev_nil)) (Nat.le_of_ble_eq_true rfl)) (eg_tup (eg_cons eg_name (eg_cons eg_name eg_nil)) rfl)) ?_
    refine es_ifS (ev_test (ev_op (ev_var rfl) ev_str (rd_eq (by first | rfl | exact sh_rows _ | exact sh_ev _ | exact sh_dd _ | decide +kernel) (by first | rfl | exact sh_rows _ | exact sh_ev _ | exact sh_dd _ | decide +kernel)))) (fun h => absurd h (by first | (simp [encDd, encEv, encO, isNone, PyData.eqv, PyData.eqvAll]; done) | (simp [encDd, encEv, encO, isNone, PyData.eqv, PyData.eqvAll]; decide +kernel))) fun _ => es_nxS ?_
    refine es_ifS (ev_test (ev_op (ev_var rfl) (ev_tup (ev_cons ev_str (ev_cons ev_str ev_nil)) (Nat.le_of_ble_eq_true rfl)) (rd_inS (ns := ["stop", "start"])))) (fun h => absurd h (by first | (simp [encDd, encEv, encO, isNone, PyData.eqv, PyData.eqvAll]; done) | (simp [encDd, encEv, encO, isNone, PyData.eqv, PyData.eqvAll]; decide +kernel))) fun _ => es_nxS ?_
    cases hl : s.lead with
    | none =>
      refine es_ifS (ev_tB (ev_isN (ev_var rfl))) (fun _ => es_rt (es_retE ev_bl ?_)) (fun h => absurd h (by first | (simp [encDd, encEv, encO, isNone, PyData.eqv, PyData.eqvAll]; done) | (simp [encDd, encEv, encO, isNone, PyData.eqv, PyData.eqvAll]; decide +kernel)))
      simp [can, hl]
    | some l =>
      have ll := p0.lead hl
      have hn : 1 ≤ n := by
        simp [form] at p2
        exact p2.1
      refine es_ifS (ev_tB (ev_isN (ev_var rfl))) (fun h => absurd h (by first | (simp [encDd, encEv, encO, isNone, PyData.eqv, PyData.eqvAll]; done) | (simp [encDd, encEv, encO, isNone, PyData.eqv, PyData.eqvAll]; decide +kernel))) fun _ => es_nxS ?_
      refine es_ifS (ev_test (ev_op (ev_var rfl) ev_str (rd_eq (by first | rfl | exact sh_rows _ | exact sh_ev _ | exact sh_dd _ | decide +kernel) (by first | rfl | exact sh_rows _ | exact sh_ev _ | exact sh_dd _ | decide +kernel)))) (fun h => absurd h (by first | (simp [encDd, encEv, encO, isNone, PyData.eqv, PyData.eqvAll]; done) | (simp [encDd, encEv, encO, isNone, PyData.eqv, PyData.eqvAll]; decide +kernel))) fun _ => es_nxS ?_
      refine es_ifS (ev_test (ev_op (ev_var rfl) ev_str (rd_eq (by first | rfl | exact sh_rows _ | exact sh_ev _ | exact sh_dd _ | decide +kernel) (by first | rfl | exact sh_rows _ | exact sh_ev _ | exact sh_dd _ | decide +kernel)))) (fun h => absurd h (by first | (simp [encDd, encEv, encO, isNone, PyData.eqv, PyData.eqvAll]; done) | (simp [encDd, encEv, encO, isNone, PyData.eqv, PyData.eqvAll]; decide +kernel))) fun _ => es_nxS ?_
      refine es_seq (es_set (ev_op (ev_op (ev_var rfl) (ev_var rfl) (rd_ixL (at_cpL ll))) ev_int (rd_ixL rfl))) ?_
      refine es_ifS (b := !(decide (s.done < n) && decide (n ≤ (cp s l).rows.length) && decide (((cp s l).rows.getD (n - 1) default).term = (cp s l).term))) (et_eqb (ev_orT (ev_test (ev_op (ev_var rfl) (ev_cb (ev_cons (ev_var rfl) ev_nil) rc_lenT) rd_gt)) fun h1 => ev_orT (ev_test (ev_op (ev_var rfl) (ev_var rfl) rd_le)) fun h2 => ev_test (ev_op (ev_op (ev_op (ev_var rfl) (ev_op (ev_var rfl) ev_int rd_sub) (rd_ixT (d := encRow ((cp s l).rows.getD (n - 1) default)) ?_)) ev_int (rd_ixT rfl)) (ev_op (ev_op (ev_var rfl) (ev_var rfl) (rd_ixL (at_cpL ll))) ev_int (rd_ixL rfl)) (rd_ne rfl rfl))) ?_) (fun h => es_rt (es_retE ev_bl ?_)) (fun h => es_nxS ?_)
      · simp at h1
        rw [show ((n : Nat) : Int) - 1 = ((n - 1 : Nat) : Int) by omega]
        refine at_map ?_
        rw [List.getElem?_eq_getElem (by omega : n - 1 < (cp s l).rows.length)]
        simp [List.getD_eq_getElem?_getD, List.getElem?_eq_getElem (by omega : n - 1 < (cp s l).rows.length)]
      · rw [eqv_int, List.length_map]
        rw [show decide ((((cp s l).rows.length : Nat) : Int) < (n : Nat)) = !decide (n ≤ (cp s l).rows.length) by
          by_cases h : n ≤ (cp s l).rows.length
          · rw [decide_eq_true h, decide_eq_false (by omega)]; rfl
          · rw [decide_eq_false h, decide_eq_true (by omega)]; rfl]
        rw [show decide (((n : Nat) : Int) ≤ (s.done : Nat)) = !decide (s.done < n) by
          by_cases h : s.done < n
          · rw [decide_eq_true h, decide_eq_false (by omega)]; rfl
          · rw [decide_eq_false h, decide_eq_true (by omega)]; rfl]
        rw [show decide ((((((cp s l).rows.getD (n - 1) default).term : Nat) : Int)) = ((cp s l).term : Nat)) = decide (((cp s l).rows.getD (n - 1) default).term = (cp s l).term) from decide_eq_decide.mpr (by omega)]
        cases decide (n ≤ (cp s l).rows.length) <;> cases decide (s.done < n) <;> simp
      · have hc : can s (.commit n) = false := by
          simp only [can, hl]
          rw [nt h, Bool.false_and]
        rw [hc]
      · have hc : can s (.commit n) = half s.cs (hasFirst (cp s l).rows n) := by
          simp only [can, hl]
          rw [nf h, Bool.true_and]
        rw [hc]
        refine es_retE (ev_op (ev_op ev_int (ev_cb (ev_cons (ev_lc (ei_lst (ev_var rfl)) (lr_filter (c := encCpL) (f := encCpL) (p := hasFirst (cp s l).rows n) (by simp) s.cs fun c hc => ⟨eg_name, et_eqb (ev_test (ev_op (ev_eqd (ev_slT (ev_op (ev_var rfl) ev_int (rd_ixL rfl)) ev_none (ev_part (ev_var rfl))) (encRows_take _ _)) (ev_eqd (ev_slT (ev_var rfl) ev_none (ev_part (ev_var rfl))) (encRows_take _ _)) (rd_eq (sh_rows _) (sh_rows _)))) (by rw [eqv_rows]; rfl), ev_var rfl⟩) szc) ev_nil) rc_lenL) (rd_mul (cmul_l (by decide) (by decide)))) (ev_cb (ev_cons (ev_var rfl) ev_nil) rc_lenL) rd_gt) (congrArg PyData.bool ?_)
        rw [List.length_map, List.length_map, half_len]
  | stop i =>
    refine es_seq (es_asg (ev_tup (ev_cons (ev_op (ev_var rfl) ev_int (rd_ixT rfl)) (ev_cons (ev_op (ev_var rfl) ev_int (rd_ixT rfl)) ev_nil)) (Nat.le_of_ble_eq_true rfl)) (eg_tup (eg_cons eg_name (eg_cons eg_name eg_nil)) rfl)) ?_
    refine es_ifS (ev_test (ev_op (ev_var rfl) ev_str (rd_eq (by first | rfl | exact sh_rows _ | exact sh_ev _ | exact sh_dd _ | decide +kernel) (by first | rfl | exact sh_rows _ | exact sh_ev _ | exact sh_dd _ | decide +kernel)))) (fun h => absurd h (by first | (simp [encDd, encEv, encO, isNone, PyData.eqv, PyData.eqvAll]; done) | (simp [encDd, encEv, encO, isNone, PyData.eqv, PyData.eqvAll]; decide +kernel))) fun _ => es_nxS ?_
    refine es_ifS (ev_test (ev_op (ev_var rfl) (ev_tup (ev_cons ev_str (ev_cons ev_str ev_nil)) (Nat.le_of_ble_eq_true rfl)) (rd_inS (ns := ["stop", "start"])))) (fun _ => es_rt (es_retE (ev_andB (ev_op (ev_var rfl) (ev_cb (ev_cons (ev_var rfl) ev_nil) rc_lenL) rd_lt) fun h => ev_op (ev_op (ev_op (ev_var rfl) (ev_var rfl) (rd_ixL (at_cpL ?_))) ev_int (rd_ixL rfl)) (ev_op (ev_var rfl) ev_str (rd_eq (by decide +kernel) (by decide +kernel))) (rd_eq rfl rfl)) (congrArg PyData.bool ?_))) (fun h => absurd h (by first | (simp [encDd, encEv, encO, isNone, PyData.eqv, PyData.eqvAll]; done) | (simp [encDd, encEv, encO, isNone, PyData.eqv, PyData.eqvAll]; decide +kernel)))
    · simpa using h
    · simp only [can, List.length_map]
      show (decide (((i : Nat) : Int) < (s.cs.length : Nat)) && PyData.eqv (.bool (cp s i).up) (.bool (PyData.eqv (.str "stop") (.str "stop")))) = _
      rw [show PyData.eqv (.str "stop") (.str "stop") = true by decide +kernel, eqv_bool]
      refine congr (congrArg _ (decide_eq_decide.mpr (by omega))) (by cases (cp s i).up <;> rfl)
  | start i =>
    refine es_seq (es_asg (ev_tup (ev_cons (ev_op (ev_var rfl) ev_int (rd_ixT rfl)) (ev_cons (ev_op (ev_var rfl) ev_int (rd_ixT rfl)) ev_nil)) (Nat.le_of_ble_eq_true rfl)) (eg_tup (eg_cons eg_name (eg_cons eg_name eg_nil)) rfl)) ?_
    refine es_ifS (ev_test (ev_op (ev_var rfl) ev_str (rd_eq (by first | rfl | exact sh_rows _ | exact sh_ev _ | exact sh_dd _ | decide +kernel) (by first | rfl | exact sh_rows _ | exact sh_ev _ | exact sh_dd _ | decide +kernel)))) (fun h => absurd h (by first | (simp [encDd, encEv, encO, isNone, PyData.eqv, PyData.eqvAll]; done) | (simp [encDd, encEv, encO, isNone, PyData.eqv, PyData.eqvAll]; decide +kernel))) fun _ => es_nxS ?_
    refine es_ifS (ev_test (ev_op (ev_var rfl) (ev_tup (ev_cons ev_str (ev_cons ev_str ev_nil)) (Nat.le_of_ble_eq_true rfl)) (rd_inS (ns := ["stop", "start"])))) (fun _ => es_rt (es_retE (ev_andB (ev_op (ev_var rfl) (ev_cb (ev_cons (ev_var rfl) ev_nil) rc_lenL) rd_lt) fun h => ev_op (ev_op (ev_op (ev_var rfl) (ev_var rfl) (rd_ixL (at_cpL ?_))) ev_int (rd_ixL rfl)) (ev_op (ev_var rfl) ev_str (rd_eq (by decide +kernel) (by decide +kernel))) (rd_eq rfl rfl)) (congrArg PyData.bool ?_))) (fun h => absurd h (by first | (simp [encDd, encEv, encO, isNone, PyData.eqv, PyData.eqvAll]; done) | (simp [encDd, encEv, encO, isNone, PyData.eqv, PyData.eqvAll]; decide +kernel)))
    · simpa using h
    · simp only [can, List.length_map]
      show (decide (((i : Nat) : Int) < (s.cs.length : Nat)) && PyData.eqv (.bool (cp s i).up) (.bool (PyData.eqv (.str "start") (.str "stop")))) = _
      rw [show PyData.eqv (.str "start") (.str "stop") = false by decide +kernel, eqv_bool]
      refine congr (congrArg _ (decide_eq_decide.mpr (by omega))) (by cases (cp s i).up <;> rfl)
  | go => cases p2
  | non => cases p2
  | app0 => cases p2
  | lst => cases p2

end KD

/-! KF10: what is committed by the law; its facts. -/
namespace KD
open PySem L2 PySem.Spec PyProof.Rows K27
section
variable {K : PySem.W.Frag} {ρ : En} {tA : TA}
theorem ei_rng3 {i j c : Int} {n : Nat} (h : EvA K tA ρ [.int i, .int j, .int c]) (hc : RgC i j c n) : EvI K (iRng3 tA) ρ ((List.range n).map fun k => .int (i + (k : Nat) * c)) := fun σ G H hs hd R r =>
  h σ G H hs hd _ fun vs G2 H2 s dv => by
    cases dv with
    | cons d1 d2 =>
    cases d2 with
    | cons d2 d3 =>
    cases d3 with
    | cons d3 d4 =>
    cases d4
    refine ⟨i, j, c, n, by rw [dp_int d1, dp_int d2, dp_int d3], hc, r _ G2 H2 s fun k G1 H1 k1 k2 => ⟨fun hi => ?_, fun hi => ?_⟩⟩
    · rw [List.length_map, List.length_range] at hi
      refine ⟨hi, fun w H3 y => ?_⟩
      obtain ⟨rfl, rfl⟩ := y
      exact ⟨G1, .int (i + (k : Nat) * c), .refl k2, by rw [List.getElem?_map, List.getElem?_range hi]; rfl, .int _⟩
    · rw [List.length_map, List.length_range] at hi
      show n ≤ k
      omega
end

abbrev s__law_committed : Stmt := top 48
abbrev N__law_committed : List Str := ["state", "copies", "leads", "done", "up", "term", "rows", "one", "event"]
theorem sc__law_committed : FnScope N__law_committed ["state"] (defScope s__law_committed) := ⟨rfl, rfl, rfl, by decide +kernel, rfl, by decide +kernel, by decide +kernel⟩


def F__law_committed : List PyData → PyData → Prop := fun ds z => ∃ (s : K27.St), (Gd s) ∧ ds = [encStL s] ∧ z = evsD s
theorem I__law_committed {s : K27.St} (p0 : Gd s) : F__law_committed [encStL s] (evsD s) := ⟨s, p0, rfl, rfl⟩
theorem R__law_committed {P : Program} {w : World} {K : PySem.W.Frag} {mg : Str → Option Value} {base : Heap} (T : Tx mg) (kn : Kn K mg "_law_committed" s__law_committed ["state"]) : Rdy P w K mg base 1 "_law_committed" ["state"] (spP K F__law_committed) := by
  refine rdy_of kn sc__law_committed (fun ds z h => ?_) (by decide) (fun f cdv A outer s H E hr ds z h => ?_)
  · obtain ⟨s, p0, rfl, rfl⟩ := h
    rfl
  obtain ⟨s, p0, rfl, rfl⟩ := h
  refine ⟨_, (pss_cons (ps_asg (pv 0) (pg_unl (by rfl) (pgs_cons (pg_name (i := 1) sc__law_committed.nd rfl (by first | exact Or.inl rfl | exact Or.inr rfl)) (pgs_cons (pg_name (i := 2) sc__law_committed.nd rfl (by first | exact Or.inl rfl | exact Or.inr rfl)) (pgs_cons (pg_name (i := 3) sc__law_committed.nd rfl (by first | exact Or.inl rfl | exact Or.inr rfl)) pgs_nil))))) (pss_cons (ps_for PassesOwn.never rfl (pi_list (pv 1)) (pg_unl (by rfl) (pgs_cons (pg_name (i := 4) sc__law_committed.nd rfl (by first | exact Or.inl rfl | exact Or.inr rfl)) (pgs_cons (pg_name (i := 5) sc__law_committed.nd rfl (by first | exact Or.inl rfl | exact Or.inr rfl)) (pgs_cons (pg_name (i := 6) sc__law_committed.nd rfl (by first | exact Or.inl rfl | exact Or.inr rfl)) pgs_nil)))) (pss_one (ps_if (PW.pt (pw_and (pt_cmpR op_ge (pe_callB call_len_seq (by rfl) T.b_len bt_len (pa_cons (pv 6) pa_nil)) (pv 3) (by first | rfl | exact nomark _)) (pw_and1 (pt_cmpR op_gt (pe_op op_mul pe_int (pe_callB call_len_seq (by rfl) T.b_len bt_len (pa_cons (pe_lc (own := [("one", 7)]) (g := (gName 7)) (tt := (tTest (tOp (rEqD K) (tSl (rSlA K) (tOp (rIxL K) (tVar 7) (tC (.int 2))) tNoPart (tPart (tVar 3))) (tSl (rSlA K) (tVar 6) tNoPart (tPart (tVar 3)))))) (te := (tVar 7)) rfl sc__law_committed.nd (pi_list (pv 1)) (blkOk_by (N := N__law_committed) (sc := defScope s__law_committed) (by decide +kernel)) (fun _ _ _ _ _ => by exact (pg_name (i := 7) sc__law_committed.nd rfl (by first | exact Or.inl rfl | exact Or.inr rfl))) (fun _ _ _ _ _ => by exact (pts_one (pt_cmpR (op_eqD hr.units) (pe_slice sl_tupA (pe_ix ix_list (pv 7) pe_int (fun _ _ => rfl)) po_none (po_some (pv 3))) (pe_slice sl_tupA (pv 6) po_none (po_some (pv 3))) (by first | rfl | exact nomark _)))) (fun _ _ _ _ _ => by exact (pv 7))) pa_nil))) (pe_callB call_len_seq (by rfl) T.b_len bt_len (pa_cons (pv 1) pa_nil)) (by first | rfl | exact nomark _))))) (pss_one (ps_ret (pe_callTy call_tuple_of (by rfl) T.b_tuple bt_tuple (pa_cons (pe_lc (own := [("term", 5), ("event", 8)]) (g := (gTup K 2 (gCons (gName 5) (gCons (gName 8) gNil)))) (tt := tYes) (te := (tVar 8)) rfl sc__law_committed.nd (pi_tup (pe_slice sl_tupA (pv 6) po_none (po_some (pv 3)))) (blkOk_by (N := N__law_committed) (sc := defScope s__law_committed) (by decide +kernel)) (fun _ _ _ _ _ => by exact (pg_tup (by rfl) (pgs_cons (pg_name (i := 5) sc__law_committed.nd rfl (by first | exact Or.inl rfl | exact Or.inr rfl)) (pgs_cons (pg_name (i := 8) sc__law_committed.nd rfl (by first | exact Or.inl rfl | exact Or.inr rfl)) pgs_nil)))) (fun _ _ _ _ _ => by exact pts_nil) (fun _ _ _ _ _ => by exact (pv 8))) pa_nil)))) pss_nil))) (pss_one (ps_ret (pe_tup pa_nil))))), ?_⟩
  have sz : (s.cs.map encCpL).length ≤ sizeLine := Nat.le_trans (m := 5) (by rw [List.length_map]; exact p0.len) (by decide)
  have ez : evsD s = fiD (fun c : Cp => .tuple ((c.rows.take s.done).map fun r => encEv r.ev)) (.tuple []) (s.cs.find? fun c => decide (s.done ≤ c.rows.length) && half s.cs (hasFirst c.rows s.done)) := by
    unfold evsD comm
    cases s.cs.find? (fun c => decide (s.done ≤ c.rows.length) && half s.cs (hasFirst c.rows s.done)) <;> rfl
  rw [ez]
  refine es_seq (es_asg (ev_var rfl) (by first | exact eg_tup (eg_cons eg_name (eg_cons eg_name (eg_cons eg_name eg_nil))) rfl | exact eg_lst (eg_cons eg_name (eg_cons eg_name (eg_cons eg_name eg_nil))) rfl)) ?_
  refine es_find (c := encCpL) (z := fun c => .tuple ((c.rows.take s.done).map fun r => encEv r.ev)) (w := .tuple []) (fun ρ => ∃ o1 o2 o3 o4 o5, ρ = [some (encStL s), some (.list (s.cs.map encCpL)), some (encO s.lead), some (.int (s.done : Nat)), o1, o2, o3, o4, o5]) (fun c => decide (s.done ≤ c.rows.length) && half s.cs (hasFirst c.rows s.done)) s.cs ?_ ⟨none, none, none, none, none, rfl⟩ ?_ ?_
  · exact ei_lst (ev_var rfl)
  · rintro c hc ρ ⟨o1, o2, o3, o4, o5, rfl⟩
    refine ⟨_, _, eg_lst (eg_cons eg_name (eg_cons eg_name (eg_cons eg_name eg_nil))) rfl, ?_⟩
    have hlen : c.rows.length ≤ 1000 := by
      obtain ⟨i, hi⟩ := List.getElem?_of_mem hc
      rw [← cp_of hi]
      exact p0.rows i
    have hcond : ∀ {b : Bool}, (decide ((s.done : Int) ≤ (c.rows.length : Nat)) && decide (((s.cs.length : Nat) : Int) < 2 * (((s.cs.filter (hasFirst c.rows s.done)).length : Nat) : Int))) = (decide (s.done ≤ c.rows.length) && half s.cs (hasFirst c.rows s.done)) := by
      intro _
      rw [half_len]
      exact congrArg (· && _) (decide_eq_decide.mpr (by omega))
    cases hb : (decide (s.done ≤ c.rows.length) && half s.cs (hasFirst c.rows s.done)) with
    | true =>
      refine .inl ⟨rfl, es_if (b := decide (s.done ≤ c.rows.length) && half s.cs (hasFirst c.rows s.done)) (et_eqb (ev_andT (ev_test (ev_op (ev_cb (ev_cons (ev_var rfl) ev_nil) rc_lenT) (ev_var rfl) rd_ge)) fun _ => ev_test (ev_op (ev_op ev_int (ev_cb (ev_cons (ev_lc (ei_lst (ev_var rfl)) (lr_filter (c := encCpL) (f := encCpL) (p := hasFirst c.rows s.done) (by simp) s.cs fun d hd => ⟨eg_name, et_eqb (ev_test (ev_op (ev_eqd (ev_slT (ev_op (ev_var rfl) ev_int (rd_ixL rfl)) ev_none (ev_part (ev_var rfl))) (encRows_take _ _)) (ev_eqd (ev_slT (ev_var rfl) ev_none (ev_part (ev_var rfl))) (encRows_take _ _)) (rd_eq (sh_rows _) (sh_rows _)))) (by rw [eqv_rows]; rfl), ev_var rfl⟩) sz) ev_nil) rc_lenL) (rd_mul (cmul_l (by decide) (by decide)))) (ev_cb (ev_cons (ev_var rfl) ev_nil) rc_lenL) rd_gt)) (by rw [List.length_map, List.length_map, List.length_map]; exact hcond (b := true))) (fun _ => ?_) (fun h => ?_)⟩
      · exact es_ret (ev_cb (ev_cons (ev_lc (ei_tup (ev_eqd (ev_slT (ev_var rfl) ev_none (ev_part (ev_var rfl))) (encRows_take _ _))) (lr_map (c := encRow) (f := fun r => encEv r.ev) (by simp) (c.rows.take s.done) fun r hr => ⟨eg_tup (eg_cons eg_name (eg_cons eg_name eg_nil)) rfl, ev_var rfl⟩) (Nat.le_trans (m := 1000) (by simp; omega) (by decide))) ev_nil) rc_tupL)
      · rw [hb] at h; cases h
    | false =>
      refine .inr ⟨rfl, [some (encStL s), some (.list (s.cs.map encCpL)), some (encO s.lead), some (.int (s.done : Nat)), some (.bool c.up), some (.int (c.term : Nat)), some (encRows c.rows), o4, o5], es_if (b := decide (s.done ≤ c.rows.length) && half s.cs (hasFirst c.rows s.done)) (et_eqb (ev_andT (ev_test (ev_op (ev_cb (ev_cons (ev_var rfl) ev_nil) rc_lenT) (ev_var rfl) rd_ge)) fun _ => ev_test (ev_op (ev_op ev_int (ev_cb (ev_cons (ev_lc (ei_lst (ev_var rfl)) (lr_filter (c := encCpL) (f := encCpL) (p := hasFirst c.rows s.done) (by simp) s.cs fun d hd => ⟨eg_name, et_eqb (ev_test (ev_op (ev_eqd (ev_slT (ev_op (ev_var rfl) ev_int (rd_ixL rfl)) ev_none (ev_part (ev_var rfl))) (encRows_take _ _)) (ev_eqd (ev_slT (ev_var rfl) ev_none (ev_part (ev_var rfl))) (encRows_take _ _)) (rd_eq (sh_rows _) (sh_rows _)))) (by rw [eqv_rows]; rfl), ev_var rfl⟩) sz) ev_nil) rc_lenL) (rd_mul (cmul_l (by decide) (by decide)))) (ev_cb (ev_cons (ev_var rfl) ev_nil) rc_lenL) rd_gt)) (by rw [List.length_map, List.length_map, List.length_map]; exact hcond (b := true))) (fun h => ?_) (fun _ => es_next), ⟨_, _, _, _, _, rfl⟩⟩
      rw [hb] at h; cases h
  · rintro ρ' ⟨o1, o2, o3, o4, o5, rfl⟩
    exact es_ret (ev_tup ev_nil (Nat.le_of_ble_eq_true rfl))
theorem Gd.commLen {s : K27.St} (h : Gd s) : (comm s).length = s.done := by
  obtain ⟨many, n, g, _⟩ := h
  exact g.commLen
theorem Gd.leadHas {s : K27.St} (h : Gd s) {l : Nat} (e : s.lead = some l) : (cp s l).rows.take s.done = comm s := by
  obtain ⟨many, n, g, _⟩ := h
  exact g.leadHas e
theorem Gd.lm {s : K27.St} (h : Gd s) {c c' : Cp} (hc : c ∈ s.cs) (hc' : c' ∈ s.cs) {p : Nat} {r r' : K27.Row} (h1 : c.rows[p]? = some r) (h2 : c'.rows[p]? = some r') (ht : r.term = r'.term) : c.rows.take (p + 1) = c'.rows.take (p + 1) := by
  obtain ⟨many, n, g, _⟩ := h
  exact g.lm hc hc' h1 h2 ht
theorem ei_eqd {K : PySem.W.Frag} {wi : TI} {ρ : En} {ds es : List PyData} (h : EvI K wi ρ ds) (e : ds = es) : EvI K wi ρ es := e ▸ h
theorem es_runN {K : PySem.W.Frag} {α : Type} {g : TG} {tb : TS} {wi : TI} {ρ : En} {I' : En → Prop} (I : En → Prop) (l : List α) (c : α → PyData) (h0 : EvI K wi ρ (l.map c)) (hρ : I ρ) (step : ∀ a ∈ l, ∀ ρ, I ρ → ∃ ρ1 is ρ2, EvG K g (c a) ρ ρ1 is ∧ EvS K tb ρ1 (.nx ρ2) ∧ I ρ2) (out : ∀ ρ', I ρ' → I' ρ') :
    ∃ ρ', EvS K (tFor wi g tb) ρ (.nx ρ') ∧ I' ρ' := by
  obtain ⟨ρ', f, i⟩ := fr_run I l step ρ hρ
  exact ⟨ρ', es_for h0 f, out ρ' i⟩
theorem step3 {K : PySem.W.Frag} {g : TG} {tb : TS} {d : PyData} {ρ ρ1 : En} {is : List Nat} {I : En → Prop} (h1 : EvG K g d ρ ρ1 is) (h2 : ∃ ρ2, EvS K tb ρ1 (.nx ρ2) ∧ I ρ2) : ∃ ρ1 is ρ2, EvG K g d ρ ρ1 is ∧ EvS K tb ρ1 (.nx ρ2) ∧ I ρ2 :=
  let ⟨ρ2, a, b⟩ := h2
  ⟨ρ1, is, ρ2, h1, a, b⟩
theorem sh_evs (l : List K27.Row) : SeqAt.shaped (.tuple (l.map fun r => encEv r.ev)) = true := by
  obtain ⟨h1, h2⟩ := lay_all (fun r : K27.Row => encEv r.ev) 2 (fun r => lay_ev r.ev) l
  exact shaped_of (by simp [PyData.canLay0, h1]) (by simp [PyData.depth]; omega)
theorem eqv_evs (l : List K27.Row) : PyData.eqv (.tuple (l.map fun r => encEv r.ev)) (.tuple (l.map fun r => encEv r.ev)) = true := by
  simp only [PyData.eqv]
  induction l with
  | nil => rfl
  | cons r l ih => rw [List.map_cons]; simp only [PyData.eqvAll, eqv_ev, ih, Bool.and_true, decide_eq_true_eq]

abbrev s__law_facts_right : Stmt := top 54
abbrev N__law_facts_right : List Str := ["state", "before", "copies", "leads", "done", "up", "term", "rows", "other", "place", "first", "event"]
theorem sc__law_facts_right : FnScope N__law_facts_right ["state", "before"] (defScope s__law_facts_right) := ⟨rfl, rfl, rfl, by decide +kernel, rfl, by decide +kernel, by decide +kernel⟩


def F__law_facts_right : List PyData → PyData → Prop := fun ds z => ∃ (s : K27.St) (s0 : K27.St), (Gd s) ∧ (Gd s0) ∧ (comm s0 <+: comm s) ∧ ds = [encStL s, encStL s0] ∧ z = .bool true
theorem I__law_facts_right {s : K27.St} {s0 : K27.St} (p0 : Gd s) (p1 : Gd s0) (p2 : comm s0 <+: comm s) : F__law_facts_right [encStL s, encStL s0] (.bool true) := ⟨s, s0, p0, p1, p2, rfl, rfl⟩
theorem R__law_facts_right {P : Program} {w : World} {K : PySem.W.Frag} {mg : Str → Option Value} {base : Heap} (T : Tx mg) (kn : Kn K mg "_law_facts_right" s__law_facts_right ["state", "before"]) (R__law_committed : Rdy P w K mg base 1 "_law_committed" ["state"] (spP K F__law_committed)) : Rdy P w K mg base 2 "_law_facts_right" ["state", "before"] (spP K F__law_facts_right) := by
  refine rdy_of kn sc__law_facts_right (fun ds z h => ?_) (by decide) (fun f cdv A outer s H E hr ds z h => ?_)
  · obtain ⟨s, s0, p0, p1, p2, rfl, rfl⟩ := h
    rfl
  obtain ⟨s, s0, p0, p1, p2, rfl, rfl⟩ := h
  refine ⟨_, (pss_cons (ps_asg (pv 0) (pg_unl (by rfl) (pgs_cons (pg_name (i := 2) sc__law_facts_right.nd rfl (by first | exact Or.inl rfl | exact Or.inr rfl)) (pgs_cons (pg_name (i := 3) sc__law_facts_right.nd rfl (by first | exact Or.inl rfl | exact Or.inr rfl)) (pgs_cons (pg_name (i := 4) sc__law_facts_right.nd rfl (by first | exact Or.inl rfl | exact Or.inr rfl)) pgs_nil))))) (pss_cons (ps_for PassesOwn.never rfl (pi_list (pv 2)) (pg_unl (by rfl) (pgs_cons (pg_name (i := 5) sc__law_facts_right.nd rfl (by first | exact Or.inl rfl | exact Or.inr rfl)) (pgs_cons (pg_name (i := 6) sc__law_facts_right.nd rfl (by first | exact Or.inl rfl | exact Or.inr rfl)) (pgs_cons (pg_name (i := 7) sc__law_facts_right.nd rfl (by first | exact Or.inl rfl | exact Or.inr rfl)) pgs_nil)))) (pss_one (ps_for PassesOwn.never rfl (pi_list (pv 2)) (pg_name (i := 8) sc__law_facts_right.nd rfl (by first | exact Or.inl rfl | exact Or.inr rfl)) (pss_one (ps_for PassesOwn.never rfl (pi_range3 (by rfl) T.b_range (pa_cons (pe_op op_sub (pe_callB (call_min2 rfl) (by rfl) T.b_min bt_min (pa_cons (pe_callB call_len_seq (by rfl) T.b_len bt_len (pa_cons (pv 7) pa_nil)) (pa_cons (pe_callB call_len_seq (by rfl) T.b_len bt_len (pa_cons (pe_ix ix_list (pv 8) pe_int (fun _ _ => rfl)) pa_nil)) pa_nil))) pe_int) (pa_cons (pe_un un_neg pe_int) (pa_cons (pe_un un_neg pe_int) pa_nil)))) (pg_name (i := 9) sc__law_facts_right.nd rfl (by first | exact Or.inl rfl | exact Or.inr rfl)) (pss_one (ps_if (PW.pt (pw_and (pt_cmpR (op_eqD hr.units) (pe_ix ix_tup (pe_ix ix_tup (pv 7) (pv 9) (fun _ _ => rfl)) pe_int (fun _ _ => rfl)) (pe_ix ix_tup (pe_ix ix_tup (pe_ix ix_list (pv 8) pe_int (fun _ _ => rfl)) (pv 9) (fun _ _ => rfl)) pe_int (fun _ _ => rfl)) (by first | rfl | exact nomark _)) (pw_and1 (pt_cmpR (op_neD hr.units) (pe_slice sl_tupA (pv 7) po_none (po_some (pe_op op_add (pv 9) pe_int))) (pe_slice sl_tupA (pe_ix ix_list (pv 8) pe_int (fun _ _ => rfl)) po_none (po_some (pe_op op_add (pv 9) pe_int))) (by first | rfl | exact nomark _))))) (pss_one (ps_ret pe_bl)) pss_nil))))))) (pss_cons (ps_set (i := 10) sc__law_facts_right.nd rfl (by first | exact Or.inl rfl | exact Or.inr rfl) (pe_fn R__law_committed (hr.mono (by decide)) (by rfl) (pa_cons (pv 0) pa_nil))) (pss_cons (ps_if (PW.pt (pw_or (pt_cmpR (op_neD hr.units) (pe_callB call_len_seq (by rfl) T.b_len bt_len (pa_cons (pv 10) pa_nil)) (pv 4) (by first | rfl | exact nomark _)) (pw_or1 (pt_cmpR (op_neD hr.units) (pe_slice sl_tupA (pv 10) po_none (po_some (pe_ix ix_list (pv 1) pe_int (fun _ _ => rfl)))) (pe_fn R__law_committed (hr.mono (by decide)) (by rfl) (pa_cons (pv 1) pa_nil)) (by first | rfl | exact nomark _))))) (pss_one (ps_ret pe_bl)) pss_nil) (pss_one (ps_ret (pe_or (pe_cmp (pc_isN (pv 3)) rfl) (pe_one (pe_cmpR (op_eqD hr.units) (pe_callTy call_tuple_of (by rfl) T.b_tuple bt_tuple (pa_cons (pe_lc (own := [("term", 6), ("event", 11)]) (g := (gTup K 2 (gCons (gName 6) (gCons (gName 11) gNil)))) (tt := tYes) (te := (tVar 11)) rfl sc__law_facts_right.nd (pi_tup (pe_slice sl_tupA (pe_ix ix_list (pe_ix ix_list (pv 2) (pv 3) (fun _ _ => rfl)) pe_int (fun _ _ => rfl)) po_none (po_some (pv 4)))) (blkOk_by (N := N__law_facts_right) (sc := defScope s__law_facts_right) (by decide +kernel)) (fun _ _ _ _ _ => by exact (pg_tup (by rfl) (pgs_cons (pg_name (i := 6) sc__law_facts_right.nd rfl (by first | exact Or.inl rfl | exact Or.inr rfl)) (pgs_cons (pg_name (i := 11) sc__law_facts_right.nd rfl (by first | exact Or.inl rfl | exact Or.inr rfl)) pgs_nil)))) (fun _ _ _ _ _ => by exact pts_nil) (fun _ _ _ _ _ => by exact (pv 11))) pa_nil)) (pv 10) (by first | rfl | exact nomark _)))))))))), ?_⟩
  refine es_seq (es_asg (ev_var rfl) (by first | exact eg_tup (eg_cons eg_name (eg_cons eg_name (eg_cons eg_name eg_nil))) rfl | exact eg_lst (eg_cons eg_name (eg_cons eg_name (eg_cons eg_name eg_nil))) rfl)) ?_
  refine es_run (fun ρ => ∃ o1 o2 o3 o4 o5, ρ = [some (encStL s), some (encStL s0), some (.list (s.cs.map encCpL)), some (encO s.lead), some (.int (s.done : Nat)), o1, o2, o3, o4, o5, none, none]) s.cs encCpL ?_ ⟨none, none, none, none, none, rfl⟩ ?_ ?_
  · exact ei_lst (ev_var rfl)
  · rintro c hc ρ ⟨o1, o2, o3, o4, o5, rfl⟩
    refine step3 (eg_lst (eg_cons eg_name (eg_cons eg_name (eg_cons eg_name eg_nil))) rfl) ?_
    refine es_runN (fun ρ => ∃ o4 o5, ρ = [some (encStL s), some (encStL s0), some (.list (s.cs.map encCpL)), some (encO s.lead), some (.int (s.done : Nat)), some (.bool c.up), some (.int (c.term : Nat)), some (encRows c.rows), o4, o5, none, none]) s.cs encCpL ?_ ⟨_, _, rfl⟩ ?_ (by rintro ρ' ⟨o4, o5, rfl⟩; exact ⟨_, _, _, _, _, rfl⟩)
    · exact ei_lst (ev_var rfl)
    · rintro c' hc' ρ ⟨o4, o5, rfl⟩
      refine step3 eg_name ?_
      have eM : (if (((c'.rows.map encRow).length : Nat) : Int) < ((c.rows.map encRow).length : Nat) then (((c'.rows.map encRow).length : Nat) : Int) else ((c.rows.map encRow).length : Nat)) = ((min c.rows.length c'.rows.length : Nat) : Int) := by
        rw [List.length_map, List.length_map]
        split <;> omega
      have lenC : ∀ x ∈ s.cs, x.rows.length ≤ 1000 := fun x hx => by
        obtain ⟨i, hi⟩ := List.getElem?_of_mem hx
        rw [← cp_of hi]
        exact p0.rows i
      have l1 := lenC c hc
      have l2 := lenC c' hc'
      refine es_runN (fun ρ => ∃ o5, ρ = [some (encStL s), some (encStL s0), some (.list (s.cs.map encCpL)), some (encO s.lead), some (.int (s.done : Nat)), some (.bool c.up), some (.int (c.term : Nat)), some (encRows c.rows), some (encCpL c'), o5, none, none]) (List.range (min c.rows.length c'.rows.length)) (fun k => .int (((min c.rows.length c'.rows.length : Nat) : Int) - 1 + (k : Nat) * -1)) ?_ ⟨_, rfl⟩ ?_ (by rintro ρ' ⟨o5, rfl⟩; exact ⟨_, _, rfl⟩)
      · refine ei_eqd (ei_rng3 (ev_cons (ev_op (ev_cb (ev_cons (ev_cb (ev_cons (ev_var rfl) ev_nil) rc_lenT) (ev_cons (ev_cb (ev_cons (ev_op (ev_var rfl) ev_int (rd_ixL rfl)) ev_nil) rc_lenT) ev_nil)) rc_min2) ev_int rd_sub) (ev_cons (ev_neg ev_int) (ev_cons (ev_neg ev_int) ev_nil))) (RgC.neg (by rw [eM]; omega) (by rw [eM]; omega) (by decide) (by decide))) ?_
        rw [eM, show (((min c.rows.length c'.rows.length : Nat) : Int) - 1 - -1).toNat = min c.rows.length c'.rows.length by omega]
      · rintro k hk ρ ⟨o5, rfl⟩
        rw [List.mem_range] at hk
        have hp1 : min c.rows.length c'.rows.length - 1 - k < c.rows.length := by omega
        have hp2 : min c.rows.length c'.rows.length - 1 - k < c'.rows.length := by omega
        rw [show (((min c.rows.length c'.rows.length : Nat) : Int) - 1 + (k : Nat) * -1) = ((min c.rows.length c'.rows.length - 1 - k : Nat) : Int) by omega]
        generalize min c.rows.length c'.rows.length - 1 - k = p at hp1 hp2
        have e1 := List.getElem?_eq_getElem hp1
        have e2 := List.getElem?_eq_getElem hp2
        refine step3 eg_name ⟨_, es_if (et_eqb (ev_andT (ev_test (ev_op (ev_op (ev_op (ev_var rfl) (ev_var rfl) (rd_ixT (at_map e1))) ev_int (rd_ixT rfl)) (ev_op (ev_op (ev_op (ev_var rfl) ev_int (rd_ixL rfl)) (ev_var rfl) (rd_ixT (at_map e2))) ev_int (rd_ixT rfl)) (rd_eq rfl rfl))) fun _ => ev_test (ev_op (ev_eqd (ev_slT (ev_var rfl) ev_none (ev_part (ev_op (ev_var rfl) ev_int rd_add))) (encRows_take c.rows (p + 1))) (ev_eqd (ev_slT (ev_op (ev_var rfl) ev_int (rd_ixL rfl)) ev_none (ev_part (ev_op (ev_var rfl) ev_int rd_add))) (encRows_take c'.rows (p + 1))) (rd_ne (sh_rows _) (sh_rows _)))) (c := false) ?_) (fun h => nomatch h) fun _ => es_next, ⟨_, rfl⟩⟩
        rw [eqv_int, eqv_rows]
        by_cases ht : (c.rows[p]).term = (c'.rows[p]).term
        · have := p0.lm hc hc' e1 e2 ht
          rw [decide_eq_true this]
          exact Bool.and_false _
        · rw [decide_eq_false (by omega)]
          rfl
  · rintro ρ' ⟨o1, o2, o3, o4, o5, rfl⟩
    have e0 : (comm s).take s0.done = comm s0 := by
      rw [← p1.commLen]
      exact (List.prefix_iff_eq_take.mp p2).symm
    have ecut : PyData.tuple (cutD ((comm s).map fun r => encEv r.ev) none (some ((s0.done : Nat) : Int))) = evsD s0 := by
      rw [cutD_to, ← List.map_take, e0]
      rfl
    refine es_seq (es_set (ev_call (ev_cons (ev_var rfl) ev_nil) (I__law_committed (by assumption)))) ?_
    refine es_ifS (et_eqb (ev_orT (ev_test (ev_op (ev_cb (ev_cons (ev_var rfl) ev_nil) rc_lenT) (ev_var rfl) (rd_ne rfl rfl))) fun _ => ev_test (ev_op (ev_eqd (ev_slT (ev_var rfl) ev_none (ev_part (ev_op (ev_var rfl) ev_int (rd_ixL rfl)))) ecut) (ev_call (ev_cons (ev_var rfl) ev_nil) (I__law_committed p1)) (rd_ne (sh_evs _) (sh_evs _)))) (c := false) ?_) (fun h => nomatch h) fun _ => es_nxS ?_
    · rw [eqv_int, List.length_map, p0.commLen]
      show (!decide _ || !PyData.eqv (evsD s0) (evsD s0)) = false
      rw [show PyData.eqv (evsD s0) (evsD s0) = true from eqv_evs _]
      simp
    · cases hl : s.lead with
      | none => exact es_retE (ev_orB (c := true) (ev_isN (ev_var rfl)) (fun h => absurd h (by first | (simp [encDd, encEv, encO, isNone, PyData.eqv, PyData.eqvAll]; done) | (simp [encDd, encEv, encO, isNone, PyData.eqv, PyData.eqvAll]; decide +kernel)))) rfl
      | some l =>
        refine es_retE (ev_orB (ev_isN (ev_var rfl)) fun _ => ev_op (ev_cb (ev_cons (ev_lc (ei_tup (ev_eqd (ev_slT (ev_op (ev_op (ev_var rfl) (ev_var rfl) (rd_ixL (at_cpL (p0.lead hl)))) ev_int (rd_ixL rfl)) ev_none (ev_part (ev_var rfl))) (encRows_take _ _))) (lr_map (c := encRow) (f := fun r => encEv r.ev) (by simp) ((cp s l).rows.take s.done) fun r hr => ⟨eg_tup (eg_cons eg_name (eg_cons eg_name eg_nil)) rfl, ev_var rfl⟩) (Nat.le_trans (m := 1000) (by have := p0.rows l; simp; omega) (by decide))) ev_nil) rc_tupL) (ev_var rfl) (rd_eq (sh_evs _) (sh_evs _))) (congrArg PyData.bool ?_)
        show (_ || PyData.eqv (.tuple (((cp s l).rows.take s.done).map fun r => encEv r.ev)) (evsD s)) = true
        rw [p0.leadHas hl, show PyData.eqv (.tuple ((comm s).map fun r => encEv r.ev)) (evsD s) = true from eqv_evs _, Bool.or_true]

end KD

/-! KW: walks with lists of one's own (that change) and a jug of draws (that changes): what an expression may come to, told by a predicate on data. -/
namespace KD
open PySem L2 PySem.Spec PyProof.Rows K27
variable {K : PySem.W.Frag}
abbrev Own := List (Nat × List PyData)
/-- the lists of one's own: slots, what they hold -/
def Owns (K : PySem.W.Frag) (σ : L2.St) (G H H0 : Hp) : Own → List Addr → Prop
  | [], [] => True
  | (i, c) :: μ, a :: as => (σ[i]? = some (some (.ref a)) ∧ (∃ ws, H a = some (.lst ws) ∧ DpAll K G ws c) ∧ G a = none ∧ H0 a = none ∧ a ∉ as) ∧ Owns K σ G H H0 μ as
  | _, _ => False
def jugOk (a b : Int) : Prop := 0 ≤ a ∧ a < 2 ^ 1300 ∧ 0 ≤ b ∧ b < 2 ^ 64
def JugAt (H : Hp) (j : Addr) : Prop := ∃ a b : Int, jugOk a b ∧ H j = some (.lst [.int a, .int b])
/-- where one is: G0, H0 as they were at the def's entry, j the jug (in the slot js, if there is one) -/
structure MD (K : PySem.W.Frag) (js : Option Nat) (j : Addr) (G0 H0 : Hp) (σ : L2.St) (G H : Hp) (ρ : En) (μ : Own) : Prop where
  sub : Same G H
  sd : SD K σ G ρ
  ext : ∀ b o, (js ≠ none → b ≠ j) → H0 b = some o → H b = some o
  old : ∀ b, H0 b ≠ none → G b = G0 b
  own : ∃ as, Owns K σ G H H0 μ as
  jug : ∀ i, js = some i → σ[i]? = some (some (.ref j)) ∧ JugAt H j ∧ G j = none ∧ H0 j ≠ none
section
variable {js : Option Nat} {j : Addr} {G0 H0 : Hp} {σ : L2.St} {G H G2 H2 : Hp} {ρ : En} {μ : Own}
theorem Owns.stp : ∀ {μ : Own} {as : List Addr}, Owns K σ G H H0 μ as → Same G H → Stp G H G2 H2 → Owns K σ G2 H2 H0 μ as
  | [], [], _, _, _ => trivial
  | (i, c) :: μ, a :: as, ⟨⟨h1, ⟨ws, h2, h3⟩, h4, h5, h6⟩, r⟩, sub, s => ⟨⟨h1, ⟨ws, s.keep h2, dpa_mono (s.up sub) _ _ h3⟩, s.out (by rw [h2]; simp) h4, h5, h6⟩, Owns.stp r sub s⟩
theorem MD.stp (m : MD K js j G0 H0 σ G H ρ μ) (s : Stp G H G2 H2) : MD K js j G0 H0 σ G2 H2 ρ μ where
  sub := s.sub
  sd := m.sd.mono (s.up m.sub)
  ext := fun b o h e => s.ext b o (m.ext b o h e)
  old := fun b h => by
    have hb : H b ≠ none := by
      by_cases q : js ≠ none → b ≠ j
      · cases e : H0 b with
        | none => exact absurd e h
        | some o => rw [m.ext b o q e]; simp
      · have q1 : js ≠ none ∧ b = j := ⟨fun z => q fun w => absurd z w, Classical.byContradiction fun z => q fun _ => z⟩
        obtain ⟨i, hi⟩ := Option.ne_none_iff_exists'.mp q1.1
        obtain ⟨_, ⟨a, c, _, e⟩, _⟩ := m.jug i hi
        rw [q1.2, e]; simp
    rw [s.old b hb, m.old b h]
  own := let ⟨as, o⟩ := m.own; ⟨as, o.stp m.sub s⟩
  jug := fun i hi => by
    obtain ⟨h1, ⟨a, c, h2, e⟩, h3, h4⟩ := m.jug i hi
    exact ⟨h1, ⟨a, c, h2, s.keep e⟩, s.out (by rw [e]; simp) h3, h4⟩
end
/-- what an expression changes: new objects, the jug -/
structure StpJ (js : Option Nat) (j : Addr) (G H G2 H2 : Hp) : Prop where
  ext : ∀ b o, (js ≠ none → b ≠ j) → H b = some o → H2 b = some o
  old : ∀ b, (js ≠ none → b ≠ j) → H b ≠ none → G2 b = G b
theorem StpJ.refl {js : Option Nat} {j : Addr} {G H : Hp} : StpJ js j G H G H := ⟨fun _ _ _ e => e, fun _ _ _ => rfl⟩
theorem StpJ.of {js : Option Nat} {j : Addr} {G H G2 H2 : Hp} (s : Stp G H G2 H2) : StpJ js j G H G2 H2 := ⟨fun b o _ e => s.ext b o e, fun b _ h => s.old b h⟩
theorem StpJ.trans {js : Option Nat} {j : Addr} {G H G1 H1 G2 H2 : Hp} (a : StpJ js j G H G1 H1) (b : StpJ js j G1 H1 G2 H2) : StpJ js j G H G2 H2 :=
  ⟨fun x o h e => b.ext x o h (a.ext x o h e), fun x h e => by
    have : H1 x ≠ none := by
      cases q : H x with
      | none => exact absurd q e
      | some o => rw [a.ext x o h q]; simp
    rw [b.old x h this, a.old x h e]⟩
theorem StpJ.same {js : Option Nat} {j : Addr} {G0 H0 G H G2 H2 : Hp} {σ : L2.St} {ρ : En} {μ : Own} (a : StpJ js j G H G2 H2) (m : MD K js j G0 H0 σ G H ρ μ) : Same G G2 := fun b o e => by
  have nj : js ≠ none → b ≠ j := fun h z => by
    obtain ⟨i, hi⟩ := Option.ne_none_iff_exists'.mp h
    have := (m.jug i hi).2.2.1
    rw [← z, e] at this
    cases this
  rw [a.old b nj (by rw [m.sub b o e]; simp)]
  exact e
/-- what an expression may come to -/
def MX (K : PySem.W.Frag) (js : Option Nat) (te : TE) (ρ : En) (μ : Own) (P : PyData → Prop) : Prop :=
  ∀ (j : Addr) (G0 H0 : Hp) (σ : L2.St) (G H : Hp), MD K js j G0 H0 σ G H ρ μ → ∀ Q : VK, (∀ v G2 H2 d, MD K js j G0 H0 σ G2 H2 ρ μ → StpJ js j G H G2 H2 → Dp K G2 v d → P d → Q v H2) → te σ H Q
def MT (K : PySem.W.Frag) (js : Option Nat) (tt : TT) (ρ : En) (μ : Own) (P : Bool → Prop) : Prop :=
  ∀ (j : Addr) (G0 H0 : Hp) (σ : L2.St) (G H : Hp), MD K js j G0 H0 σ G H ρ μ → ∀ Q : Bool → Hp → Prop, (∀ b G2 H2, MD K js j G0 H0 σ G2 H2 ρ μ → StpJ js j G H G2 H2 → P b → Q b H2) → tt σ H Q
def MA (K : PySem.W.Frag) (js : Option Nat) (ta : TA) (ρ : En) (μ : Own) (P : List PyData → Prop) : Prop :=
  ∀ (j : Addr) (G0 H0 : Hp) (σ : L2.St) (G H : Hp), MD K js j G0 H0 σ G H ρ μ → ∀ Q : List V → Hp → Prop, (∀ vs G2 H2 ds, MD K js j G0 H0 σ G2 H2 ρ μ → StpJ js j G H G2 H2 → DpAll K G2 vs ds → P ds → Q vs H2) → ta σ H Q
section
variable {js : Option Nat} {ρ : En} {μ : Own} {te ta tb : TE} {tt tu : TT} {P P1 P2 : PyData → Prop} {d : PyData} {ds : List PyData}
theorem mx_of (h : EvE K te ρ d) : MX K js te ρ μ (· = d) := fun j G0 H0 σ G H m Q q => h σ G H m.sub m.sd Q fun v G2 H2 s dv => q v G2 H2 d (m.stp s) (.of s) dv rfl
theorem mt_of {b : Bool} (h : EvT K tt ρ b) : MT K js tt ρ μ (· = b) := fun j G0 H0 σ G H m Q q => h σ G H m.sub m.sd Q fun G2 H2 s => q b G2 H2 (m.stp s) (.of s) rfl
theorem ma_of (h : EvA K ta' ρ ds) : MA K js ta' ρ μ (· = ds) := fun j G0 H0 σ G H m Q q => h σ G H m.sub m.sd Q fun v G2 H2 s dv => q v G2 H2 ds (m.stp s) (.of s) dv rfl
theorem mx_imp (h : MX K js te ρ μ P) (f : ∀ d, P d → P1 d) : MX K js te ρ μ P1 := fun j G0 H0 σ G H m Q q => h j G0 H0 σ G H m Q fun v G2 H2 d a b c e => q v G2 H2 d a b c (f d e)
theorem mt_imp {P P1 : Bool → Prop} (h : MT K js tt ρ μ P) (f : ∀ d, P d → P1 d) : MT K js tt ρ μ P1 := fun j G0 H0 σ G H m Q q => h j G0 H0 σ G H m Q fun d G2 H2 a b e => q d G2 H2 a b (f d e)
theorem mx_op {r : R2} (ha : MX K js ta ρ μ P1) (hb : MX K js tb ρ μ P2) (hr : ∀ x y, P1 x → P2 y → ∃ z, RD K r x y z ∧ P z) : MX K js (tOp r ta tb) ρ μ P := fun j G0 H0 σ G H m Q q =>
  ha j G0 H0 σ G H m _ fun v G1 H1 x m1 s1 dv px => hb j G0 H0 σ G1 H1 m1 _ fun u G2 H2 y m2 s2 du py => by
    obtain ⟨z, rd, pz⟩ := hr x y px py
    exact rd v u G2 H2 m2.sub (dp_mono (s2.same m1) _ _ dv) du Q fun t G3 H3 s3 dt => q t G3 H3 z (m2.stp s3) ((s1.trans s2).trans (.of s3)) dt pz
theorem ma_nil : MA K js tNil ρ μ (· = []) := fun j G0 H0 σ G H m Q q => q [] G H [] m .refl .nil rfl
theorem ma_cons {tr : TA} {PL : List PyData → Prop} (ha : MX K js te ρ μ P) (hb : MA K js tr ρ μ PL) : MA K js (tCons te tr) ρ μ (fun l => ∃ d ds, l = d :: ds ∧ P d ∧ PL ds) := fun j G0 H0 σ G H m Q q =>
  ha j G0 H0 σ G H m _ fun v G1 H1 x m1 s1 dv px => hb j G0 H0 σ G1 H1 m1 _ fun vs G2 H2 ds m2 s2 dvs pl => q _ G2 H2 (x :: ds) m2 (s1.trans s2) (.cons (dp_mono (s2.same m1) _ _ dv) dvs) ⟨x, ds, rfl, px, pl⟩
theorem mx_tup {tr : TA} {PL : List PyData → Prop} (h : MA K js tr ρ μ PL) (hp : ∀ l, PL l → l.length ≤ sizeLine ∧ P (.tuple l)) : MX K js (tTup tr) ρ μ P := fun j G0 H0 σ G H m Q q =>
  h j G0 H0 σ G H m _ fun vs G1 H1 l m1 s1 dvs pl => ⟨by rw [dpa_len dvs]; exact (hp l pl).1, fun p hp' => by
    have st := Stp.new m1.sub hp' (.tup vs)
    exact q _ _ _ _ (m1.stp st) (s1.trans (.of st)) (.tup (.inl (.inl upd_same)) (dpa_mono (st.up m1.sub) _ _ dvs)) (hp l pl).2⟩
theorem mx_lst {tr : TA} {PL : List PyData → Prop} (h : MA K js tr ρ μ PL) (hp : ∀ l, PL l → l.length ≤ sizeLine ∧ P (.list l)) : MX K js (tLst tr) ρ μ P := fun j G0 H0 σ G H m Q q =>
  h j G0 H0 σ G H m _ fun vs G1 H1 l m1 s1 dvs pl => ⟨by rw [dpa_len dvs]; exact (hp l pl).1, fun p hp' => by
    have st := Stp.new m1.sub hp' (.lst vs)
    exact q _ _ _ _ (m1.stp st) (s1.trans (.of st)) (.lst (.inl (.inl upd_same)) (dpa_mono (st.up m1.sub) _ _ dvs)) (hp l pl).2⟩
theorem mx_cb {r : List V → Hp → VK → Prop} {tr : TA} {PL : List PyData → Prop} (h : MA K js tr ρ μ PL) (hr : ∀ l, PL l → ∃ z, RC K r l z ∧ P z) : MX K js (tCB r tr) ρ μ P := fun j G0 H0 σ G H m Q q =>
  h j G0 H0 σ G H m _ fun vs G1 H1 l m1 s1 dvs pl => by
    obtain ⟨z, rc, pz⟩ := hr l pl
    exact rc vs G1 H1 m1.sub dvs Q fun t G3 H3 s3 dt => q t G3 H3 z (m1.stp s3) (s1.trans (.of s3)) dt pz
theorem mx_call {F : List PyData → PyData → Prop} {E : XK} {tr : TA} {PL : List PyData → Prop} (h : MA K js tr ρ μ PL) (hr : ∀ l, PL l → ∃ z, F l z ∧ P z) : MX K js (tCall (spP K F) [] E tr) ρ μ P := fun j G0 H0 σ G H m Q q =>
  h j G0 H0 σ G H m _ fun vs G1 H1 l m1 s1 dvs pl => by
    obtain ⟨z, fz, pz⟩ := hr l pl
    exact ⟨G1, l, z, m1.sub, by rw [List.append_nil]; exact dvs, fz, fun t G3 H3 s3 dt => q t G3 H3 z (m1.stp s3) (s1.trans (.of s3)) dt pz⟩
theorem mx_if {PB : Bool → Prop} (h : MT K js tt ρ μ PB) (h1 : PB true → MX K js ta ρ μ P) (h2 : PB false → MX K js tb ρ μ P) : MX K js (tIf tt ta tb) ρ μ P := fun j G0 H0 σ G H m Q q =>
  h j G0 H0 σ G H m _ fun b G1 H1 m1 s1 pb => by
    cases b with
    | true => exact iteT (h1 pb j G0 H0 σ G1 H1 m1 Q fun v G2 H2 d m2 s2 dv pd => q v G2 H2 d m2 (s1.trans s2) dv pd)
    | false => exact iteF (h2 pb j G0 H0 σ G1 H1 m1 Q fun v G2 H2 d m2 s2 dv pd => q v G2 H2 d m2 (s1.trans s2) dv pd)
theorem mt_test {PB : Bool → Prop} (h : MX K js te ρ μ fun d => ∃ b, d = .bool b ∧ PB b) : MT K js (tTest te) ρ μ PB := fun j G0 H0 σ G H m Q q =>
  h j G0 H0 σ G H m _ fun v G1 H1 d m1 s1 dv ⟨b, e, pb⟩ => ⟨b, dp_bool (e ▸ dv), q b G1 H1 m1 s1 pb⟩
theorem mt_tB {PB : Bool → Prop} (h : MX K js te ρ μ fun d => ∃ b, d = .bool b ∧ PB b) : MT K js (tB te) ρ μ PB := fun j G0 H0 σ G H m Q q =>
  h j G0 H0 σ G H m _ fun v G1 H1 d m1 s1 dv ⟨b, e, pb⟩ => ⟨b, dp_bool (e ▸ dv), q b G1 H1 m1 s1 pb⟩
theorem mt_not {PB PC : Bool → Prop} (h : MT K js tt ρ μ PB) (f : ∀ b, PB b → PC (!b)) : MT K js (tNot tt) ρ μ PC := fun j G0 H0 σ G H m Q q =>
  h j G0 H0 σ G H m _ fun b G1 H1 m1 s1 pb => q (!b) G1 H1 m1 s1 (f b pb)
theorem mt_and {PB PC PD : Bool → Prop} (h : MT K js tt ρ μ PB) (h2 : PB true → MT K js tu ρ μ PC) (f1 : PB false → PD false) (f2 : ∀ c, PB true → PC c → PD c) : MT K js (tAnd tt tu) ρ μ PD := fun j G0 H0 σ G H m Q q =>
  h j G0 H0 σ G H m _ fun b G1 H1 m1 s1 pb => by
    cases b with
    | true => exact iteT (h2 pb j G0 H0 σ G1 H1 m1 _ fun c G2 H2 m2 s2 pc => q c G2 H2 m2 (s1.trans s2) (f2 c pb pc))
    | false => exact iteF (q false G1 H1 m1 s1 (f1 pb))
theorem mt_or {PB PC PD : Bool → Prop} (h : MT K js tt ρ μ PB) (h2 : PB false → MT K js tu ρ μ PC) (f1 : PB true → PD true) (f2 : ∀ c, PB false → PC c → PD c) : MT K js (tOr tt tu) ρ μ PD := fun j G0 H0 σ G H m Q q =>
  h j G0 H0 σ G H m _ fun b G1 H1 m1 s1 pb => by
    cases b with
    | false => exact iteF (h2 pb j G0 H0 σ G1 H1 m1 _ fun c G2 H2 m2 s2 pc => q c G2 H2 m2 (s1.trans s2) (f2 c pb pc))
    | true => exact iteT (q true G1 H1 m1 s1 (f1 pb))
end
end KD

/-! KV: lists of one's own read, frozen, rewritten; statements, loops, comprehensions, calls with the jug. -/
namespace KD
open PySem L2 PySem.Spec PyProof.Rows K27
variable {K : PySem.W.Frag}
section
variable {js : Option Nat} {j : Addr} {G0 H0 : Hp} {σ σ' : L2.St} {G H G2 H2 : Hp} {ρ ρ1 ρ2 : En} {μ μ1 : Own}
theorem Owns.mem : ∀ {μ : Own} {as : List Addr} {i : Nat} {c : List PyData}, Owns K σ G H H0 μ as → (i, c) ∈ μ → ∃ a ws, a ∈ as ∧ σ[i]? = some (some (.ref a)) ∧ H a = some (.lst ws) ∧ DpAll K G ws c ∧ G a = none ∧ H0 a = none
  | (i, c) :: μ, a :: as, _, _, ⟨⟨h1, ⟨ws, h2, h3⟩, h4, h5, h6⟩, r⟩, .head _ => ⟨a, ws, List.mem_cons_self, h1, h2, h3, h4, h5⟩
  | (i, c) :: μ, a :: as, _, _, ⟨_, r⟩, .tail _ hm => let ⟨b, ws, z, r'⟩ := Owns.mem r hm; ⟨b, ws, List.mem_cons_of_mem _ z, r'⟩
/-- slots of one's own untouched, the heap as it was: still owned -/
theorem Owns.slots : ∀ {μ : Own} {as : List Addr}, Owns K σ G H H0 μ as → (∀ p ∈ μ, σ'[p.1]? = σ[p.1]?) → Owns K σ' G H H0 μ as
  | [], [], _, _ => trivial
  | (i, c) :: μ, a :: as, ⟨⟨h1, h⟩, r⟩, f => ⟨⟨by rw [f _ List.mem_cons_self]; exact h1, h⟩, Owns.slots r fun p hp => f p (List.mem_cons_of_mem _ hp)⟩
theorem Owns.upd_out : ∀ {μ : Own} {as : List Addr} {b : Addr} {o : HO}, Owns K σ G H H0 μ as → b ∉ as → Owns K σ G (upd H b o) H0 μ as
  | [], [], _, _, _, _ => trivial
  | (i, c) :: μ, a :: as, b, o, ⟨⟨h1, ⟨ws, h2, h3⟩, h⟩, r⟩, nb => ⟨⟨h1, ⟨ws, by rw [upd_ne fun z => nb (by rw [z]; exact List.mem_cons_self)]; exact h2, h3⟩, h⟩, Owns.upd_out r fun z => nb (List.mem_cons_of_mem _ z)⟩
theorem Owns.upd_G : ∀ {μ : Own} {as : List Addr} {b : Addr} {o : HO}, Owns K σ G H H0 μ as → Same G (upd G b o) → b ∉ as → Owns K σ (upd G b o) H H0 μ as
  | [], [], _, _, _, _, _ => trivial
  | (i, c) :: μ, a :: as, b, o, ⟨⟨h1, ⟨ws, h2, h3⟩, h4, h⟩, r⟩, sm, nb => ⟨⟨h1, ⟨ws, h2, dpa_mono sm _ _ h3⟩, by rw [upd_ne fun z => nb (by rw [z]; exact List.mem_cons_self)]; exact h4, h⟩, Owns.upd_G r sm fun z => nb (List.mem_cons_of_mem _ z)⟩
/-- the first list of one's own becomes data -/
theorem MD.freeze {i : Nat} {c : List PyData} (m : MD K js j G0 H0 σ G H ρ ((i, c) :: μ)) : ∃ G2, MD K js j G0 H0 σ G2 H (ρ.set i (some (.list c))) μ ∧ Same G G2 := by
  obtain ⟨as, ow⟩ := m.own
  cases as with
  | nil => exact ow.elim
  | cons a as =>
  obtain ⟨⟨h1, ⟨ws, h2, h3⟩, h4, h5, h6⟩, r⟩ := ow
  have sm : Same G (upd G a (.lst ws)) := fun b o e => by rw [upd_ne fun z => by rw [z, h4] at e; cases e]; exact e
  refine ⟨upd G a (.lst ws), ?_, sm⟩
  refine ⟨fun b o e => ?_, ?_, m.ext, fun b hb => ?_, ⟨as, r.upd_G sm h6⟩, fun k hk => ?_⟩
  · by_cases z : b = a
    · subst z; rw [upd_same] at e; rw [h2, e]
    · rw [upd_ne z] at e; exact m.sub b o e
  · have sd := m.sd.mono sm
    refine ⟨by rw [List.length_set]; exact sd.1, fun k d q => ?_⟩
    by_cases z : i = k
    · subst z
      by_cases hl : i < ρ.length
      · rw [List.getElem?_set_self hl] at q
        cases q
        exact ⟨.ref a, h1, .lst (.inl (.inl upd_same)) (dpa_mono sm _ _ h3)⟩
      · rw [List.getElem?_eq_none (by rw [List.length_set]; omega)] at q; cases q
    · rw [List.getElem?_set_ne z] at q
      exact sd.2 k d q
  · rw [upd_ne fun z => hb (by rw [z]; exact h5)]
    exact m.old b hb
  · obtain ⟨k1, k2, k3, k4⟩ := m.jug k hk
    have ja : j ≠ a := fun z => k4 (by rw [z]; exact h5)
    exact ⟨k1, k2, by rw [upd_ne ja]; exact k3, k4⟩
/-- slots written: none of the lists of one's own, not the jug's -/
theorem MD.slots {is : List Nat} (m : MD K js j G0 H0 σ G H ρ μ) (sd : SD K σ' G ρ1) (k : ∀ i, i ∉ is → σ'[i]? = σ[i]?) (h1 : ∀ p ∈ μ, p.1 ∉ is) (h2 : ∀ i, js = some i → i ∉ is) : MD K js j G0 H0 σ' G H ρ1 μ where
  sub := m.sub
  sd := sd
  ext := m.ext
  old := m.old
  own := let ⟨as, o⟩ := m.own; ⟨as, o.slots fun p hp => k _ (h1 p hp)⟩
  jug := fun i hi => let ⟨a, b⟩ := m.jug i hi; ⟨by rw [k i (h2 i hi)]; exact a, b⟩
end
/-! ### reading a list of one's own -/
section
variable {js : Option Nat} {ρ : En} {μ : Own} {te ta tb : TE} {tt tu : TT} {P P1 P2 : PyData → Prop} {d : PyData} {c ds : List PyData} {i : Nat}
theorem mx_ixO {PI : PyData → Prop} (hm : (i, c) ∈ μ) (h : MX K js ta ρ μ PI) (hp : ∀ d, PI d → ∃ k z, d = .int k ∧ atI c k = some z ∧ P z) : MX K js (tOp (rIxL K) (tVar i) ta) ρ μ P := fun j G0 H0 σ G H m Q q => by
  obtain ⟨as, ow⟩ := m.own
  obtain ⟨a, ws, _, e1, _, _, _, _⟩ := ow.mem hm
  refine ⟨.ref a, e1, h j G0 H0 σ G H m _ fun v G2 H2 d m2 s2 dv pd => ?_⟩
  obtain ⟨k, z, rfl, hz, pz⟩ := hp d pd
  obtain ⟨as2, ow2⟩ := m2.own
  obtain ⟨a2, ws2, _, f1, f2, f3, _, _⟩ := ow2.mem hm
  rw [e1] at f1
  cases f1
  obtain ⟨w, hw, dw⟩ := at_get f3 hz
  exact ⟨a, ws2, k, w, rfl, dp_int dv, .inl (.inl f2), hw, q w G2 H2 z m2 s2 dw pz⟩
theorem mx_lenO (hm : (i, c) ∈ μ) (hp : P (.int (c.length : Nat))) : MX K js (tCB (rLenS K) (tCons (tVar i) tNil)) ρ μ P := fun j G0 H0 σ G H m Q q => by
  obtain ⟨as, ow⟩ := m.own
  obtain ⟨a, ws, _, e1, e2, e3, _, _⟩ := ow.mem hm
  exact ⟨.ref a, e1, a, ws, rfl, .inl (.inl (.inl e2)), q _ G H _ m .refl (by rw [dpa_len e3]; exact .int _) hp⟩
end
/-! ### statements -/
/-- what a statement may come to: N where it goes on, R what it gives -/
def MS (K : PySem.W.Frag) (js : Option Nat) (ts : TS) (ρ : En) (μ : Own) (N : En → Own → Prop) (R : PyData → Prop) : Prop :=
  ∀ (D : Ends) (j : Addr) (G0 H0 : Hp) (σ : L2.St) (G H : Hp), MD K js j G0 H0 σ G H ρ μ →
    (∀ σ' G2 H2 ρ' μ', MD K js j G0 H0 σ' G2 H2 ρ' μ' → Same G G2 → N ρ' μ' → D.nx σ' H2) →
    (∀ v σ' G2 H2 ρ' μ' d, MD K js j G0 H0 σ' G2 H2 ρ' μ' → Dp K G2 v d → R d → D.rt v H2) → ts D σ H
section
variable {js : Option Nat} {ρ ρ1 : En} {μ : Own} {te ta tb : TE} {tt tu : TT} {t u : TS} {P P1 P2 R : PyData → Prop} {N N1 : En → Own → Prop} {d : PyData} {c ds : List PyData} {i : Nat}
theorem ms_seq (h : MS K js t ρ μ N1 R) (h2 : ∀ ρ' μ', N1 ρ' μ' → MS K js u ρ' μ' N R) : MS K js (tSeq t u) ρ μ N R := fun D j G0 H0 σ G H m n r =>
  h { D with nx := u D } j G0 H0 σ G H m (fun σ' G2 H2 ρ' μ' m2 s2 hn => h2 ρ' μ' hn D j G0 H0 σ' G2 H2 m2 (fun σ3 G3 H3 ρ3 μ3 m3 s3 hn3 => n σ3 G3 H3 ρ3 μ3 m3 (s2.trans s3) hn3) r) r
theorem ms_if {PB : Bool → Prop} (h : MT K js tt ρ μ PB) (h1 : PB true → MS K js t ρ μ N R) (h2 : PB false → MS K js u ρ μ N R) : MS K js (tIfS tt t u) ρ μ N R := fun D j G0 H0 σ G H m n r =>
  h j G0 H0 σ G H m _ fun b G2 H2 m2 s2 pb => by
    have n' := fun σ3 G3 H3 ρ3 μ3 m3 s3 hn3 => n σ3 G3 H3 ρ3 μ3 m3 ((s2.same m).trans s3) hn3
    cases b with
    | true => exact iteT (h1 pb D j G0 H0 σ G2 H2 m2 n' r)
    | false => exact iteF (h2 pb D j G0 H0 σ G2 H2 m2 n' r)
theorem ms_ifS {PB : Bool → Prop} (h : MT K js tt ρ μ PB) (h1 : PB true → MS K js (tSeq t u) ρ μ N R) (h2 : PB false → MS K js (tSeq t' u) ρ μ N R) : MS K js (tSeq (tIfS tt t t') u) ρ μ N R := fun D j G0 H0 σ G H m n r =>
  h j G0 H0 σ G H m _ fun b G2 H2 m2 s2 pb => by
    have n' := fun σ3 G3 H3 ρ3 μ3 m3 s3 hn3 => n σ3 G3 H3 ρ3 μ3 m3 ((s2.same m).trans s3) hn3
    cases b with
    | true => exact iteT (h1 pb D j G0 H0 σ G2 H2 m2 n' r)
    | false => exact iteF (h2 pb D j G0 H0 σ G2 H2 m2 n' r)
theorem ms_ret (h : MX K js te ρ μ R) : MS K js (tRet te) ρ μ N R := fun D j G0 H0 σ G H m n r => h j G0 H0 σ G H m _ fun v G2 H2 d m2 _ dv pd => r v σ G2 H2 ρ μ d m2 dv pd
theorem ms_rt (h : MS K js t ρ μ (fun _ _ => False) R) : MS K js (tSeq t u) ρ μ N R := fun D j G0 H0 σ G H m n r =>
  h { D with nx := u D } j G0 H0 σ G H m (fun _ _ _ _ _ _ _ hn => hn.elim) r
theorem ms_next (h : N ρ μ) : MS K js tNext ρ μ N R := fun D j G0 H0 σ G H m n r => n σ G H ρ μ m (Same.refl _) h
theorem ms_nxS (h : MS K js u ρ μ N R) : MS K js (tSeq tNext u) ρ μ N R := fun D j G0 H0 σ G H m n r => h D j G0 H0 σ G H m n r
theorem ms_drop (h : MX K js te ρ μ P) (hn : N ρ μ) : MS K js (tDrop te) ρ μ N R := fun D j G0 H0 σ G H m n r => h j G0 H0 σ G H m _ fun v G2 H2 d m2 s2 _ _ => n σ G2 H2 ρ μ m2 (s2.same m) hn
theorem ms_freeze (h : MS K js t (ρ.set i (some (.list c))) μ N R) : MS K js t ρ ((i, c) :: μ) N R := fun D j G0 H0 σ G H m n r =>
  let ⟨G2, m2, s2⟩ := m.freeze
  h D j G0 H0 σ G2 H m2 (fun σ3 G3 H3 ρ3 μ3 m3 s3 hn3 => n σ3 G3 H3 ρ3 μ3 m3 (s2.trans s3) hn3) r
theorem ms_asg {g : TG} {is : List Nat} {ρ' : PyData → En} (h : MX K js te ρ μ P) (hg : ∀ d, P d → EvG K g d ρ (ρ' d) is) (h1 : ∀ p ∈ μ, p.1 ∉ is) (h2 : ∀ i, js = some i → i ∉ is) (hn : ∀ d, P d → N (ρ' d) μ) : MS K js (tAsg te g) ρ μ N R := fun D j G0 H0 σ G H m n r =>
  h j G0 H0 σ G H m _ fun v G2 H2 d m2 s2 dv pd => hg d pd v σ G2 H2 m2.sub dv m2.sd _ fun σ' sd' _ k => n σ' G2 H2 (ρ' d) μ (m2.slots sd' k h1 h2) (s2.same m) (hn d pd)
theorem ms_set (h : MX K js te ρ μ P) (h1 : ∀ p ∈ μ, p.1 ≠ i) (h2 : js ≠ some i) (hn : ∀ d, P d → N (ρ.set i (some d)) μ) : MS K js (tAsg te (gName i)) ρ μ N R :=
  ms_asg (ρ' := fun d => ρ.set i (some d)) h (fun d _ => eg_name) (fun p hp z => h1 p hp (List.mem_singleton.mp z)) (fun k hk z => h2 (by rw [hk, List.mem_singleton.mp z])) hn
theorem MD.set2 {j : Addr} {G0 H0 : Hp} {σ : L2.St} {G H : Hp} {v : V} (m : MD K js j G0 H0 σ G H ρ μ) (dv : Dp K G v d) (h1 : ∀ p ∈ μ, p.1 ≠ i) (h2 : js ≠ some i) : MD K js j G0 H0 (σ.set i (some v)) G H (ρ.set i (some d)) μ :=
  m.slots (is := [i]) (m.sd.set dv) (fun k hk => List.getElem?_set_ne fun z => hk (by rw [z]; exact List.mem_singleton.mpr rfl)) (fun p hp z => h1 p hp (List.mem_singleton.mp z)) (fun k hk z => h2 (by rw [hk, List.mem_singleton.mp z]))
theorem ms_par {i k : Nat} {tA : TA} {PL : List PyData → Prop} (h : MA K js tA ρ μ PL) (hp : ∀ l, PL l → ∃ x y, l = [x, y] ∧ N ((ρ.set i (some x)).set k (some y)) μ) (h1 : ∀ p ∈ μ, p.1 ≠ i ∧ p.1 ≠ k) (h2 : js ≠ some i ∧ js ≠ some k) : MS K js (tPar i k tA) ρ μ N R := fun D j G0 H0 σ G H m n r =>
  h j G0 H0 σ G H m _ fun vs G2 H2 l m2 s2 dvs pl => by
    obtain ⟨x, y, rfl, hn⟩ := hp l pl
    cases dvs with
    | cons d1 d2 =>
    cases d2 with
    | cons d2 d3 =>
    cases d3
    exact ⟨_, _, rfl, n _ G2 H2 _ _ ((m2.set2 d1 (fun p hp => (h1 p hp).1) h2.1).set2 d2 (fun p hp => (h1 p hp).2) h2.2) (s2.same m) hn⟩
/-! a new list of one's own -/
/-- a list that is made anew here -/
def FX (K : PySem.W.Frag) (js : Option Nat) (te : TE) (ρ : En) (μ : Own) (C : List PyData → Prop) : Prop :=
  ∀ (j : Addr) (G0 H0 : Hp) (σ : L2.St) (G H : Hp), MD K js j G0 H0 σ G H ρ μ → ∀ Q : VK, (∀ a ws G2 H2 c as, MD K js j G0 H0 σ G2 H2 ρ μ → StpJ js j G H G2 H2 → Owns K σ G2 H2 H0 μ as → a ∉ as → H a = none → H2 a = some (.lst ws) → G2 a = none → H0 a = none → DpAll K G2 ws c → C c → Q (.ref a) H2) → te σ H Q
theorem MD.none0 {j : Addr} {G0 H0 : Hp} {σ : L2.St} {G H : Hp} (m : MD K js j G0 H0 σ G H ρ μ) {a : Addr} (h : H a = none) : H0 a = none ∧ G a = none := by
  constructor
  · cases e : H0 a with
    | none => rfl
    | some o =>
      exfalso
      by_cases q : js ≠ none → a ≠ j
      · rw [m.ext a o q e] at h; cases h
      · have q1 : js ≠ none ∧ a = j := ⟨fun z => q fun w => absurd z w, Classical.byContradiction fun z => q fun _ => z⟩
        obtain ⟨i, hi⟩ := Option.ne_none_iff_exists'.mp q1.1
        obtain ⟨_, ⟨x, y, _, e'⟩, _⟩ := m.jug i hi
        rw [q1.2, e'] at h; cases h
  · cases e : G a with
    | none => rfl
    | some o => rw [m.sub a o e] at h; cases h
theorem Owns.here {σ : L2.St} {G H H0 : Hp} : ∀ {μ : Own} {as : List Addr}, Owns K σ G H H0 μ as → ∀ b ∈ as, H b ≠ none
  | [], [], _, _, hb => nomatch hb
  | (i, c) :: μ, a :: as, ⟨⟨_, ⟨ws, e, _⟩, _⟩, r⟩, b, hb => by
    rcases List.mem_cons.mp hb with rfl | hb
    · rw [e]; simp
    · exact Owns.here r b hb
/-- a new list is laid -/
theorem MD.laid {j : Addr} {G0 H0 : Hp} {σ : L2.St} {G H : Hp} {a : Addr} {o : HO} (m : MD K js j G0 H0 σ G H ρ μ) (ha : H a = none) : MD K js j G0 H0 σ G (upd H a o) ρ μ where
  sub := fun b u e => by rw [upd_ne (ne_of_none (m.sub b u e) ha)]; exact m.sub b u e
  sd := m.sd
  ext := fun b u hb e => by rw [upd_ne (ne_of_none (m.ext b u hb e) ha)]; exact m.ext b u hb e
  old := m.old
  own := let ⟨as, ow⟩ := m.own; ⟨as, ow.upd_out fun z => ow.here a z ha⟩
  jug := fun k hk => let ⟨k1, ⟨x, y, k2, e⟩, k3⟩ := m.jug k hk; ⟨k1, ⟨x, y, k2, by rw [upd_ne (ne_of_none e ha)]; exact e⟩, k3⟩
theorem fx_lst {tA : TA} {PL : List PyData → Prop} (h : MA K js tA ρ μ PL) (hz : ∀ l, PL l → l.length ≤ sizeLine) : FX K js (tLst tA) ρ μ PL := fun j G0 H0 σ G H m Q q =>
  h j G0 H0 σ G H m _ fun vs G2 H2 l m2 s2 dvs pl => ⟨by rw [dpa_len dvs]; exact hz l pl, fun a ha => by
    obtain ⟨as, ow⟩ := m2.own
    have na : a ∉ as := fun z => ow.here a z ha
    have st : StpJ js j G H G2 (upd H2 a (.lst vs)) := ⟨fun b o hb e => by
      have := s2.ext b o hb e
      rw [upd_ne (ne_of_none this ha)]; exact this, s2.old⟩
    have hH : H a = none := by
      cases e : H a with
      | none => rfl
      | some o =>
        exfalso
        by_cases q : js ≠ none → a ≠ j
        · rw [s2.ext a o q e] at ha; cases ha
        · have q1 : js ≠ none ∧ a = j := ⟨fun z => q fun w => absurd z w, Classical.byContradiction fun z => q fun _ => z⟩
          obtain ⟨i, hi⟩ := Option.ne_none_iff_exists'.mp q1.1
          obtain ⟨_, ⟨x, y, _, e'⟩, _⟩ := m2.jug i hi
          rw [q1.2, e'] at ha; cases ha
    exact q a vs G2 _ l as (m2.laid ha) st (ow.upd_out na) na hH upd_same (m2.none0 ha).2 (m2.none0 ha).1 dvs pl⟩
/-- a new list may be told as data -/
theorem mx_fx {C : List PyData → Prop} (h : FX K js te ρ μ C) (hp : ∀ c, C c → P (.list c)) : MX K js te ρ μ P := fun j G0 H0 σ G H m Q q =>
  h j G0 H0 σ G H m _ fun a ws G2 H2 c as m2 s2 ow na hH e1 e2 e3 dv hc => by
    have sm : Same G2 (upd G2 a (.lst ws)) := fun b o e => by rw [upd_ne fun z => by rw [z, e2] at e; cases e]; exact e
    refine q (.ref a) (upd G2 a (.lst ws)) H2 (.list c) ⟨fun b o e => ?_, m2.sd.mono sm, m2.ext, fun b hb => ?_, ⟨as, ow.upd_G sm na⟩, fun k hk => ?_⟩ ⟨s2.ext, fun b hb h0 => ?_⟩ (.lst (.inl (.inl upd_same)) (dpa_mono sm _ _ dv)) (hp c hc)
    · by_cases z : b = a
      · subst z; rw [upd_same] at e; rw [e1, e]
      · rw [upd_ne z] at e; exact m2.sub b o e
    · rw [upd_ne fun z => hb (by rw [z]; exact e3)]
      exact m2.old b hb
    · obtain ⟨k1, k2, k3, k4⟩ := m2.jug k hk
      exact ⟨k1, k2, by rw [upd_ne fun z => k4 (by rw [z]; exact e3)]; exact k3, k4⟩
    · rw [upd_ne fun z => h0 (by rw [z]; exact hH)]
      exact s2.old b hb h0
/-- the new list's slot -/
theorem MD.take {j : Addr} {G0 H0 : Hp} {σ : L2.St} {G H : Hp} {a : Addr} {ws : List V} {as : List Addr} (m : MD K js j G0 H0 σ G H ρ μ) (ow : Owns K σ G H H0 μ as) (na : a ∉ as) (ha : H a = some (.lst ws)) (hg : G a = none) (h0 : H0 a = none) (dv : DpAll K G ws c) (hi : i < ρ.length) (h1 : ∀ p ∈ μ, p.1 ≠ i) (h2 : js ≠ some i) :
    MD K js j G0 H0 (σ.set i (some (.ref a))) G H (ρ.set i none) ((i, c) :: μ) := by
  refine ⟨m.sub, m.sd.forget _, m.ext, m.old, ⟨a :: as, ⟨⟨?_, ⟨ws, ha, dv⟩, hg, h0, na⟩, ?_⟩⟩, fun k hk => ?_⟩
  · rw [List.getElem?_set_self (by rw [m.sd.1]; exact hi)]
  · exact ow.slots fun p hp => List.getElem?_set_ne (Ne.symm (h1 p hp))
  · obtain ⟨k1, k2⟩ := m.jug k hk
    refine ⟨?_, k2⟩
    rw [List.getElem?_set_ne fun z => h2 (by rw [hk, z])]
    exact k1
theorem ms_own {C : List PyData → Prop} (h : FX K js te ρ μ C) (hi : i < ρ.length) (h1 : ∀ p ∈ μ, p.1 ≠ i) (h2 : js ≠ some i) (hn : ∀ c, C c → N (ρ.set i none) ((i, c) :: μ)) : MS K js (tAsg te (gName i)) ρ μ N R := fun D j G0 H0 σ G H m n r =>
  h j G0 H0 σ G H m _ fun a ws G2 H2 c as m2 s2 ow na hH ha hg h0 dv hc => n _ G2 _ _ _ (m2.take ow na ha hg h0 dv hi h1 h2) (s2.same m) (hn c hc)
/-! a list of one's own, rewritten -/
theorem MD.write {j : Addr} {G0 H0 : Hp} {σ : L2.St} {G H : Hp} {c' : List PyData} : ∀ {μ : Own} {as : List Addr}, Owns K σ G H H0 μ as → (i, c) ∈ μ → (∀ p ∈ μ, p.1 = i → p.2 = c) → ∃ a ws, H a = some (.lst ws) ∧ σ[i]? = some (some (.ref a)) ∧ DpAll K G ws c ∧ G a = none ∧ H0 a = none ∧
    ∀ ws', DpAll K G ws' c' → Owns K σ G (upd H a (.lst ws')) H0 (μ.map fun p => if p.1 = i then (i, c') else p) as
  | (k, x) :: μ, a :: as, ⟨⟨h1, ⟨ws, h2, h3⟩, h4, h5, h6⟩, r⟩, hm, hu => by
    by_cases e : k = i
    · subst e
      have ex : x = c := hu _ List.mem_cons_self rfl
      subst ex
      refine ⟨a, ws, h2, h1, h3, h4, h5, fun ws' dw => ?_⟩
      have nk : ∀ p ∈ μ, p.1 = k → False := fun p hp z => by
        obtain ⟨b, ws2, hb, f1, _⟩ := r.mem (i := p.1) (c := p.2) hp
        rw [z, h1] at f1
        cases f1
        exact h6 hb
      have em : μ.map (fun p => if p.1 = k then (k, c') else p) = μ := by
        have : ∀ p ∈ μ, (fun p : Nat × List PyData => if p.1 = k then (k, c') else p) p = p := fun p hp => if_neg fun z => nk p hp z
        rw [List.map_congr_left this]
        simp
      rw [List.map_cons, if_pos rfl, em]
      exact ⟨⟨h1, ⟨ws', upd_same, dw⟩, h4, h5, h6⟩, r.upd_out h6⟩
    · have hm' : (i, c) ∈ μ := by
        rcases List.mem_cons.mp hm with z | z
        · exact absurd (congrArg Prod.fst z).symm e
        · exact z
      obtain ⟨b, ws2, g1, g2, g3, g4, g5, g6⟩ := MD.write (j := j) (G0 := G0) (c' := c') r hm' fun p hp => hu p (List.mem_cons_of_mem _ hp)
      refine ⟨b, ws2, g1, g2, g3, g4, g5, fun ws' dw => ?_⟩
      rw [List.map_cons, if_neg e]
      have nb : a ≠ b := by
        rintro rfl
        obtain ⟨a2, ws3, ha2, f1, _⟩ := r.mem hm'
        rw [g2] at f1
        cases f1
        exact h6 ha2
      exact ⟨⟨h1, ⟨ws, by rw [upd_ne nb]; exact h2, h3⟩, h4, h5, h6⟩, g6 ws' dw⟩
theorem MD.rewrite {j : Addr} {G0 H0 : Hp} {σ : L2.St} {G H : Hp} {c' : List PyData} (m : MD K js j G0 H0 σ G H ρ μ) (hm : (i, c) ∈ μ) (hu : ∀ p ∈ μ, p.1 = i → p.2 = c) : ∃ a ws, H a = some (.lst ws) ∧ σ[i]? = some (some (.ref a)) ∧ DpAll K G ws c ∧
    ∀ ws', DpAll K G ws' c' → MD K js j G0 H0 σ G (upd H a (.lst ws')) ρ (μ.map fun p => if p.1 = i then (i, c') else p) := by
  obtain ⟨as, ow⟩ := m.own
  obtain ⟨a, ws, g1, g2, g3, g4, g5, g6⟩ := MD.write (j := j) (G0 := G0) (c' := c') ow hm hu
  refine ⟨a, ws, g1, g2, g3, fun ws' dw => ⟨fun b o e => ?_, m.sd, fun b o hb e => ?_, m.old, ⟨as, g6 ws' dw⟩, fun k hk => ?_⟩⟩
  · rw [upd_ne fun z => by rw [z, g4] at e; cases e]; exact m.sub b o e
  · rw [upd_ne fun z => by rw [z, g5] at e; cases e]; exact m.ext b o hb e
  · obtain ⟨k1, ⟨x, y, k2, e⟩, k3, k4⟩ := m.jug k hk
    exact ⟨k1, ⟨x, y, k2, by rw [upd_ne fun z => k4 (by rw [z]; exact g5)]; exact e⟩, k3, k4⟩
/-- found.append(e) -/
theorem ms_append (hm : (i, c) ∈ μ) (hu : ∀ p ∈ μ, p.1 = i → p.2 = c) (h : MX K js te ρ μ P) (hz : c.length < sizeLine) (hn : ∀ d, P d → N ρ (μ.map fun p => if p.1 = i then (i, c ++ [d]) else p)) :
    MS K js (tDrop (tBM K "list" rAppend (tVar i) (tCons te tNil))) ρ μ N R := fun D j G0 H0 σ G H m n r => by
  obtain ⟨as, ow⟩ := m.own
  obtain ⟨a, ws, _, e1, e2, _⟩ := ow.mem hm
  refine ⟨.ref a, e1, .inl ⟨rfl, ws, .inl (.inl e2)⟩, h j G0 H0 σ G H m _ fun v G2 H2 d m2 s2 dv pd => ?_⟩
  obtain ⟨b, ws2, f1, f2, f3, f4⟩ := m2.rewrite (c' := c ++ [d]) hm hu
  rw [e1] at f2
  cases f2
  exact ⟨a, ws2, v, rfl, rfl, f1, by rw [dpa_len f3]; exact hz, n σ G2 _ _ _ (f4 _ (dpa_app f3 (.cons dv .nil))) (s2.same m) (hn d pd)⟩
theorem dpa_set {H : Hp} : ∀ {vs : List V} {ds : List PyData} {v : V} {d : PyData} (k : Nat), DpAll K H vs ds → Dp K H v d → DpAll K H (vs.set k v) (ds.set k d)
  | _, _, _, _, _, .nil, _ => .nil
  | _, _, _, _, 0, .cons _ t, h => .cons h t
  | _, _, _, _, k + 1, .cons a t, h => .cons a (dpa_set k t h)
/-- found[k] = e -/
theorem ms_setO {ti : TE} {PI : PyData → Prop} (hm : (i, c) ∈ μ) (hu : ∀ p ∈ μ, p.1 = i → p.2 = c) (h : MX K js te ρ μ P) (hi : MX K js ti ρ μ PI) (hp : ∀ d x, P d → PI x → ∃ k : Nat, x = .int (k : Nat) ∧ k < c.length ∧ N ρ (μ.map fun p => if p.1 = i then (i, c.set k d) else p)) :
    MS K js (tAsg te (gSub (tVar i) ti rSetL)) ρ μ N R := fun D j G0 H0 σ G H m n r =>
  h j G0 H0 σ G H m _ fun v G2 H2 d m2 s2 dv pd => by
    obtain ⟨as, ow⟩ := m2.own
    obtain ⟨a, ws, _, e1, e2, _⟩ := ow.mem hm
    refine ⟨.ref a, e1, hi j G0 H0 σ G2 H2 m2 _ fun w G3 H3 x m3 s3 dw px => ?_⟩
    obtain ⟨k, rfl, hk, hn⟩ := hp d x pd px
    obtain ⟨b, ws2, f1, f2, f3, f4⟩ := m3.rewrite (c' := c.set k d) hm hu
    rw [e1] at f2
    cases f2
    refine ⟨a, ws2, k, k, rfl, dp_int dw, f1, ?_, n σ G3 _ _ _ (f4 _ (dpa_set k f3 (dp_mono (s3.same m2) _ _ dv))) ((s2.same m).trans (s3.same m2)) hn⟩
    unfold ixN
    rw [dpa_len f3, if_pos (by omega), if_pos (by omega), Int.toNat_natCast]
end
end KD

/-! KU: loops, comprehensions, calls with the jug, promises. -/
namespace KD
open PySem L2 PySem.Spec PyProof.Rows K27
variable {K : PySem.W.Frag}
section
variable {js : Option Nat} {ρ ρ1 : En} {μ : Own} {te ta tb : TE} {tt tu : TT} {t u : TS} {P P1 P2 R : PyData → Prop} {N N1 : En → Own → Prop} {d : PyData} {c ds : List PyData} {i : Nat} {wi : TI} {g : TG}
theorem ms_for {tb : TS} (h : EvI K wi ρ ds) (I : List PyData → En → Own → Prop) (h0 : I ds ρ μ)
    (step : ∀ d r ρ μ, I (d :: r) ρ μ → ∃ ρ1 is, EvG K g d ρ ρ1 is ∧ (∀ p ∈ μ, p.1 ∉ is) ∧ (∀ i, js = some i → i ∉ is) ∧ MS K js tb ρ1 μ (fun ρ' μ' => I r ρ' μ') R) (done : ∀ ρ μ, I [] ρ μ → N ρ μ) : MS K js (tFor wi g tb) ρ μ N R := fun D j G0 H0 σ G H m n r =>
  h σ G H m.sub m.sd _ fun J G1 H1 s hJ => by
    refine ⟨fun i k σ' H' => k = ds.length - i ∧ i ≤ ds.length ∧ ∃ G' ρ' μ', MD K js j G0 H0 σ' G' H' ρ' μ' ∧ Same G1 G' ∧ I (ds.drop i) ρ' μ', ⟨ds.length, by simp, Nat.zero_le _, G1, ρ, μ, m.stp s, Same.refl _, h0⟩, ?_⟩
    rintro i k σ' H' ⟨rfl, hi, G', ρ', μ', m', s', inv⟩
    have J' := hJ i G' H' s' m'.sub
    by_cases hlt : i < ds.length
    · obtain ⟨hgo, hy⟩ := J'.1 hlt
      refine .inr ⟨hgo, fun σ2 H2 => i + 1 ≤ ds.length ∧ ∃ G2 ρ2 μ2, MD K js j G0 H0 σ2 G2 H2 ρ2 μ2 ∧ Same G1 G2 ∧ I (ds.drop (i + 1)) ρ2 μ2, fun σ2 H2 q => ⟨ds.length - (i + 1), by omega, rfl, q⟩, fun v H2 y => ?_⟩
      obtain ⟨G2, d, s2, e, dv⟩ := hy v H2 y
      have e' : ds.drop i = d :: ds.drop (i + 1) := by
        rw [List.drop_eq_getElem_cons hlt]
        rw [List.getElem?_eq_getElem hlt] at e
        cases e
        rfl
      rw [e'] at inv
      obtain ⟨ρ1, is, hg, f1, f2, hb⟩ := step d _ ρ' μ' inv
      have m2 := m'.stp s2
      have sm2 := s'.trans (s2.up m'.sub)
      refine hg v σ' G2 H2 m2.sub dv m2.sd _ fun σ2 hd2 _ k2 => hb _ j G0 H0 σ2 G2 H2 (m2.slots hd2 k2 f1 f2) (fun σ3 G3 H3 ρ3 μ3 m3 s3 hn => ⟨hlt, G3, ρ3, μ3, m3, sm2.trans s3, hn⟩) r
    · have e : i = ds.length := by omega
      subst e
      rw [List.drop_length] at inv
      exact .inl ⟨J'.2 rfl, n σ' G' H' ρ' μ' m' ((s.up m.sub).trans s') (done ρ' μ' inv)⟩
theorem wipe_at {σ : L2.St} {vs : List Nat} {i : Nat} (h : i ∉ vs) : (wipe σ vs)[i]? = σ[i]? := wipe_out h
theorem fx_lc {vs : List Nat} {C : List PyData → Prop} (h : EvI K wi ρ ds) (hv1 : ∀ p ∈ μ, p.1 ∉ vs) (hv2 : ∀ i, js = some i → i ∉ vs) (I : List PyData → List PyData → Prop) (h0 : I ds [])
    (step : ∀ d r acc, I (d :: r) acc → ∃ ρ1 is, EvG K g d (wipeE ρ vs) ρ1 is ∧ (∀ i ∈ is, i ∈ vs) ∧ ∃ (PB : Bool → Prop) (PE : PyData → Prop), MT K js tt ρ1 μ PB ∧ (PB true → MX K js te ρ1 μ PE) ∧ (∀ e, PB true → PE e → I r (acc ++ [e])) ∧ (PB false → I r acc))
    (done : ∀ acc, I [] acc → C acc) (hz : ds.length ≤ sizeLine) : FX K js (tLc wi g tt te vs) ρ μ C := fun j G0 H0 σ G H m Q q =>
  h σ G H m.sub m.sd _ fun J G1 H1 s hJ D hD => by
    have m1 := m.stp s
    obtain ⟨hD0, hDG⟩ := m1.none0 hD
    have hDH : H D = none := by
      cases e : H D with
      | none => rfl
      | some o => rw [s.ext D o e] at hD; cases hD
    obtain ⟨as, ow⟩ := m1.own
    have na : D ∉ as := fun z => ow.here D z hD
    refine ⟨fun i n H' => n = ds.length - i ∧ i ≤ ds.length ∧ ∃ G' acc ws as, MD K js j G0 H0 σ G' H' ρ μ ∧ StpJ js j G H G' H' ∧ Owns K σ G' H' H0 μ as ∧ D ∉ as ∧ Same G1 G' ∧ H' D = some (.lst ws) ∧ G' D = none ∧ DpAll K G' ws acc ∧ acc.length ≤ i ∧ I (ds.drop i) acc,
      ⟨ds.length, by simp, Nat.zero_le _, G1, [], [], as, m1.laid hD, ⟨fun b o hb e => by rw [upd_ne (ne_of_none (s.ext b o e) hD)]; exact s.ext b o e, fun b _ hb => s.old b hb⟩, ow.upd_out na, na, Same.refl _, upd_same, hDG, .nil, Nat.le_refl _, h0⟩, ?_⟩
    rintro i n H' ⟨rfl, hi, G', acc, ws, as', m', sj, ow', na', sm, e1, e2, e3, e4, inv⟩
    have J' := hJ i G' H' sm m'.sub
    by_cases hlt : i < ds.length
    · obtain ⟨hgo, hy⟩ := J'.1 hlt
      refine .inr ⟨hgo, fun H2 => i + 1 ≤ ds.length ∧ ∃ G' acc ws as, MD K js j G0 H0 σ G' H2 ρ μ ∧ StpJ js j G H G' H2 ∧ Owns K σ G' H2 H0 μ as ∧ D ∉ as ∧ Same G1 G' ∧ H2 D = some (.lst ws) ∧ G' D = none ∧ DpAll K G' ws acc ∧ acc.length ≤ i + 1 ∧ I (ds.drop (i + 1)) acc, fun H2 z => ⟨ds.length - (i + 1), by omega, rfl, z⟩, fun v H2 y => ?_⟩
      obtain ⟨G2, d, s2, e, dv⟩ := hy v H2 y
      have e' : ds.drop i = d :: ds.drop (i + 1) := by
        rw [List.drop_eq_getElem_cons hlt]
        rw [List.getElem?_eq_getElem hlt] at e
        cases e
        rfl
      rw [e'] at inv
      obtain ⟨ρ1, is, hg, hin, PB, PE, ht, he, f1, f2⟩ := step d _ acc inv
      have m2 := m'.stp s2
      have nD : H' D ≠ none := by rw [e1]; simp
      have jD : js ≠ none → D ≠ j := fun hz z => by
        obtain ⟨k, hk⟩ := Option.ne_none_iff_exists'.mp hz
        exact (m.jug k hk).2.2.2 (by rw [← z]; exact hD0)
      refine hg v (wipe σ vs) G2 H2 m2.sub dv (m2.sd.wipe vs) _ fun σ2 hd2 l2 k2 => ?_
      have side : wipe σ2 vs = wipe σ vs := by
        rw [wipe_in l2 (vs := vs) fun i hi => k2 i fun z => hi (hin i z)]
        exact wipe_in (wipe_length σ vs) fun i hi => wipe_out hi
      have mm : MD K js j G0 H0 σ2 G2 H2 ρ1 μ := m2.slots (is := vs) hd2 (fun i hi => by rw [k2 i fun z => hi (hin i z), wipe_out hi]) hv1 hv2
      have back : ∀ {G3 H3}, MD K js j G0 H0 σ2 G3 H3 ρ1 μ → StpJ js j G2 H2 G3 H3 → MD K js j G0 H0 σ G3 H3 ρ μ := fun {G3 H3} m3 s3 =>
        ⟨m3.sub, m2.sd.mono (s3.same m2), m3.ext, m3.old, let ⟨as3, ow3⟩ := m3.own; ⟨as3, ow3.slots fun p hp => (by rw [k2 _ fun z => hv1 p hp (hin _ z), wipe_out (hv1 p hp)] : σ2[p.1]? = σ[p.1]?).symm⟩, fun k hk => let ⟨a, b⟩ := m3.jug k hk; ⟨(m.jug k hk).1, b⟩⟩
      refine ⟨side, ht j G0 H0 σ2 G2 H2 mm _ fun b G3 H3 m3 s3 pb => ?_⟩
      have sj3 : StpJ js j G' H' G3 H3 := (StpJ.of s2).trans s3
      cases b with
      | true =>
        refine iteT (he pb j G0 H0 σ2 G3 H3 m3 _ fun w G4 H4 x m4 s4 dw px => ?_)
        have sj4 := sj3.trans s4
        have mb := back m4 (s3.trans s4)
        have eD := sj4.ext D _ jD e1
        have gD : G4 D = none := by rw [sj4.old D jD nD]; exact e2
        have sm4 : Same G' G4 := sj4.same m'
        obtain ⟨as4, ow4⟩ := mb.own
        have na4 : D ∉ as4 := fun z => by
          have key : ∀ {μ : Own} {as : List Addr} {as2 : List Addr}, Owns K σ G' H' H0 μ as → Owns K σ G4 H4 H0 μ as2 → as = as2 := fun {μ} => by
            induction μ with
            | nil => intro as as2 o1 o2; cases as <;> cases as2 <;> first | rfl | exact o1.elim | exact o2.elim
            | cons p μ ih => intro as as2 o1 o2; cases as with
              | nil => exact o1.elim
              | cons a as => cases as2 with
                | nil => exact o2.elim
                | cons a2 as2 =>
                  obtain ⟨⟨q1, _⟩, r1⟩ := o1
                  obtain ⟨⟨q2, _⟩, r2⟩ := o2
                  rw [q1] at q2
                  cases q2
                  rw [ih r1 r2]
          rw [← key ow' ow4] at z
          exact na' z
        refine ⟨ws, eD, by rw [dpa_len e3]; exact Nat.lt_of_le_of_lt e4 (Nat.lt_of_lt_of_le hlt hz), hlt, G4, acc ++ [x], ws ++ [w], as4, ?_, ?_, ow4.upd_out na4, na4, sm.trans sm4, upd_same, gD, dpa_app (dpa_mono sm4 _ _ e3) (.cons dw .nil), by rw [List.length_append, List.length_singleton]; omega, f1 x pb px⟩
        · exact ⟨fun b o ex => by rw [upd_ne fun z => by rw [z, gD] at ex; cases ex]; exact mb.sub b o ex, mb.sd, fun b o hb ex => by rw [upd_ne fun z => by rw [z, hD0] at ex; cases ex]; exact mb.ext b o hb ex, mb.old, ⟨as4, ow4.upd_out na4⟩,
            fun k hk => let ⟨k1, ⟨x, y, k2, ex⟩, k3⟩ := mb.jug k hk; ⟨k1, ⟨x, y, k2, by rw [upd_ne fun z => jD (by rw [hk]; simp) z.symm]; exact ex⟩, k3⟩⟩
        · exact ⟨fun b o hb ex => by rw [upd_ne fun z => by rw [z, hDH] at ex; cases ex]; exact sj4.ext b o hb (sj.ext b o hb ex), fun b hb ex => by
            have : H' b ≠ none := by
              cases q : H b with
              | none => exact absurd q ex
              | some o => rw [sj.ext b o hb q]; simp
            rw [sj4.old b hb this, sj.old b hb ex]⟩
      | false =>
        refine iteF ?_
        have mb := back m3 s3
        have sm3 : Same G' G3 := sj3.same m'
        obtain ⟨as3, ow3⟩ := mb.own
        have na3 : D ∉ as3 := fun z => by
          have key : ∀ {μ : Own} {as : List Addr} {as2 : List Addr}, Owns K σ G' H' H0 μ as → Owns K σ G3 H3 H0 μ as2 → as = as2 := fun {μ} => by
            induction μ with
            | nil => intro as as2 o1 o2; cases as <;> cases as2 <;> first | rfl | exact o1.elim | exact o2.elim
            | cons p μ ih => intro as as2 o1 o2; cases as with
              | nil => exact o1.elim
              | cons a as => cases as2 with
                | nil => exact o2.elim
                | cons a2 as2 =>
                  obtain ⟨⟨q1, _⟩, r1⟩ := o1
                  obtain ⟨⟨q2, _⟩, r2⟩ := o2
                  rw [q1] at q2
                  cases q2
                  rw [ih r1 r2]
          rw [← key ow' ow3] at z
          exact na' z
        exact ⟨hlt, G3, acc, ws, as3, mb, sj.trans sj3, ow3, na3, sm.trans sm3, sj3.ext D _ jD e1, by rw [sj3.old D jD nD]; exact e2, dpa_mono sm3 _ _ e3, Nat.le_succ_of_le e4, f2 pb⟩
    · have e : i = ds.length := by omega
      subst e
      rw [List.drop_length] at inv
      exact .inl ⟨J'.2 rfl, q D ws G' H' acc as' m' sj ow' na' hDH e1 e2 hD0 e3 (done acc inv)⟩
end
/-! ### calls with the jug -/
def spJ (K : PySem.W.Frag) (F : List PyData → (PyData → Prop) → Prop) : Sp := fun vs H Q _ => ∃ (j : Addr) (rest : List V) (G : Hp) (ds : List PyData) (R : PyData → Prop), vs = .ref j :: rest ∧ Same G H ∧ DpAll K G rest ds ∧ JugAt H j ∧ G j = none ∧ F ds R ∧
  ∀ v G2 H2 d, Same G2 H2 → (∀ b o, b ≠ j → H b = some o → H2 b = some o) → (∀ b, b ≠ j → H b ≠ none → G2 b = G b) → JugAt H2 j → G2 j = none → Dp K G2 v d → R d → Q v H2
section
variable {ρ : En} {μ : Own} {P : PyData → Prop}
theorem mx_callJ {i : Nat} {F : List PyData → (PyData → Prop) → Prop} {E : XK} {tr : TA} {PL : List PyData → Prop} (h : MA K (some i) tr ρ μ PL) (hr : ∀ l, PL l → ∃ R, F l R ∧ ∀ z, R z → P z) : MX K (some i) (tCall (spJ K F) [] E (tCons (tVar i) tr)) ρ μ P := fun j G0 H0 σ G H m Q q => by
  refine ⟨.ref j, (m.jug i rfl).1, h j G0 H0 σ G H m _ fun vs G1 H1 l m1 s1 dvs pl => ?_⟩
  obtain ⟨R, hF, hP⟩ := hr l pl
  obtain ⟨k1, k2, k3, k4⟩ := m1.jug i rfl
  refine ⟨j, vs, G1, l, R, by rw [List.append_nil], m1.sub, dvs, k2, k3, hF, fun v G2 H2 d sub ext old jug gj dv hR => ?_⟩
  have sm : Same G1 G2 := fun b o e => by
    have bj : b ≠ j := fun z => by rw [z, k3] at e; cases e
    rw [old b bj (by rw [m1.sub b o e]; simp)]
    exact e
  have ow2 : ∀ {μ : Own} {as : List Addr}, Owns K σ G1 H1 H0 μ as → Owns K σ G2 H2 H0 μ as := fun {μ} => by
    induction μ with
    | nil => intro as o; cases as <;> first | trivial | exact o.elim
    | cons p μ ih => intro as o; cases as with
      | nil => exact o.elim
      | cons a as =>
        obtain ⟨⟨q1, ⟨ws, q2, q3⟩, q4, q5, q6⟩, r⟩ := o
        have aj : a ≠ j := fun z => k4 (by rw [← z]; exact q5)
        exact ⟨⟨q1, ⟨ws, ext a _ aj q2, dpa_mono sm _ _ q3⟩, by rw [old a aj (by rw [q2]; simp)]; exact q4, q5, q6⟩, ih r⟩
  refine q v G2 H2 d ⟨sub, m1.sd.mono sm, fun b o hb e => ext b o (hb (by simp)) (m1.ext b o hb e), fun b hb => ?_, let ⟨as, ow⟩ := m1.own; ⟨as, ow2 ow⟩, fun k hk => ?_⟩ (s1.trans ⟨fun b o hb e => ext b o (hb (by simp)) e, fun b hb e => old b (hb (by simp)) e⟩) dv (hP d hR)
  · by_cases bj : b = j
    · subst bj
      have : G1 b = G0 b := m1.old b hb
      rw [← this, k3, gj]
    · have : H1 b ≠ none := by
        cases e : H0 b with
        | none => exact absurd e hb
        | some o => rw [m1.ext b o (fun _ => bj) e]; simp
      rw [old b bj this, m1.old b hb]
  · cases hk
    exact ⟨k1, jug, gj, k4⟩
end
/-! ### promises -/
section
variable {P : Program} {w : World} {K : PySem.W.Frag} {mg : Str → Option Value} {base : Heap}
theorem sd_cons {σ : L2.St} {G : Hp} {ρ : En} {x : Option V} (h : SD K σ G ρ) : SD K (x :: σ) G (none :: ρ) := ⟨by rw [List.length_cons, List.length_cons, h.1], fun i d e => by
  cases i with
  | zero => cases e
  | succ i => exact h.2 i d e⟩
theorem rdyM_of {x : Str} {st : Stmt} {N ps : List Str} {k : Nat} {F : List PyData → PyData → Prop} (kn : Kn K mg x st ps) (S : FnScope N ps (defScope st)) (len : ∀ ds z, F ds z → ds.length = ps.length) (hN : ps.length ≤ N.length)
    (body : ∀ (f : Addr) (cdv : Value) (A : Around) (outer : List Env) (s : Shared) (H : Hp) (E : XK), Room k (A.deeper (envOfC x (defScope st) s.heap.objs.size f cdv)) → ∀ ds z, F ds z →
      ∃ t, PSs (cxOf CX0 P w K mg base N x (defScope st) f cdv A outer s H E).nox (defBody st) t ∧ MS K none t (startE N.length ds) [] (fun _ _ => False) (· = z)) :
    Rdy P w K mg base (k + 1) x ps (spP K F) := by
  obtain ⟨f, fd, hf, hm, hb⟩ := kn
  refine ⟨f, fd, hf.ok S (fun vs H Q E h => ?_) (fun cdv A outer s H vs Q E hr h => ?_), hm, hf.kp, hb⟩
  · obtain ⟨G, ds, z, hs, hd, hz, _⟩ := h
    rw [dpa_len hd, len ds z hz]
  · obtain ⟨G, ds, z, hs, hd, hz, q⟩ := h
    obtain ⟨t, ht, ev⟩ := body f cdv A outer s H E hr ds z hz
    refine ⟨t, ht, ev _ 0 G H _ G H ⟨hs, sd_start hd (by rw [len ds z hz]; exact hN), fun _ _ _ e => e, fun _ _ => rfl, ⟨[], trivial⟩, fun i h => nomatch h⟩ (fun _ _ _ _ _ _ _ hn => hn.elim) fun v σ' G2 H2 ρ' μ' d m dv e => ?_⟩
    subst e
    exact q v G2 H2 ⟨m.sub, fun b o e => m.ext b o (fun z => absurd rfl z) e, m.old⟩ dv
theorem rdyJ_of {x : Str} {st : Stmt} {N ps : List Str} {k : Nat} {F : List PyData → (PyData → Prop) → Prop} (kn : Kn K mg x st ps) (S : FnScope N ps (defScope st)) (len : ∀ ds R, F ds R → ds.length + 1 = ps.length) (hN : ps.length ≤ N.length)
    (body : ∀ (f : Addr) (cdv : Value) (A : Around) (outer : List Env) (s : Shared) (H : Hp) (E : XK), Room k (A.deeper (envOfC x (defScope st) s.heap.objs.size f cdv)) → ∀ ds R, F ds R →
      ∃ t, PSs (cxOf CX0 P w K mg base N x (defScope st) f cdv A outer s H E).nox (defBody st) t ∧ MS K (some 0) t (none :: startE (N.length - 1) ds) [] (fun _ _ => False) R) :
    Rdy P w K mg base (k + 1) x ps (spJ K F) := by
  obtain ⟨f, fd, hf, hm, hb⟩ := kn
  refine ⟨f, fd, hf.ok S (fun vs H Q E h => ?_) (fun cdv A outer s H vs Q E hr h => ?_), hm, hf.kp, hb⟩
  · obtain ⟨j, rest, G, ds, R, rfl, hs, hd, _, _, hz, _⟩ := h
    rw [List.length_cons, dpa_len hd, len ds R hz]
  · obtain ⟨j, rest, G, ds, R, rfl, hs, hd, hj, gj, hz, q⟩ := h
    obtain ⟨t, ht, ev⟩ := body f cdv A outer s H E hr ds R hz
    have hl := len ds R hz
    have hdl := dpa_len hd
    have sd : SD K (L2.start N (.ref j :: rest)) G (none :: startE (N.length - 1) ds) := by
      have e : L2.start N (.ref j :: rest) = some (.ref j) :: (rest.map some ++ List.replicate (N.length - 1 - rest.length) none) := by
        unfold L2.start
        rw [List.map_cons, List.cons_append, List.length_cons, Nat.sub_sub, Nat.add_comm 1]
      rw [e]
      refine sd_cons ?_
      have := sd_start (N := List.replicate (N.length - 1) default) hd (by rw [List.length_replicate]; omega)
      unfold L2.start at this
      rw [List.length_replicate] at this
      exact this
    obtain ⟨a, b, ok, ej⟩ := hj
    refine ⟨t, ht, ev _ j G H _ G H ⟨hs, sd, fun _ _ _ e => e, fun _ _ => rfl, ⟨[], trivial⟩, fun i h => ?_⟩ (fun _ _ _ _ _ _ _ hn => hn.elim) fun v σ' G2 H2 ρ' μ' d m dv hR => ?_⟩
    · cases h
      exact ⟨rfl, ⟨a, b, ok, ej⟩, gj, by rw [ej]; simp⟩
    · obtain ⟨_, k2, k3, _⟩ := m.jug 0 rfl
      exact q v G2 H2 d m.sub (fun b o hb e => m.ext b o (fun _ => hb) e) (fun b _ hb => m.old b hb) k2 k3 dv hR
end
end KD

/-! KT: the jug read and written; two own lists at once; three slots at once. -/
namespace KD
open PySem L2 PySem.Spec PyProof.Rows K27
variable {K : PySem.W.Frag}
section
variable {i : Nat} {js : Option Nat} {ρ : En} {μ : Own} {te ta tb : TE} {P P1 R : PyData → Prop} {N : En → Own → Prop} {k : Nat}
theorem mx_jug0 (h : ∀ a : Int, 0 ≤ a → a < 2 ^ 1300 → P (.int a)) : MX K (some i) (tOp (rIxL K) (tVar i) (tC (.int 0))) ρ μ P := fun j G0 H0 σ G H m Q q => by
  obtain ⟨k1, ⟨a, b, ⟨o1, o2, _, _⟩, e⟩, _, _⟩ := m.jug i rfl
  exact ⟨.ref j, k1, j, _, 0, .int a, rfl, rfl, .inl (.inl e), rfl, q _ G H _ m .refl (.int _) (h a o1 o2)⟩
theorem mx_jug1 (h : ∀ a : Int, 0 ≤ a → a < 2 ^ 64 → P (.int a)) : MX K (some i) (tOp (rIxL K) (tVar i) (tC (.int 1))) ρ μ P := fun j G0 H0 σ G H m Q q => by
  obtain ⟨k1, ⟨a, b, ⟨_, _, o1, o2⟩, e⟩, _, _⟩ := m.jug i rfl
  exact ⟨.ref j, k1, j, _, 1, .int b, rfl, rfl, .inl (.inl e), rfl, q _ G H _ m .refl (.int _) (h b o1 o2)⟩
theorem MD.setJug {j : Addr} {G0 H0 : Hp} {σ : L2.St} {G H : Hp} {a b : Int} (m : MD K (some i) j G0 H0 σ G H ρ μ) (ok : jugOk a b) : MD K (some i) j G0 H0 σ G (upd H j (.lst [.int a, .int b])) ρ μ := by
  obtain ⟨k1, k2, k3, k4⟩ := m.jug i rfl
  refine ⟨fun x o e => by rw [upd_ne fun z => by rw [z, k3] at e; cases e]; exact m.sub x o e, m.sd, fun x o hx e => by rw [upd_ne (hx (by simp))]; exact m.ext x o hx e, m.old, ?_, fun x hx => ?_⟩
  · obtain ⟨as, ow⟩ := m.own
    refine ⟨as, ow.upd_out fun z => ?_⟩
    have key : ∀ {μ : Own} {as : List Addr}, Owns K σ G H H0 μ as → ∀ x ∈ as, H0 x = none := fun {μ} => by
      induction μ with
      | nil => intro as o x hx; cases as with
        | nil => cases hx
        | cons _ _ => exact o.elim
      | cons p μ ih => intro as o x hx; cases as with
        | nil => cases hx
        | cons y as =>
          obtain ⟨⟨_, _, _, q, _⟩, r⟩ := o
          rcases List.mem_cons.mp hx with rfl | hx
          · exact q
          · exact ih r x hx
    exact k4 (key ow j z)
  · cases hx
    exact ⟨k1, ⟨a, b, ok, upd_same⟩, k3, k4⟩
theorem ms_jug0 (h : MX K (some i) te ρ μ P) (hp : ∀ d, P d → ∃ a : Int, d = .int a ∧ 0 ≤ a ∧ a < 2 ^ 1300) (hn : N ρ μ) : MS K (some i) (tAsg te (gSub (tVar i) (tC (.int 0)) rSetL)) ρ μ N R := fun D j G0 H0 σ G H m n r =>
  h j G0 H0 σ G H m _ fun v G2 H2 d m2 s2 dv pd => by
    obtain ⟨x, rfl, x1, x2⟩ := hp d pd
    have ev := dp_int dv
    subst ev
    obtain ⟨k1, ⟨a, b, ⟨o1, o2, o3, o4⟩, e⟩, k3, _⟩ := m2.jug i rfl
    exact ⟨.ref j, k1, j, _, 0, 0, rfl, rfl, e, rfl, n σ G2 _ _ _ (m2.setJug (a := x) (b := b) ⟨x1, x2, o3, o4⟩) (s2.same m) hn⟩
theorem ms_jug1 (h : MX K (some i) te ρ μ P) (hp : ∀ d, P d → ∃ a : Int, d = .int a ∧ 0 ≤ a ∧ a < 2 ^ 64) (hn : N ρ μ) : MS K (some i) (tAsg te (gSub (tVar i) (tC (.int 1)) rSetL)) ρ μ N R := fun D j G0 H0 σ G H m n r =>
  h j G0 H0 σ G H m _ fun v G2 H2 d m2 s2 dv pd => by
    obtain ⟨x, rfl, x1, x2⟩ := hp d pd
    have ev := dp_int dv
    subst ev
    obtain ⟨k1, ⟨a, b, ⟨o1, o2, o3, o4⟩, e⟩, k3, _⟩ := m2.jug i rfl
    exact ⟨.ref j, k1, j, _, 1, 1, rfl, rfl, e, rfl, n σ G2 _ _ _ (m2.setJug (a := a) (b := x) ⟨o1, o2, x1, x2⟩) (s2.same m) hn⟩
/-- two own lists at once -/
theorem Owns.stpJ {j : Addr} {σ : L2.St} {G H H0 G2 H2 : Hp} (s : StpJ js j G H G2 H2) (sm : Same G G2) (hj : js ≠ none → H0 j ≠ none) : ∀ {μ : Own} {as : List Addr}, Owns K σ G H H0 μ as → Owns K σ G2 H2 H0 μ as
  | [], [], _ => trivial
  | (i, c) :: μ, a :: as, ⟨⟨q1, ⟨ws, q2, q3⟩, q4, q5, q6⟩, r⟩ => by
    have aj : js ≠ none → a ≠ j := fun h z => hj h (by rw [← z]; exact q5)
    exact ⟨⟨q1, ⟨ws, s.ext a _ aj q2, dpa_mono sm _ _ q3⟩, by rw [s.old a aj (by rw [q2]; simp)]; exact q4, q5, q6⟩, Owns.stpJ s sm hj r⟩
theorem ms_own2 {C1 C2 : List PyData → Prop} (h : FX K js ta ρ μ C1) (h' : FX K js tb ρ μ C2) (hi : i < ρ.length) (hk : k < ρ.length) (hik : i ≠ k) (h1 : ∀ p ∈ μ, p.1 ≠ i ∧ p.1 ≠ k) (h2 : js ≠ some i ∧ js ≠ some k) (hn : ∀ c c', C1 c → C2 c' → N ((ρ.set i none).set k none) ((k, c') :: (i, c) :: μ)) :
    MS K js (tPar i k (tCons ta (tCons tb tNil))) ρ μ N R := fun D j G0 H0 σ G H m n r =>
  h j G0 H0 σ G H m _ fun a ws G1 H1 c as m1 s1 ow na hH ha hg h0 dv hc => h' j G0 H0 σ G1 H1 m1 _ fun a2 ws2 G2 H2 c' as2 m2 s2 ow2 na2 hH2 ha2 hg2 h02 dv2 hc' => by
    have hj : js ≠ none → H0 j ≠ none := fun z => by
      obtain ⟨x, hx⟩ := Option.ne_none_iff_exists'.mp z
      exact (m.jug x hx).2.2.2
    have aj : js ≠ none → a ≠ j := fun z q => hj z (by rw [← q]; exact h0)
    have owb : Owns K σ G2 H2 H0 μ as := Owns.stpJ s2 (s2.same m1) hj ow
    have a12 : a2 ≠ a := fun z => by rw [z, ha] at hH2; cases hH2
    have na2' : a2 ∉ as := fun z => (ow.here a2 z) hH2
    have hH1a : H2 a = some (.lst ws) := s2.ext a _ aj ha
    have hG2a : G2 a = none := by rw [s2.old a aj (by rw [ha]; simp)]; exact hg
    have mA := m2.take (i := i) owb na hH1a hG2a h0 (dpa_mono (s2.same m1) _ _ dv) hi (fun p hp => (h1 p hp).1) h2.1
    have owA : Owns K (σ.set i (some (.ref a))) G2 H2 H0 ((i, c) :: μ) (a :: as) := ⟨⟨by rw [List.getElem?_set_self (by rw [m2.sd.1]; exact hi)], ⟨ws, hH1a, dpa_mono (s2.same m1) _ _ dv⟩, hG2a, h0, na⟩, owb.slots fun p hp => List.getElem?_set_ne (Ne.symm (h1 p hp).1)⟩
    have mB := mA.take (i := k) owA (by simp [a12, na2']) ha2 hg2 h02 dv2 (by rw [List.length_set]; exact hk) (fun p hp => by
      rcases List.mem_cons.mp hp with rfl | hp
      · exact hik
      · exact (h1 p hp).2) h2.2
    exact ⟨_, _, rfl, n _ G2 _ _ _ mB ((s1.same m).trans (s2.same m1)) (hn c c' hc hc')⟩
theorem mx_ixO' {c : List PyData} {z : PyData} {x : Int} (hm : (i, c) ∈ μ) (h : MX K js ta ρ μ (· = .int x)) (e : atI c x = some z) : MX K js (tOp (rIxL K) (tVar i) ta) ρ μ (· = z) := mx_ixO hm h fun d hd => ⟨x, z, hd, e, rfl⟩
theorem mx_op' {r : R2} {x y z : PyData} (ha : MX K js ta ρ μ (· = x)) (hb : MX K js tb ρ μ (· = y)) (hr : RD K r x y z) : MX K js (tOp r ta tb) ρ μ (· = z) := mx_op ha hb fun a b ea eb => ⟨z, by rw [ea, eb]; exact hr, rfl⟩
theorem ma_cons' {tr : TA} {d : PyData} {l : List PyData} (ha : MX K js te ρ μ (· = d)) (hb : MA K js tr ρ μ (· = l)) : MA K js (tCons te tr) ρ μ (· = d :: l) := fun j G0 H0 σ G H m Q q =>
  ma_cons ha hb j G0 H0 σ G H m Q fun vs G2 H2 l m2 s2 dv ⟨d, ds, e, e1, e2⟩ => q vs G2 H2 l m2 s2 dv (by rw [e, e1, e2])
/-- (new list, data, data) unpacked -/
theorem ms_tup3 {C : List PyData → Prop} {x y : PyData} {l : Nat} (h : FX K js te ρ μ C) (ha : MX K js ta ρ μ (· = x)) (hb : MX K js tb ρ μ (· = y)) (hi : i < ρ.length) (hik : i ≠ k ∧ i ≠ l) (h1 : ∀ p ∈ μ, p.1 ≠ i ∧ p.1 ≠ k ∧ p.1 ≠ l) (h2 : js ≠ some i ∧ js ≠ some k ∧ js ≠ some l)
    (hn : ∀ c, C c → N (((ρ.set i none).set k (some x)).set l (some y)) ((i, c) :: μ)) :
    MS K js (tAsg (tTup (tCons te (tCons ta (tCons tb tNil)))) (gTup K 3 (gCons (gName i) (gCons (gName k) (gCons (gName l) gNil))))) ρ μ N R := fun D j G0 H0 σ G H m n r =>
  h j G0 H0 σ G H m _ fun a ws G1 H1 c as m1 s1 ow na hH ea hg h0 dv hc => ha j G0 H0 σ G1 H1 m1 _ fun v2 G2 H2 x' m2 s2 dx ex => hb j G0 H0 σ G2 H2 m2 _ fun v3 G3 H3 y' m3 s3 dy ey => by
    subst ex ey
    have hj : js ≠ none → H0 j ≠ none := fun z => by
      obtain ⟨t, ht⟩ := Option.ne_none_iff_exists'.mp z
      exact (m.jug t ht).2.2.2
    have aj : js ≠ none → a ≠ j := fun z q => hj z (by rw [← q]; exact h0)
    have s13 := s2.trans s3
    have sm13 : Same G1 G3 := s13.same m1
    have ow3 : Owns K σ G3 H3 H0 μ as := Owns.stpJ s13 sm13 hj ow
    have ea3 : H3 a = some (.lst ws) := s13.ext a _ aj ea
    have hg3 : G3 a = none := by rw [s13.old a aj (by rw [ea]; simp)]; exact hg
    refine ⟨by show 3 ≤ sizeLine; decide, fun p hp => ?_⟩
    have m4 := m3.laid (o := .tup [.ref a, v2, v3]) hp
    have ap : a ≠ p := fun z => by rw [z, hp] at ea3; cases ea3
    have ow4 := ow3.upd_out (b := p) (o := .tup [.ref a, v2, v3]) (fun z => ow3.here p z hp)
    have mA := m4.take (i := i) ow4 na (by rw [upd_ne ap]; exact ea3) hg3 h0 (dpa_mono sm13 _ _ dv) hi (fun p hp => (h1 p hp).1) h2.1
    have mB := mA.set2 (i := k) (dp_mono (s3.same m2) _ _ dx) (fun q hq => by
      rcases List.mem_cons.mp hq with rfl | hq
      · exact hik.1
      · exact (h1 q hq).2.1) h2.2.1
    have mC := mB.set2 (i := l) dy (fun q hq => by
      rcases List.mem_cons.mp hq with rfl | hq
      · exact hik.2
      · exact (h1 q hq).2.2) h2.2.2
    exact ⟨p, [.ref a, v2, v3], rfl, .inl (.inl upd_same), rfl, _, _, rfl, _, _, rfl, _, _, rfl, rfl, n _ G3 _ _ _ mC (((s1.same m).trans (s2.same m1)).trans (s3.same m2)) (hn c hc)⟩
end
end KD

/-! KF11: sips and picks. -/
namespace KD
open PySem L2 PySem.Spec PyProof.Rows K27
variable {K : PySem.W.Frag}
theorem rd_modN {i j : Int} (h : 0 < j) : RD K (rI (fun _ j => j ≠ 0) fun i j => .int (i.fmod j)) (.int i) (.int j) (.int (i % j)) := rd_i (by omega) fun G => by
  rw [Int.fmod_eq_emod_of_nonneg i (by omega)]; exact .int _
theorem rd_fdivW {i j : Int} (h : 0 < j) (h2 : j.natAbs.log2 < 9000) : RD K (rI CDivW fun i j => .int (i / j)) (.int i) (.int j) (.int (i / j)) := rd_i ⟨h, h2⟩ fun _ => .int _
theorem natAbs_log {k : Int} (n : Nat) (h0 : 0 ≤ k) (h : k < 2 ^ n) (hn : n ≤ 9000) (h1 : 0 < n) : k.natAbs.log2 < 9000 := by
  rcases Nat.eq_zero_or_pos k.natAbs with z | z
  · rw [z]; decide
  · have : k.natAbs < 2 ^ n := by
      have e : ((2 ^ n : Nat) : Int) = (2 : Int) ^ n := by norm_cast
      have : ((k.natAbs : Nat) : Int) < ((2 ^ n : Nat) : Int) := by rw [e]; omega
      exact Int.ofNat_lt.mp this
    have := (Nat.log2_lt (by omega)).mpr this
    omega

abbrev s__law_sip : Stmt := top 39
abbrev N__law_sip : List Str := ["jug", "total", "found"]
theorem sc__law_sip : FnScope N__law_sip ["jug", "total"] (defScope s__law_sip) := ⟨rfl, rfl, rfl, by decide +kernel, rfl, by decide +kernel, by decide +kernel⟩

theorem mod_nat {a : Int} {t : Nat} (h : 1 ≤ t) : ∃ n : Nat, n < t ∧ a % (t : Nat) = (n : Nat) := by
  have h1 := Int.emod_nonneg a (b := (t : Nat)) (by omega)
  have h2 := Int.emod_lt_of_pos a (b := (t : Nat)) (by omega)
  exact ⟨(a % (t : Nat)).toNat, by omega, by omega⟩

def F__law_sip : List PyData → (PyData → Prop) → Prop := fun ds R => ∃ (total : Nat), (1 ≤ total) ∧ (total ≤ 100000) ∧ ds = [.int total] ∧ R = fun z => ∃ n : Nat, n < total ∧ z = .int (n : Nat)
theorem I__law_sip {total : Nat} (p0 : 1 ≤ total) (p1 : total ≤ 100000) : F__law_sip [.int total] (fun z => ∃ n : Nat, n < total ∧ z = .int (n : Nat)) := ⟨total, p0, p1, rfl, rfl⟩
theorem R__law_sip {P : Program} {w : World} {K : PySem.W.Frag} {mg : Str → Option Value} {base : Heap} (T : Tx mg) (kn : Kn K mg "_law_sip" s__law_sip ["jug", "total"]) : Rdy P w K mg base 1 "_law_sip" ["jug", "total"] (spJ K F__law_sip) := by
  refine rdyJ_of kn sc__law_sip (fun ds z h => ?_) (by decide) (fun f cdv A outer s H E hr ds z h => ?_)
  · obtain ⟨total, p0, p1, rfl, rfl⟩ := h
    rfl
  obtain ⟨total, p0, p1, rfl, rfl⟩ := h
  refine ⟨_, (pss_cons (ps_if (pt_cmpR op_gt (pe_ix ix_list (pv 0) pe_int (fun _ _ => rfl)) pe_int (by first | rfl | exact nomark _)) (pss_cons (ps_set (i := 2) sc__law_sip.nd rfl (by first | exact Or.inl rfl | exact Or.inr rfl) (pe_op op_modN (pe_callTy call_int1 (by rfl) T.b_int bt_int (pa_cons (pe_ix ix_list (pv 0) pe_int (fun _ _ => rfl)) pa_nil)) (pv 1))) (pss_cons (ps_asg (pe_op op_fdivW (pe_ix ix_list (pv 0) pe_int (fun _ _ => rfl)) (pv 1)) (pg_sub (pv 0) pe_int set_list)) (pss_one (ps_ret (pv 2))))) pss_nil) (pss_cons (ps_asg (pe_op op_modN (pe_callTy call_int1 (by rfl) T.b_int bt_int (pa_cons (pe_op op_add (pe_op op_mul (pe_ix ix_list (pv 0) pe_int (fun _ _ => rfl)) pe_int) pe_int) pa_nil)) pe_int) (pg_sub (pv 0) pe_int set_list)) (pss_one (ps_ret (pe_op op_modN (pe_callTy call_int1 (by rfl) T.b_int bt_int (pa_cons (pe_op op_fdivW (pe_ix ix_list (pv 0) pe_int (fun _ _ => rfl)) pe_int) pa_nil)) (pv 1)))))), ?_⟩
  have lt : ((total : Nat) : Int).natAbs.log2 < 9000 := natAbs_log 20 (by omega) (by omega) (by decide) (by decide)
  refine ms_ifS (PB := fun _ => True) (mt_test (mx_op (P1 := fun d => ∃ a : Int, 0 ≤ a ∧ a < 2 ^ 1300 ∧ d = .int a) (P2 := (· = .int 0)) (mx_jug0 fun a h1 h2 => ⟨a, h1, h2, rfl⟩) (mx_of ev_int) ?_)) (fun _ => ms_rt ?_) (fun _ => ms_nxS ?_)
  · rintro x y ⟨a, h1, h2, rfl⟩ rfl
    exact ⟨_, rd_gt, _, rfl, trivial⟩
  · refine ms_seq (N1 := fun ρ' μ' => μ' = [] ∧ ∃ n : Nat, n < total ∧ ρ' = [none, some (.int (total : Nat)), some (.int (n : Nat))]) (ms_set (P := fun d => ∃ n : Nat, n < total ∧ d = .int (n : Nat)) (mx_op (P1 := fun d => ∃ a : Int, d = .int a) (P2 := (· = .int (total : Nat))) (mx_cb (PL := fun l => ∃ a : Int, l = [.int a]) ?_ ?_) (mx_of (ev_var rfl)) ?_) (by simp) (by decide) ?_) ?_
    · intro j G0 H0 σ G H m Q q
      exact ma_cons (mx_jug0 (P := fun d => ∃ a : Int, d = .int a) fun a _ _ => ⟨a, rfl⟩) ma_nil j G0 H0 σ G H m Q fun vs G2 H2 l m2 s2 dv ⟨d, ds, e, ⟨a, ea⟩, e2⟩ => q vs G2 H2 l m2 s2 dv ⟨a, by rw [e, ea, e2]⟩
    · rintro l ⟨a, rfl⟩
      exact ⟨_, rc_int, a, rfl⟩
    · rintro x y ⟨a, rfl⟩ rfl
      obtain ⟨n, hn, e⟩ := mod_nat (a := a) p0
      exact ⟨_, rd_modN (by omega), n, hn, by rw [e]⟩
    · rintro d ⟨n, hn, rfl⟩
      exact ⟨rfl, n, hn, rfl⟩
    · rintro ρ' μ' ⟨rfl, n, hn, rfl⟩
      refine ms_seq (N1 := fun ρ' μ' => μ' = [] ∧ ρ' = [none, some (.int (total : Nat)), some (.int (n : Nat))]) (ms_jug0 (P := fun d => ∃ a : Int, d = .int a ∧ 0 ≤ a ∧ a < 2 ^ 1300) (mx_op (P1 := fun d => ∃ a : Int, 0 ≤ a ∧ a < 2 ^ 1300 ∧ d = .int a) (P2 := (· = .int (total : Nat))) (mx_jug0 fun a h1 h2 => ⟨a, h1, h2, rfl⟩) (mx_of (ev_var rfl)) ?_) (fun d h => h) ⟨rfl, rfl⟩) ?_
      · rintro x y ⟨a, h1, h2, rfl⟩ rfl
        refine ⟨_, rd_fdivW (by omega) lt, _, rfl, Int.ediv_nonneg h1 (by omega), ?_⟩
        exact Int.lt_of_le_of_lt (Int.ediv_le_self _ h1) h2
      · rintro ρ' μ' ⟨rfl, rfl⟩
        exact ms_ret (mx_imp (mx_of (ev_var rfl)) fun d e => ⟨n, hn, e⟩)
  · refine ms_seq (N1 := fun ρ' μ' => μ' = [] ∧ ρ' = [none, some (.int (total : Nat)), none]) (ms_jug1 (P := fun d => ∃ a : Int, d = .int a ∧ 0 ≤ a ∧ a < 2 ^ 64) (mx_op (P1 := fun d => ∃ a : Int, d = .int a) (P2 := (· = .int 18446744073709551616)) (mx_cb (PL := fun l => ∃ a : Int, l = [.int a]) ?_ ?_) (mx_of ev_int) ?_) (fun d h => h) ⟨rfl, rfl⟩) ?_
    · intro j G0 H0 σ G H m Q q
      refine ma_cons (P := fun d => ∃ a : Int, d = .int a) (mx_op (P1 := fun d => ∃ a : Int, d = .int a) (P2 := (· = .int 1442695040888963407)) (mx_op (P1 := fun d => ∃ a : Int, d = .int a) (P2 := (· = .int 6364136223846793005)) (mx_jug1 fun a _ _ => ⟨a, rfl⟩) (mx_of ev_int) ?_) (mx_of ev_int) ?_) ma_nil j G0 H0 σ G H m Q fun vs G2 H2 l m2 s2 dv ⟨d, ds, e, ⟨a, ea⟩, e2⟩ => q vs G2 H2 l m2 s2 dv ⟨a, by rw [e, ea, e2]⟩
      · rintro x y ⟨a, rfl⟩ rfl
        exact ⟨_, rd_mul (.inr ⟨by decide, by decide⟩), _, rfl⟩
      · rintro x y ⟨a, rfl⟩ rfl
        exact ⟨_, rd_add, _, rfl⟩
    · rintro l ⟨a, rfl⟩
      exact ⟨_, rc_int, a, rfl⟩
    · rintro x y ⟨a, rfl⟩ rfl
      exact ⟨_, rd_modN (by decide), _, rfl, Int.emod_nonneg _ (by decide), Int.emod_lt_of_pos _ (by decide)⟩
    · rintro ρ' μ' ⟨rfl, rfl⟩
      refine ms_ret (mx_op (P1 := fun d => ∃ a : Int, d = .int a) (P2 := (· = .int (total : Nat))) (mx_cb (PL := fun l => ∃ a : Int, l = [.int a]) ?_ ?_) (mx_of (ev_var rfl)) ?_)
      · intro j G0 H0 σ G H m Q q
        refine ma_cons (P := fun d => ∃ a : Int, d = .int a) (mx_op (P1 := fun d => ∃ a : Int, d = .int a) (P2 := (· = .int 4294967296)) (mx_jug1 fun a _ _ => ⟨a, rfl⟩) (mx_of ev_int) ?_) ma_nil j G0 H0 σ G H m Q fun vs G2 H2 l m2 s2 dv ⟨d, ds, e, ⟨a, ea⟩, e2⟩ => q vs G2 H2 l m2 s2 dv ⟨a, by rw [e, ea, e2]⟩
        rintro x y ⟨a, rfl⟩ rfl
        exact ⟨_, rd_fdivW (by decide) (by decide +kernel), _, rfl⟩
      · rintro l ⟨a, rfl⟩
        exact ⟨_, rc_int, a, rfl⟩
      · rintro x y ⟨a, rfl⟩ rfl
        obtain ⟨n, hn, e⟩ := mod_nat (a := a) p0
        exact ⟨_, rd_modN (by omega), n, hn, by rw [e]⟩

end KD

/-! KF12: picks, the law's step, who can be elected. -/
namespace KD
open PySem L2 PySem.Spec PyProof.Rows K27

abbrev s__law_pick : Stmt := top 40
abbrev N__law_pick : List Str := ["jug", "items"]
theorem sc__law_pick : FnScope N__law_pick ["jug", "items"] (defScope s__law_pick) := ⟨rfl, rfl, rfl, by decide +kernel, rfl, by decide +kernel, by decide +kernel⟩


def F__law_pick : List PyData → (PyData → Prop) → Prop := fun ds R => ∃ (items : List PyData), (items ≠ []) ∧ (items.length ≤ 100000) ∧ ds = [.list items] ∧ R = fun z => z ∈ items
theorem I__law_pick {items : List PyData} (p0 : items ≠ []) (p1 : items.length ≤ 100000) : F__law_pick [.list items] (fun z => z ∈ items) := ⟨items, p0, p1, rfl, rfl⟩
theorem R__law_pick {P : Program} {w : World} {K : PySem.W.Frag} {mg : Str → Option Value} {base : Heap} (T : Tx mg) (kn : Kn K mg "_law_pick" s__law_pick ["jug", "items"]) (R__law_sip : Rdy P w K mg base 1 "_law_sip" ["jug", "total"] (spJ K F__law_sip)) : Rdy P w K mg base 2 "_law_pick" ["jug", "items"] (spJ K F__law_pick) := by
  refine rdyJ_of kn sc__law_pick (fun ds z h => ?_) (by decide) (fun f cdv A outer s H E hr ds z h => ?_)
  · obtain ⟨items, p0, p1, rfl, rfl⟩ := h
    rfl
  obtain ⟨items, p0, p1, rfl, rfl⟩ := h
  refine ⟨_, (pss_one (ps_ret (pe_ix ix_list (pv 1) (pe_fn R__law_sip (hr.mono (by decide)) (by rfl) (pa_cons (pv 0) (pa_cons (pe_callB call_len_seq (by rfl) T.b_len bt_len (pa_cons (pv 1) pa_nil)) pa_nil))) (fun _ _ => rfl)))), ?_⟩
  have hl : 0 < items.length := List.length_pos_iff.mpr p0
  refine ms_ret (mx_op (P1 := (· = .list items)) (P2 := fun d => ∃ n : Nat, n < items.length ∧ d = .int (n : Nat)) (mx_of (ev_var rfl)) (mx_callJ (PL := (· = [.int (items.length : Nat)])) ?_ ?_) ?_)
  · exact ma_of (ev_cons (ev_cb (ev_cons (ev_var rfl) ev_nil) rc_lenL) ev_nil)
  · rintro l rfl
    exact ⟨_, I__law_sip hl p1, fun z h => h⟩
  · rintro x y rfl ⟨n, hn, rfl⟩
    have e : items[n]? = some items[n] := List.getElem?_eq_getElem hn
    refine ⟨items[n], rd_ixL ?_, List.getElem_mem hn⟩
    unfold atI ixN
    rw [if_pos (by omega), if_pos (by omega)]
    show items[((n : Nat) : Int).toNat]? = _
    rw [Int.toNat_natCast, e]

abbrev s_electable : Stmt := top 36
abbrev N_electable : List Str := ["many", "deeds", "copies", "found", "number", "up", "term", "rows", "voters", "one"]
theorem sc_electable : FnScope N_electable ["many", "deeds"] (defScope s_electable) := ⟨rfl, rfl, rfl, by decide +kernel, rfl, by decide +kernel, by decide +kernel⟩

def ableTo (s : K27.St) (k : Nat) : List Nat := (List.range k).filter fun i => ableAt s.cs (cp s i)
theorem ableTo_all (s : K27.St) : ableTo s s.cs.length = able s := rfl
theorem ableTo_succ (s : K27.St) (k : Nat) : ableTo s (k + 1) = ableTo s k ++ (if ableAt s.cs (cp s k) = true then [k] else []) := by
  unfold ableTo
  rw [List.range_succ, List.filter_append]
  congr 1
  by_cases h : ableAt s.cs (cp s k) = true
  · simp [h]
  · simp [h]
theorem enF_drop : ∀ (ds : List PyData) (k n : Nat), (enF k ds).drop n = enF (k + n) (ds.drop n)
  | [], k, n => by simp [enF]
  | d :: ds, k, 0 => rfl
  | d :: ds, k, n + 1 => by
    show (enF (k + 1) ds).drop n = _
    rw [enF_drop ds (k + 1) n, show k + 1 + n = k + (n + 1) by omega]
    rfl
theorem half_able (cs : List Cp) (c : Cp) : half cs (fun d => d.up && !newer d.rows c.rows) = decide (((cs.length : Nat) : Int) < 2 * (((cs.filter fun d => d.up && !newer d.rows c.rows).length : Nat) : Int)) := (half_len cs _).symm

def F_electable : List PyData → PyData → Prop := fun ds z => ∃ (many : Nat) (dl : List Dd) (s : K27.St) (x : Nat), (many = 3 ∨ many = 5) ∧ (∀ d ∈ dl, fit d) ∧ (dl.length ≤ 400) ∧ (play (init many) dl 0 = (some s, x)) ∧ ds = [.int many, .tuple (dl.map encDd)] ∧ z = .tuple (nats (able s))
theorem I_electable {many : Nat} {dl : List Dd} {s : K27.St} {x : Nat} (p0 : many = 3 ∨ many = 5) (p1 : ∀ d ∈ dl, fit d) (p2 : dl.length ≤ 400) (p3 : play (init many) dl 0 = (some s, x)) : F_electable [.int many, .tuple (dl.map encDd)] (.tuple (nats (able s))) := ⟨many, dl, s, x, p0, p1, p2, p3, rfl, rfl⟩
theorem R_electable {P : Program} {w : World} {K : PySem.W.Frag} {mg : Str → Option Value} {base : Heap} (T : Tx mg) (kn : Kn K mg "electable" s_electable ["many", "deeds"]) (R_are_newer : Rdy P w K mg base 2 "are_newer" ["rows", "other"] (spP K F_are_newer)) (R_need_play : Rdy P w K mg base 6 "need_play" ["many", "deeds"] (spP K F_need_play)) : Rdy P w K mg base 7 "electable" ["many", "deeds"] (spP K F_electable) := by
  refine rdyM_of kn sc_electable (fun ds z h => ?_) (by decide) (fun f cdv A outer s H E hr ds z h => ?_)
  · obtain ⟨many, dl, s, x, p0, p1, p2, p3, rfl, rfl⟩ := h
    rfl
  obtain ⟨many, dl, s, x, p0, p1, p2, p3, rfl, rfl⟩ := h
  refine ⟨_, (pss_cons (ps_set (i := 2) sc_electable.nd rfl (by first | exact Or.inl rfl | exact Or.inr rfl) (pe_ix ix_tup (pe_fn R_need_play (hr.mono (by decide)) (by rfl) (pa_cons (pv 0) (pa_cons (pv 1) pa_nil))) pe_int (fun _ _ => rfl))) (pss_cons (ps_set (i := 3) sc_electable.nd rfl (by first | exact Or.inl rfl | exact Or.inr rfl) (pe_lst pa_nil)) (pss_cons (ps_for PassesOwn.never rfl (pi_enT (by rfl) T.b_enumerate (pa_cons (pv 2) pa_nil)) (pg_tup (by rfl) (pgs_cons (pg_name (i := 4) sc_electable.nd rfl (by first | exact Or.inl rfl | exact Or.inr rfl)) (pgs_cons (pg_tup (by rfl) (pgs_cons (pg_name (i := 5) sc_electable.nd rfl (by first | exact Or.inl rfl | exact Or.inr rfl)) (pgs_cons (pg_name (i := 6) sc_electable.nd rfl (by first | exact Or.inl rfl | exact Or.inr rfl)) (pgs_cons (pg_name (i := 7) sc_electable.nd rfl (by first | exact Or.inl rfl | exact Or.inr rfl)) pgs_nil)))) pgs_nil))) (pss_cons (ps_setLc (i := 8) (own := [("one", 9)]) (g := (gName 9)) (tt := (tAnd (tB (tOp (rIxT K) (tVar 9) (tC (.int 0)))) (tNot (tB (tCall (spP K F_are_newer) [] E0 (tCons (tOp (rIxT K) (tVar 9) (tC (.int 2))) (tCons (tVar 7) tNil))))))) (te := (tVar 9)) rfl sc_electable.nd rfl rfl (sw_true rfl rfl rfl (by decide +kernel)) (pi_tup (pv 2)) (blkOk_by (N := N_electable) (sc := defScope s_electable) (by decide +kernel)) (fun _ _ _ _ _ => by exact (pg_name (i := 9) sc_electable.nd rfl (by first | exact Or.inl rfl | exact Or.inr rfl))) (fun _ _ _ _ _ => by exact (pts_one (PW.pt (pw_and (pt_val (pe_ix ix_tup (pv 9) pe_int (fun _ _ => rfl))) (pw_and1 (pt_not (pt_val (pe_fn R_are_newer (hr.mono (by decide)) (by rfl) (pa_cons (pe_ix ix_tup (pv 9) pe_int (fun _ _ => rfl)) (pa_cons (pv 7) pa_nil)))))))))) (fun _ _ _ _ _ => by exact (pv 9))) (pss_one (ps_if (PW.pt (pw_and (pt_val (pv 5)) (pw_and1 (pt_cmpR op_gt (pe_op op_mul pe_int (pe_callB call_len_seq (by rfl) T.b_len bt_len (pa_cons (pv 8) pa_nil))) (pe_callB call_len_seq (by rfl) T.b_len bt_len (pa_cons (pv 2) pa_nil)) (by first | rfl | exact nomark _))))) (pss_one (ps_expr (pe_bm PySem.F.plainAttrs_list PySem.F.slot_list_append PySem.F.type_list_append mt_append (pv 3) (pa_cons (pv 4) pa_nil)))) pss_nil)))) (pss_one (ps_ret (pe_callTy call_tuple_of (by rfl) T.b_tuple bt_tuple (pa_cons (pv 3) pa_nil))))))), ?_⟩
  have gd : Gd s := play_gd (by omega) (by omega) (by omega) p3
  have szc : (s.cs.map encCp).length ≤ sizeLine := Nat.le_trans (m := 5) (by rw [List.length_map]; exact gd.len) (by decide)
  refine ms_seq (N1 := fun ρ' μ' => μ' = [] ∧ ρ' = [some (.int (many : Nat)), some (.tuple (dl.map encDd)), some (.tuple (s.cs.map encCp)), none, none, none, none, none, none, none]) (ms_set (P := (· = .tuple (s.cs.map encCp))) (mx_of (ev_op (ev_call (ev_cons (ev_var rfl) (ev_cons (ev_var rfl) ev_nil)) (I_need_play p0 p1 p2 p3)) ev_int (rd_ixT rfl))) (by simp) (by simp) (by rintro d rfl; exact ⟨rfl, rfl⟩)) ?_
  rintro ρ' μ' ⟨rfl, rfl⟩
  refine ms_seq (N1 := fun ρ' μ' => μ' = [(3, [])] ∧ ρ' = [some (.int (many : Nat)), some (.tuple (dl.map encDd)), some (.tuple (s.cs.map encCp)), none, none, none, none, none, none, none]) (ms_own (C := (· = [])) (fx_lst (PL := (· = [])) ma_nil (by rintro l rfl; exact Nat.zero_le _)) (Nat.le_of_ble_eq_true rfl) (by simp) (by simp) (by rintro c rfl; exact ⟨rfl, rfl⟩)) ?_
  rintro ρ' μ' ⟨rfl, rfl⟩
  refine ms_seq (N1 := fun ρ' μ' => μ' = [(3, nats (able s))] ∧ ∃ o1 o2 o3 o4 o5 o6, ρ' = [some (.int (many : Nat)), some (.tuple (dl.map encDd)), some (.tuple (s.cs.map encCp)), none, o1, o2, o3, o4, o5, o6]) (ms_for (ds := enF 0 (s.cs.map encCp)) ?_ (fun r ρ' μ' => ∃ k, k ≤ s.cs.length ∧ r = enF k ((s.cs.map encCp).drop k) ∧ μ' = [(3, nats (ableTo s k))] ∧ ∃ o1 o2 o3 o4 o5 o6, ρ' = [some (.int (many : Nat)), some (.tuple (dl.map encDd)), some (.tuple (s.cs.map encCp)), none, o1, o2, o3, o4, o5, o6]) ⟨0, Nat.zero_le _, rfl, rfl, _, _, _, _, _, _, rfl⟩ ?_ ?_) ?_
  · rw [← enD_eq]
    exact ei_enT (ev_cons (ev_var rfl) ev_nil)
  · rintro d r ρ' μ' ⟨k, hk, er, rfl, o1, o2, o3, o4, o5, o6, rfl⟩
    have hk' : k < s.cs.length := by
      rcases Nat.lt_or_ge k s.cs.length with h | h
      · exact h
      · rw [List.drop_of_length_le (by rw [List.length_map]; exact h)] at er
        cases er
    have ed : (s.cs.map encCp).drop k = encCp (cp s k) :: (s.cs.map encCp).drop (k + 1) := by
      rw [List.drop_eq_getElem_cons (by rw [List.length_map]; exact hk')]
      congr 1
      rw [List.getElem_map]
      congr 1
      exact (cp_of (List.getElem?_eq_getElem hk')).symm
    rw [ed] at er
    injection er with e1 e2
    subst e1 e2
    refine ⟨_, _, eg_tup (eg_cons eg_name (eg_cons (eg_tup (eg_cons eg_name (eg_cons eg_name (eg_cons eg_name eg_nil))) rfl) eg_nil)) rfl, by simp, by simp, ?_⟩
    refine ms_seq (N1 := fun ρ' μ' => μ' = [(3, nats (ableTo s k))] ∧ ∃ o6, ρ' = [some (.int (many : Nat)), some (.tuple (dl.map encDd)), some (.tuple (s.cs.map encCp)), none, some (.int (k : Nat)), some (.bool (cp s k).up), some (.int ((cp s k).term : Nat)), some (encRows (cp s k).rows), some (.list ((s.cs.filter fun d => d.up && !newer d.rows (cp s k).rows).map encCp)), o6]) (ms_set (P := (· = .list ((s.cs.filter fun d => d.up && !newer d.rows (cp s k).rows).map encCp))) (mx_of (ev_lc (ei_tup (ev_var rfl)) (lr_filter (c := encCp) (f := encCp) (p := fun d => d.up && !newer d.rows (cp s k).rows) (by simp) s.cs fun d hd => ⟨eg_name, ev_andT (ev_tB (ev_op (ev_var rfl) ev_int (rd_ixT rfl))) fun _ => ev_notT (ev_tB (ev_call (ev_cons (ev_op (ev_var rfl) ev_int (rd_ixT rfl)) (ev_cons (ev_var rfl) ev_nil)) I_are_newer)), ev_var rfl⟩) szc)) (by simp) (by simp) (by rintro d rfl; exact ⟨rfl, _, rfl⟩)) ?_
    rintro ρ' μ' ⟨rfl, o6, rfl⟩
    refine ms_if (PB := (· = ableAt s.cs (cp s k))) (mt_of (et_eqb (ev_andT (ev_tB (ev_var rfl)) fun _ => ev_test (ev_op (ev_op ev_int (ev_cb (ev_cons (ev_var rfl) ev_nil) rc_lenL) (rd_mul (cmul_l (by decide) (by decide)))) (ev_cb (ev_cons (ev_var rfl) ev_nil) rc_lenT) rd_gt)) (by rw [List.length_map, List.length_map]; unfold ableAt; rw [half_able]))) (fun h => ?_) (fun h => ?_)
    · refine ms_append (P := (· = .int (k : Nat))) (List.mem_singleton.mpr rfl) (by simp) (mx_of (ev_var rfl)) (Nat.lt_of_le_of_lt (m := 5) ?_ (by decide)) ?_
      · rw [nats, List.length_map]
        exact Nat.le_trans (List.length_filter_le _ _) (by rw [List.length_range]; exact Nat.le_trans hk gd.len)
      · rintro d rfl
        refine ⟨k + 1, hk', rfl, ?_, _, _, _, _, _, _, rfl⟩
        rw [ableTo_succ, ← h]
        simp [nats]
    · refine ms_next ⟨k + 1, hk', rfl, ?_, _, _, _, _, _, _, rfl⟩
      rw [ableTo_succ, ← h]
      simp
  · rintro ρ' μ' ⟨k, hk, er, rfl, o⟩
    have : k = s.cs.length := by
      rcases Nat.lt_or_ge k s.cs.length with h | h
      · rw [List.drop_eq_getElem_cons (by rw [List.length_map]; exact h)] at er
        cases er
      · omega
    subst this
    exact ⟨rfl, o⟩
  · rintro ρ' μ' ⟨rfl, o1, o2, o3, o4, o5, o6, rfl⟩
    exact ms_freeze (ms_ret (mx_of (ev_cb (ev_cons (ev_var rfl) ev_nil) rc_tupL)))

end KD

/-! KF13: the law's step. -/
namespace KD
open PySem L2 PySem.Spec PyProof.Rows K27
theorem atL {cs : List Cp} {i : Nat} (h : i < cs.length) : atI (cs.map encCpL) ((i : Nat) : Int) = some (encCpL (cs.getD i default)) := at_map (by simp [List.getD_eq_getElem?_getD, List.getElem?_eq_getElem h])
theorem setTerms_snoc (t : Nat) (vs : List Nat) (v : Nat) (cs : List Cp) : setTerms t (vs ++ [v]) cs = (setTerms t vs cs).set v ⟨true, t, ((setTerms t vs cs).getD v default).rows⟩ := by
  unfold setTerms
  rw [List.foldl_append]
  rfl

abbrev s__law_behind : Stmt := top 46
abbrev N__law_behind : List Str := ["state", "deed", "copies", "leads", "done", "word", "number", "term", "one", "up", "rows"]
theorem sc__law_behind : FnScope N__law_behind ["state", "deed"] (defScope s__law_behind) := ⟨rfl, rfl, rfl, by decide +kernel, rfl, by decide +kernel, by decide +kernel⟩


def F__law_behind : List PyData → PyData → Prop := fun ds z => ∃ (s : K27.St) (d : Dd), (Gd s) ∧ (fit2 d) ∧ (ok s d = true) ∧ ds = [encStL s, encDd d] ∧ z = encStL (beh s d)
theorem I__law_behind {s : K27.St} {d : Dd} (p0 : Gd s) (p1 : fit2 d) (p2 : ok s d = true) : F__law_behind [encStL s, encDd d] (encStL (beh s d)) := ⟨s, d, p0, p1, p2, rfl, rfl⟩
theorem R__law_behind {P : Program} {w : World} {K : PySem.W.Frag} {mg : Str → Option Value} {base : Heap} (T : Tx mg) (kn : Kn K mg "_law_behind" s__law_behind ["state", "deed"]) : Rdy P w K mg base 1 "_law_behind" ["state", "deed"] (spP K F__law_behind) := by
  refine rdyM_of kn sc__law_behind (fun ds z h => ?_) (by decide) (fun f cdv A outer s H E hr ds z h => ?_)
  · obtain ⟨s, d, p0, p1, p2, rfl, rfl⟩ := h
    rfl
  obtain ⟨s, d, p0, p1, p2, rfl, rfl⟩ := h
  refine ⟨_, (pss_cons (ps_asg (pe_tup (pa_cons (pe_lc (own := [("one", 8)]) (g := (gName 8)) (tt := tYes) (te := (tCB (rListOf K) (tCons (tVar 8) tNil))) rfl sc__law_behind.nd (pi_list (pe_ix ix_list (pv 0) pe_int (fun _ _ => rfl))) (blkOk_by (N := N__law_behind) (sc := defScope s__law_behind) (by decide +kernel)) (fun _ _ _ _ _ => by exact (pg_name (i := 8) sc__law_behind.nd rfl (by first | exact Or.inl rfl | exact Or.inr rfl))) (fun _ _ _ _ _ => by exact pts_nil) (fun _ _ _ _ _ => by exact (pe_callTy call_list_of (by rfl) T.b_list bt_list (pa_cons (pv 8) pa_nil)))) (pa_cons (pe_ix ix_list (pv 0) pe_int (fun _ _ => rfl)) (pa_cons (pe_ix ix_list (pv 0) pe_int (fun _ _ => rfl)) pa_nil)))) (pg_tup (by rfl) (pgs_cons (pg_name (i := 2) sc__law_behind.nd rfl (by first | exact Or.inl rfl | exact Or.inr rfl)) (pgs_cons (pg_name (i := 3) sc__law_behind.nd rfl (by first | exact Or.inl rfl | exact Or.inr rfl)) (pgs_cons (pg_name (i := 4) sc__law_behind.nd rfl (by first | exact Or.inl rfl | exact Or.inr rfl)) pgs_nil))))) (pss_cons (ps_par (i := 5) (j := 6) rfl sc__law_behind.nd rfl rfl (by decide) rfl rfl (pa_cons (pe_ix ix_tup (pv 1) pe_int (fun _ _ => rfl)) (pa_cons (pe_ix ix_tup (pv 1) pe_int (fun _ _ => rfl)) pa_nil)) (by rfl)) (pss_cons (ps_if (pt_cmpR (op_eqD hr.units) (pv 5) pe_str (by first | rfl | exact nomark _)) (pss_cons (ps_par (i := 7) (j := 3) rfl sc__law_behind.nd rfl rfl (by decide) rfl rfl (pa_cons (pe_op op_add pe_int (pe_callB (cr_max rfl) (by rfl) T.b_max bt_max (pa_cons (pe_lc (own := [("one", 8)]) (g := (gName 8)) (tt := tYes) (te := (tOp (rIxL K) (tOp (rIxL K) (tVar 2) (tVar 8)) (tC (.int 1)))) rfl sc__law_behind.nd (pi_tup (pe_ix ix_tup (pv 1) pe_int (fun _ _ => rfl))) (blkOk_by (N := N__law_behind) (sc := defScope s__law_behind) (by decide +kernel)) (fun _ _ _ _ _ => by exact (pg_name (i := 8) sc__law_behind.nd rfl (by first | exact Or.inl rfl | exact Or.inr rfl))) (fun _ _ _ _ _ => by exact pts_nil) (fun _ _ _ _ _ => by exact (pe_ix ix_list (pe_ix ix_list (pv 2) (pv 8) (fun _ _ => rfl)) pe_int (fun _ _ => rfl)))) pa_nil))) (pa_cons (pv 6) pa_nil)) (by rfl)) (pss_one (ps_for PassesOwn.never rfl (pi_tup (pe_ix ix_tup (pv 1) pe_int (fun _ _ => rfl))) (pg_name (i := 8) sc__law_behind.nd rfl (by first | exact Or.inl rfl | exact Or.inr rfl)) (pss_one (ps_asg (pe_lst (pa_cons pe_bl (pa_cons (pv 7) (pa_cons (pe_ix ix_list (pe_ix ix_list (pv 2) (pv 8) (fun _ _ => rfl)) pe_int (fun _ _ => rfl)) pa_nil)))) (pg_sub (pv 2) (pv 8) set_list)))))) (pss_one (ps_if (pt_cmpR (op_eqD hr.units) (pv 5) pe_str (by first | rfl | exact nomark _)) (pss_cons (ps_asg (pe_ix ix_list (pv 2) (pv 3) (fun _ _ => rfl)) (pg_unl (by rfl) (pgs_cons (pg_name (i := 9) sc__law_behind.nd rfl (by first | exact Or.inl rfl | exact Or.inr rfl)) (pgs_cons (pg_name (i := 7) sc__law_behind.nd rfl (by first | exact Or.inl rfl | exact Or.inr rfl)) (pgs_cons (pg_name (i := 10) sc__law_behind.nd rfl (by first | exact Or.inl rfl | exact Or.inr rfl)) pgs_nil))))) (pss_one (ps_asg (pe_lst (pa_cons (pv 9) (pa_cons (pv 7) (pa_cons (pe_op op_catA (pv 10) (pe_tup (pa_cons (pe_tup (pa_cons (pv 7) (pa_cons (pv 6) pa_nil))) pa_nil))) pa_nil)))) (pg_sub (pv 2) (pv 3) set_list)))) (pss_one (ps_if (pt_cmpR (op_eqD hr.units) (pv 5) pe_str (by first | rfl | exact nomark _)) (pss_one (ps_asg (pe_lst (pa_cons pe_bl (pa_cons (pe_ix ix_list (pe_ix ix_list (pv 2) (pv 3) (fun _ _ => rfl)) pe_int (fun _ _ => rfl)) (pa_cons (pe_ix ix_list (pe_ix ix_list (pv 2) (pv 3) (fun _ _ => rfl)) pe_int (fun _ _ => rfl)) pa_nil)))) (pg_sub (pv 2) (pv 6) set_list))) (pss_one (ps_if (pt_cmpR (op_eqD hr.units) (pv 5) pe_str (by first | rfl | exact nomark _)) (pss_one (ps_set (i := 4) sc__law_behind.nd rfl (by first | exact Or.inl rfl | exact Or.inr rfl) (pv 6))) (pss_cons (ps_asg (pe_lst (pa_cons (pe_cmpR (op_eqD hr.units) (pv 5) pe_str (by first | rfl | exact nomark _)) (pa_cons (pe_ix ix_list (pe_ix ix_list (pv 2) (pv 6) (fun _ _ => rfl)) pe_int (fun _ _ => rfl)) (pa_cons (pe_ix ix_list (pe_ix ix_list (pv 2) (pv 6) (fun _ _ => rfl)) pe_int (fun _ _ => rfl)) pa_nil)))) (pg_sub (pv 2) (pv 6) set_list)) (pss_one (ps_set (i := 3) sc__law_behind.nd rfl (by first | exact Or.inl rfl | exact Or.inr rfl) (pe_ifExp (PW.pt (pw_and (pt_cmpR (op_eqD hr.units) (pv 5) pe_str (by first | rfl | exact nomark _)) (pw_and1 (pt_cmpR (op_eqD hr.units) (pv 3) (pv 6) (by first | rfl | exact nomark _))))) pe_non (pv 3)))))))))))) (pss_one (ps_ret (pe_lst (pa_cons (pv 2) (pa_cons (pv 3) (pa_cons (pv 4) pa_nil))))))))), ?_⟩
  have szc : (s.cs.map encCpL).length ≤ sizeLine := Nat.le_trans (m := 5) (by rw [List.length_map]; exact p0.len) (by decide)
  have hcan : can s d = true := by
    simp only [ok, Bool.and_eq_true] at p2
    exact p2.2
  have hform : form d = true := by
    simp only [ok, Bool.and_eq_true] at p2
    exact p2.1
  refine ms_seq (N1 := fun ρ' μ' => μ' = [(2, s.cs.map encCpL)] ∧ ρ' = [some (encStL s), some (encDd d), none, some (encO s.lead), some (.int (s.done : Nat)), none, none, none, none, none, none]) (ms_tup3 (C := (· = s.cs.map encCpL)) (fx_lc (ds := s.cs.map encCpL) ?_ (by simp) (by simp) (fun r acc => ∃ dn rest, s.cs = dn ++ rest ∧ r = rest.map encCpL ∧ acc = dn.map encCpL) ⟨[], s.cs, rfl, rfl, rfl⟩ ?_ ?_ szc) (mx_of (ev_op (ev_var rfl) ev_int (rd_ixL rfl))) (mx_of (ev_op (ev_var rfl) ev_int (rd_ixL rfl))) (Nat.le_of_ble_eq_true rfl) (by decide) (by simp) (by simp) (by rintro c rfl; exact ⟨rfl, rfl⟩)) ?_
  · exact ei_lst (ev_op (ev_var rfl) ev_int (rd_ixL rfl))
  · rintro x r acc ⟨dn, rest, e1, e2, rfl⟩
    cases rest with
    | nil => cases e2
    | cons c rest =>
      rw [List.map_cons] at e2
      injection e2 with e3 e4
      subst e3 e4
      exact ⟨_, _, eg_name, by simp, (· = true), (· = encCpL c), mt_of et_yes, fun _ => mx_of (ev_cb (ev_cons (ev_var rfl) ev_nil) rc_listL), fun e _ he => ⟨dn ++ [c], rest, by rw [e1]; simp, rfl, by rw [he]; simp⟩, fun h => nomatch h⟩
  · rintro acc ⟨dn, rest, e1, e2, rfl⟩
    cases rest with
    | nil => rw [e1, List.append_nil]
    | cons c rest => cases e2
  rintro ρ' μ' ⟨rfl, rfl⟩
  have hu : ∀ p ∈ [(2, s.cs.map encCpL)], p.1 = 2 → p.2 = s.cs.map encCpL := by simp
  cases d with
  | elect i vs =>
    have hc := hcan
    simp only [can, Bool.and_eq_true, List.all_eq_true, decide_eq_true_iff, List.contains_iff_mem] at hc
    have hv : ∀ v ∈ vs, v < s.cs.length := hc.1.1.2
    have hi := hc.1.2
    have hne : vs ≠ [] := by rintro rfl; cases hi
    have sz : (nats vs).length ≤ sizeLine := Nat.le_trans (m := 10) (by rw [nats, List.length_map]; exact p1.1) (by decide)
    refine ms_seq (N1 := fun ρ' μ' => μ' = [(2, s.cs.map encCpL)] ∧ ρ' = [some (encStL s), some (encDd (.elect i vs)), none, some (encO s.lead), some (.int (s.done : Nat)), some (.str "elect"), some (.int (i : Nat)), none, none, none, none]) (ms_par (PL := (· = [.str "elect", .int (i : Nat)])) (ma_of (ev_cons (ev_op (ev_var rfl) ev_int (rd_ixT rfl)) (ev_cons (ev_op (ev_var rfl) ev_int (rd_ixT rfl)) ev_nil))) (by rintro l rfl; exact ⟨_, _, rfl, rfl, rfl⟩) (by simp) (by simp)) ?_
    rintro ρ' μ' ⟨rfl, rfl⟩
    refine ms_seq (N1 := fun ρ' μ' => μ' = [(2, (setTerms (maxT s.cs vs + 1) vs s.cs).map encCpL)] ∧ ∃ o, ρ' = [some (encStL s), some (encDd (.elect i vs)), none, some (.int (i : Nat)), some (.int (s.done : Nat)), some (.str "elect"), some (.int (i : Nat)), some (.int ((maxT s.cs vs : Nat) + 1)), o, none, none]) (ms_if (mt_of (ev_test (ev_op (ev_var rfl) ev_str (rd_eq (by decide +kernel) (by decide +kernel))))) (fun _ => ?_) (fun h => absurd h (by simp [PyData.eqv]))) ?_
    · refine ms_seq (N1 := fun ρ' μ' => μ' = [(2, s.cs.map encCpL)] ∧ ρ' = [some (encStL s), some (encDd (.elect i vs)), none, some (.int (i : Nat)), some (.int (s.done : Nat)), some (.str "elect"), some (.int (i : Nat)), some (.int ((maxT s.cs vs : Nat) + 1)), none, none, none]) (ms_par (PL := (· = [.int ((maxT s.cs vs : Nat) + 1), .int (i : Nat)])) (ma_cons' (mx_imp (mx_op' (y := .int (maxT s.cs vs : Nat)) (mx_of ev_int) (mx_cb (PL := (· = [.list ((vs.map fun v => (((cp s v).term : Nat) : Int)).map .int)])) (ma_cons' (mx_fx (C := (· = (vs.map fun v => (((cp s v).term : Nat) : Int)).map .int)) (fx_lc (ds := nats vs) ?_ (by simp) (by simp) (fun r acc => ∃ dn rest, vs = dn ++ rest ∧ r = nats rest ∧ acc = (dn.map fun v => (((cp s v).term : Nat) : Int)).map .int) ⟨[], vs, rfl, rfl, rfl⟩ ?_ ?_ sz) (by rintro c rfl; rfl)) ma_nil) (by rintro l rfl; exact ⟨_, rc_max (by rw [List.length_map]; exact List.length_pos_iff.mpr hne) (maxT_is s vs), rfl⟩)) rd_add) (by rintro d rfl; rw [Int.add_comm])) (ma_cons' (mx_of (ev_var rfl)) ma_nil)) (by rintro l rfl; exact ⟨_, _, rfl, rfl, rfl⟩) (by simp) (by simp)) ?_
      · exact ei_tup (ev_op (ev_var rfl) ev_int (rd_ixT rfl))
      · rintro x r acc ⟨dn, rest, e1, e2, rfl⟩
        cases rest with
        | nil => cases e2
        | cons v rest =>
          rw [show nats (v :: rest) = .int (v : Nat) :: nats rest from rfl] at e2
          injection e2 with e3 e4
          subst e3 e4
          have hvv : v < s.cs.length := hv v (by rw [e1]; simp)
          exact ⟨_, _, eg_name, by simp, (· = true), (· = .int ((cp s v).term : Nat)), mt_of et_yes, fun _ => mx_op' (mx_ixO' (List.mem_singleton.mpr rfl) (mx_of (ev_var rfl)) (at_cpL hvv)) (mx_of ev_int) (rd_ixL rfl), fun e _ he => ⟨dn ++ [v], rest, by rw [e1]; simp, rfl, by rw [he]; simp⟩, fun h => nomatch h⟩
      · rintro acc ⟨dn, rest, e1, e2, rfl⟩
        cases rest with
        | nil => rw [e1, List.append_nil]
        | cons c rest => cases e2
      rintro ρ' μ' ⟨rfl, rfl⟩
      refine ms_for (ds := nats vs) ?_ (fun r ρ' μ' => ∃ dn rest, vs = dn ++ rest ∧ r = nats rest ∧ μ' = [(2, (setTerms (maxT s.cs vs + 1) dn s.cs).map encCpL)] ∧ ∃ o, ρ' = [some (encStL s), some (encDd (.elect i vs)), none, some (.int (i : Nat)), some (.int (s.done : Nat)), some (.str "elect"), some (.int (i : Nat)), some (.int ((maxT s.cs vs : Nat) + 1)), o, none, none]) ⟨[], vs, rfl, rfl, rfl, _, rfl⟩ ?_ ?_
      · exact ei_tup (ev_op (ev_var rfl) ev_int (rd_ixT rfl))
      · rintro x r ρ' μ' ⟨dn, rest, e1, e2, rfl, o, rfl⟩
        cases rest with
        | nil => cases e2
        | cons v rest =>
          rw [show nats (v :: rest) = .int (v : Nat) :: nats rest from rfl] at e2
          injection e2 with e3 e4
          subst e3 e4
          have hvv : v < (setTerms (maxT s.cs vs + 1) dn s.cs).length := by rw [setTerms_len]; exact hv v (by rw [e1]; simp)
          refine ⟨_, _, eg_name, by simp, by simp, ms_setO (P := (· = encCpL ⟨true, maxT s.cs vs + 1, ((setTerms (maxT s.cs vs + 1) dn s.cs).getD v default).rows⟩)) (PI := (· = .int (v : Nat))) (List.mem_singleton.mpr rfl) (by simp) (mx_lst (PL := (· = [.bool true, .int ((maxT s.cs vs : Nat) + 1), encRows ((setTerms (maxT s.cs vs + 1) dn s.cs).getD v default).rows])) (ma_cons' (mx_of ev_bl) (ma_cons' (mx_of (ev_var rfl)) (ma_cons' (mx_op' (mx_ixO' (List.mem_singleton.mpr rfl) (mx_of (ev_var rfl)) (atL hvv)) (mx_of ev_int) (rd_ixL rfl)) ma_nil))) (by rintro l rfl; exact ⟨Nat.le_of_ble_eq_true rfl, rfl⟩)) (mx_of (ev_var rfl)) ?_⟩
          rintro d x rfl rfl
          refine ⟨v, rfl, by rw [List.length_map]; exact hvv, dn ++ [v], rest, by rw [e1]; simp, rfl, ?_, _, rfl⟩
          rw [setTerms_snoc]
          simp [List.map_set]
      · rintro ρ' μ' ⟨dn, rest, e1, e2, rfl, o, rfl⟩
        cases rest with
        | nil =>
          rw [List.append_nil] at e1
          subst e1
          exact ⟨rfl, o, rfl⟩
        | cons c rest => cases e2
    · rintro ρ' μ' ⟨rfl, o, rfl⟩
      refine ms_freeze (ms_ret (mx_imp (mx_of (ev_lst (ev_cons (ev_var rfl) (ev_cons (ev_var rfl) (ev_cons (ev_var rfl) ev_nil))) (Nat.le_of_ble_eq_true rfl))) ?_))
      rintro d rfl
      simp [beh, encStL, encO]
  | append e =>
    cases hl : s.lead with
    | none => simp [can, hl] at hcan
    | some l =>
    have ll := p0.lead hl
    have hrl := p0.rows l
    refine ms_seq (N1 := fun ρ' μ' => μ' = [(2, s.cs.map encCpL)] ∧ ρ' = [some (encStL s), some (encDd (.append e)), none, some (encO (some l)), some (.int (s.done : Nat)), some (.str "append"), some (encEv e), none, none, none, none]) (ms_par (PL := (· = [.str "append", encEv e])) (ma_of (ev_cons (ev_op (ev_var rfl) ev_int (rd_ixT rfl)) (ev_cons (ev_op (ev_var rfl) ev_int (rd_ixT rfl)) ev_nil))) (by rintro x rfl; exact ⟨_, _, rfl, rfl, rfl⟩) (by simp) (by simp)) ?_
    rintro ρ' μ' ⟨rfl, rfl⟩
    refine ms_seq (N1 := fun ρ' μ' => μ' = [(2, (beh s (.append e)).cs.map encCpL)] ∧ ∃ o1 o2 o3, ρ' = [some (encStL s), some (encDd (.append e)), none, some (encO (some l)), some (.int (s.done : Nat)), some (.str "append"), some (encEv e), o1, none, o2, o3]) (ms_if (mt_of (ev_test (ev_op (ev_var rfl) ev_str (rd_eq (by decide +kernel) (by decide +kernel))))) (fun h => absurd h (by simp [PyData.eqv]; decide +kernel)) (fun _ => ms_if (mt_of (ev_test (ev_op (ev_var rfl) ev_str (rd_eq (by decide +kernel) (by decide +kernel))))) (fun _ => ?_) (fun h => absurd h (by simp [PyData.eqv])))) ?_
    · refine ms_seq (N1 := fun ρ' μ' => μ' = [(2, s.cs.map encCpL)] ∧ ρ' = [some (encStL s), some (encDd (.append e)), none, some (encO (some l)), some (.int (s.done : Nat)), some (.str "append"), some (encEv e), some (.int ((cp s l).term : Nat)), none, some (.bool (cp s l).up), some (encRows (cp s l).rows)]) (ms_asg (P := (· = encCpL (cp s l))) (ρ' := fun _ => [some (encStL s), some (encDd (.append e)), none, some (encO (some l)), some (.int (s.done : Nat)), some (.str "append"), some (encEv e), some (.int ((cp s l).term : Nat)), none, some (.bool (cp s l).up), some (encRows (cp s l).rows)]) (mx_ixO' (x := (l : Nat)) (List.mem_singleton.mpr rfl) (mx_of (ev_var rfl)) (at_cpL ll)) (by rintro d rfl; exact eg_lst (eg_cons eg_name (eg_cons eg_name (eg_cons eg_name eg_nil))) rfl) (by simp) (by simp) (by rintro d rfl; exact ⟨rfl, rfl⟩)) ?_
      rintro ρ' μ' ⟨rfl, rfl⟩
      refine ms_setO (P := (· = encCpL ⟨(cp s l).up, (cp s l).term, (cp s l).rows ++ [⟨(cp s l).term, e⟩]⟩)) (PI := (· = .int (l : Nat))) (List.mem_singleton.mpr rfl) (by simp) (mx_of (ev_eqd (ev_lst (ev_cons (ev_var rfl) (ev_cons (ev_var rfl) (ev_cons (ev_op (ev_var rfl) (ev_tup (ev_cons (ev_tup (ev_cons (ev_var rfl) (ev_cons (ev_var rfl) ev_nil)) (Nat.le_of_ble_eq_true rfl)) ev_nil) (Nat.le_of_ble_eq_true rfl)) (rd_catT (Nat.le_trans (m := 1010) (by simp; omega) (by decide)))) ev_nil))) (Nat.le_of_ble_eq_true rfl)) ?_)) (mx_of (ev_var rfl)) ?_
      · simp [encCpL, encRows, encRow]
      · rintro d x rfl rfl
        refine ⟨l, rfl, by rw [List.length_map]; exact ll, ?_, _, _, _, rfl⟩
        simp [beh, hl, List.map_set]
    · rintro ρ' μ' ⟨rfl, o1, o2, o3, rfl⟩
      refine ms_freeze (ms_ret (mx_imp (mx_of (ev_lst (ev_cons (ev_var rfl) (ev_cons (ev_var rfl) (ev_cons (ev_var rfl) ev_nil))) (Nat.le_of_ble_eq_true rfl))) ?_))
      rintro d rfl
      simp [beh, hl, encStL, encO]
  | copy i =>
    cases hl : s.lead with
    | none => simp [can, hl] at hcan
    | some l =>
    have ll := p0.lead hl
    have hi : i < s.cs.length := by
      simp only [can, hl, Bool.and_eq_true, decide_eq_true_iff] at hcan
      exact hcan.1.1
    refine ms_seq (N1 := fun ρ' μ' => μ' = [(2, s.cs.map encCpL)] ∧ ρ' = [some (encStL s), some (encDd (.copy i)), none, some (encO (some l)), some (.int (s.done : Nat)), some (.str "copy"), some (.int (i : Nat)), none, none, none, none]) (ms_par (PL := (· = [.str "copy", .int (i : Nat)])) (ma_of (ev_cons (ev_op (ev_var rfl) ev_int (rd_ixT rfl)) (ev_cons (ev_op (ev_var rfl) ev_int (rd_ixT rfl)) ev_nil))) (by rintro x rfl; exact ⟨_, _, rfl, rfl, rfl⟩) (by simp) (by simp)) ?_
    rintro ρ' μ' ⟨rfl, rfl⟩
    refine ms_seq (N1 := fun ρ' μ' => μ' = [(2, (beh s (.copy i)).cs.map encCpL)] ∧ ρ' = [some (encStL s), some (encDd (.copy i)), none, some (encO (some l)), some (.int (s.done : Nat)), some (.str "copy"), some (.int (i : Nat)), none, none, none, none]) (ms_if (mt_of (ev_test (ev_op (ev_var rfl) ev_str (rd_eq (by decide +kernel) (by decide +kernel))))) (fun h => absurd h (by simp [PyData.eqv]; decide +kernel)) (fun _ => ms_if (mt_of (ev_test (ev_op (ev_var rfl) ev_str (rd_eq (by decide +kernel) (by decide +kernel))))) (fun h => absurd h (by simp [PyData.eqv]; decide +kernel)) (fun _ => ms_if (mt_of (ev_test (ev_op (ev_var rfl) ev_str (rd_eq (by decide +kernel) (by decide +kernel))))) (fun _ => ?_) (fun h => absurd h (by simp [PyData.eqv]))))) ?_
    · refine ms_setO (P := (· = encCpL ⟨true, (cp s l).term, (cp s l).rows⟩)) (PI := (· = .int (i : Nat))) (List.mem_singleton.mpr rfl) (by simp) (mx_lst (PL := (· = [.bool true, .int ((cp s l).term : Nat), encRows (cp s l).rows])) (ma_cons' (mx_of ev_bl) (ma_cons' (mx_op' (mx_ixO' (x := (l : Nat)) (List.mem_singleton.mpr rfl) (mx_of (ev_var rfl)) (at_cpL ll)) (mx_of ev_int) (rd_ixL rfl)) (ma_cons' (mx_op' (mx_ixO' (x := (l : Nat)) (List.mem_singleton.mpr rfl) (mx_of (ev_var rfl)) (at_cpL ll)) (mx_of ev_int) (rd_ixL rfl)) ma_nil))) (by rintro x rfl; exact ⟨Nat.le_of_ble_eq_true rfl, rfl⟩)) (mx_of (ev_var rfl)) ?_
      rintro d x rfl rfl
      refine ⟨i, rfl, by rw [List.length_map]; exact hi, ?_, rfl⟩
      simp [beh, hl, List.map_set]
    · rintro ρ' μ' ⟨rfl, rfl⟩
      refine ms_freeze (ms_ret (mx_imp (mx_of (ev_lst (ev_cons (ev_var rfl) (ev_cons (ev_var rfl) (ev_cons (ev_var rfl) ev_nil))) (Nat.le_of_ble_eq_true rfl))) ?_))
      rintro d rfl
      simp [beh, hl, encStL, encO]
  | commit n =>
    refine ms_seq (N1 := fun ρ' μ' => μ' = [(2, s.cs.map encCpL)] ∧ ρ' = [some (encStL s), some (encDd (.commit n)), none, some (encO s.lead), some (.int (s.done : Nat)), some (.str "commit"), some (.int (n : Nat)), none, none, none, none]) (ms_par (PL := (· = [.str "commit", .int (n : Nat)])) (ma_of (ev_cons (ev_op (ev_var rfl) ev_int (rd_ixT rfl)) (ev_cons (ev_op (ev_var rfl) ev_int (rd_ixT rfl)) ev_nil))) (by rintro x rfl; exact ⟨_, _, rfl, rfl, rfl⟩) (by simp) (by simp)) ?_
    rintro ρ' μ' ⟨rfl, rfl⟩
    refine ms_seq (N1 := fun ρ' μ' => μ' = [(2, s.cs.map encCpL)] ∧ ρ' = [some (encStL s), some (encDd (.commit n)), none, some (encO s.lead), some (.int (n : Nat)), some (.str "commit"), some (.int (n : Nat)), none, none, none, none]) (ms_if (mt_of (ev_test (ev_op (ev_var rfl) ev_str (rd_eq (by decide +kernel) (by decide +kernel))))) (fun h => absurd h (by simp [PyData.eqv]; decide +kernel)) (fun _ => ms_if (mt_of (ev_test (ev_op (ev_var rfl) ev_str (rd_eq (by decide +kernel) (by decide +kernel))))) (fun h => absurd h (by simp [PyData.eqv]; decide +kernel)) (fun _ => ms_if (mt_of (ev_test (ev_op (ev_var rfl) ev_str (rd_eq (by decide +kernel) (by decide +kernel))))) (fun h => absurd h (by simp [PyData.eqv]; decide +kernel)) (fun _ => ms_if (mt_of (ev_test (ev_op (ev_var rfl) ev_str (rd_eq (by decide +kernel) (by decide +kernel))))) (fun _ => ?_) (fun h => absurd h (by simp [PyData.eqv])))))) ?_
    · exact ms_set (P := (· = .int (n : Nat))) (mx_of (ev_var rfl)) (by simp) (by simp) (by rintro d rfl; exact ⟨rfl, rfl⟩)
    · rintro ρ' μ' ⟨rfl, rfl⟩
      refine ms_freeze (ms_ret (mx_imp (mx_of (ev_lst (ev_cons (ev_var rfl) (ev_cons (ev_var rfl) (ev_cons (ev_var rfl) ev_nil))) (Nat.le_of_ble_eq_true rfl))) ?_))
      rintro d rfl
      simp [beh, encStL, encO]
  | stop i =>
    have hi : i < s.cs.length := by
      simp only [can, Bool.and_eq_true, decide_eq_true_iff] at hcan
      exact hcan.1
    refine ms_seq (N1 := fun ρ' μ' => μ' = [(2, s.cs.map encCpL)] ∧ ρ' = [some (encStL s), some (encDd (.stop i)), none, some (encO s.lead), some (.int (s.done : Nat)), some (.str "stop"), some (.int (i : Nat)), none, none, none, none]) (ms_par (PL := (· = [.str "stop", .int (i : Nat)])) (ma_of (ev_cons (ev_op (ev_var rfl) ev_int (rd_ixT rfl)) (ev_cons (ev_op (ev_var rfl) ev_int (rd_ixT rfl)) ev_nil))) (by rintro x rfl; exact ⟨_, _, rfl, rfl, rfl⟩) (by simp) (by simp)) ?_
    rintro ρ' μ' ⟨rfl, rfl⟩
    refine ms_seq (N1 := fun ρ' μ' => μ' = [(2, (beh s (.stop i)).cs.map encCpL)] ∧ ρ' = [some (encStL s), some (encDd (.stop i)), none, some (encO (beh s (.stop i)).lead), some (.int (s.done : Nat)), some (.str "stop"), some (.int (i : Nat)), none, none, none, none]) (ms_if (mt_of (ev_test (ev_op (ev_var rfl) ev_str (rd_eq (by decide +kernel) (by decide +kernel))))) (fun h => absurd h (by simp [PyData.eqv]; decide +kernel)) (fun _ => ms_if (mt_of (ev_test (ev_op (ev_var rfl) ev_str (rd_eq (by decide +kernel) (by decide +kernel))))) (fun h => absurd h (by simp [PyData.eqv]; decide +kernel)) (fun _ => ms_if (mt_of (ev_test (ev_op (ev_var rfl) ev_str (rd_eq (by decide +kernel) (by decide +kernel))))) (fun h => absurd h (by simp [PyData.eqv]; decide +kernel)) (fun _ => ms_if (mt_of (ev_test (ev_op (ev_var rfl) ev_str (rd_eq (by decide +kernel) (by decide +kernel))))) (fun h => absurd h (by simp [PyData.eqv]; decide +kernel)) (fun _ => ?_))))) ?_
    · refine ms_seq (N1 := fun ρ' μ' => μ' = [(2, (beh s (.stop i)).cs.map encCpL)] ∧ ρ' = [some (encStL s), some (encDd (.stop i)), none, some (encO s.lead), some (.int (s.done : Nat)), some (.str "stop"), some (.int (i : Nat)), none, none, none, none]) (ms_setO (P := (· = encCpL ⟨false, (cp s i).term, (cp s i).rows⟩)) (PI := (· = .int (i : Nat))) (List.mem_singleton.mpr rfl) (by simp) (mx_lst (PL := (· = [.bool false, .int ((cp s i).term : Nat), encRows (cp s i).rows])) (ma_cons' (mx_of (ev_eqd (ev_op (ev_var rfl) ev_str (rd_eq (by decide +kernel) (by decide +kernel))) (congrArg PyData.bool (show PyData.eqv (.str "stop") (.str "start") = false by decide +kernel)))) (ma_cons' (mx_op' (mx_ixO' (x := (i : Nat)) (List.mem_singleton.mpr rfl) (mx_of (ev_var rfl)) (at_cpL hi)) (mx_of ev_int) (rd_ixL rfl)) (ma_cons' (mx_op' (mx_ixO' (x := (i : Nat)) (List.mem_singleton.mpr rfl) (mx_of (ev_var rfl)) (at_cpL hi)) (mx_of ev_int) (rd_ixL rfl)) ma_nil))) (by rintro x rfl; exact ⟨Nat.le_of_ble_eq_true rfl, rfl⟩)) (mx_of (ev_var rfl)) ?_) ?_
      · rintro d x rfl rfl
        refine ⟨i, rfl, by rw [List.length_map]; exact hi, ?_, rfl⟩
        simp [beh, List.map_set]
      rintro ρ' μ' ⟨rfl, rfl⟩
      refine ms_set (P := (· = encO (beh s (.stop i)).lead)) (mx_of (ev_ifE (d := encO (beh s (.stop i)).lead) (b := decide (s.lead = some i)) (et_eqb (ev_andT (ev_test (ev_op (ev_var rfl) ev_str (rd_eq (by decide +kernel) (by decide +kernel)))) fun _ => ev_test (ev_op (ev_var rfl) (ev_var rfl) (rd_eq (sh_encO _) rfl))) ?_) (fun h => ?_) (fun h => ?_))) (by simp) (by simp) (by rintro d rfl; exact ⟨rfl, rfl⟩)
      · rw [eqv_encO, show PyData.eqv (.str "stop") (.str "stop") = true by decide +kernel, Bool.true_and]
      · have h' : s.lead = some i := by simpa using h
        simp only [beh, if_pos h']
        exact ev_non
      · have h' : ¬ s.lead = some i := by simpa using h
        simp only [beh, if_neg h']
        exact ev_var rfl
    · rintro ρ' μ' ⟨rfl, rfl⟩
      refine ms_freeze (ms_ret (mx_imp (mx_of (ev_lst (ev_cons (ev_var rfl) (ev_cons (ev_var rfl) (ev_cons (ev_var rfl) ev_nil))) (Nat.le_of_ble_eq_true rfl))) ?_))
      rintro d rfl
      simp [beh, encStL]
  | start i =>
    have hi : i < s.cs.length := by
      simp only [can, Bool.and_eq_true, decide_eq_true_iff] at hcan
      exact hcan.1
    refine ms_seq (N1 := fun ρ' μ' => μ' = [(2, s.cs.map encCpL)] ∧ ρ' = [some (encStL s), some (encDd (.start i)), none, some (encO s.lead), some (.int (s.done : Nat)), some (.str "start"), some (.int (i : Nat)), none, none, none, none]) (ms_par (PL := (· = [.str "start", .int (i : Nat)])) (ma_of (ev_cons (ev_op (ev_var rfl) ev_int (rd_ixT rfl)) (ev_cons (ev_op (ev_var rfl) ev_int (rd_ixT rfl)) ev_nil))) (by rintro x rfl; exact ⟨_, _, rfl, rfl, rfl⟩) (by simp) (by simp)) ?_
    rintro ρ' μ' ⟨rfl, rfl⟩
    refine ms_seq (N1 := fun ρ' μ' => μ' = [(2, (beh s (.start i)).cs.map encCpL)] ∧ ρ' = [some (encStL s), some (encDd (.start i)), none, some (encO (beh s (.start i)).lead), some (.int (s.done : Nat)), some (.str "start"), some (.int (i : Nat)), none, none, none, none]) (ms_if (mt_of (ev_test (ev_op (ev_var rfl) ev_str (rd_eq (by decide +kernel) (by decide +kernel))))) (fun h => absurd h (by simp [PyData.eqv]; decide +kernel)) (fun _ => ms_if (mt_of (ev_test (ev_op (ev_var rfl) ev_str (rd_eq (by decide +kernel) (by decide +kernel))))) (fun h => absurd h (by simp [PyData.eqv]; decide +kernel)) (fun _ => ms_if (mt_of (ev_test (ev_op (ev_var rfl) ev_str (rd_eq (by decide +kernel) (by decide +kernel))))) (fun h => absurd h (by simp [PyData.eqv]; decide +kernel)) (fun _ => ms_if (mt_of (ev_test (ev_op (ev_var rfl) ev_str (rd_eq (by decide +kernel) (by decide +kernel))))) (fun h => absurd h (by simp [PyData.eqv]; decide +kernel)) (fun _ => ?_))))) ?_
    · refine ms_seq (N1 := fun ρ' μ' => μ' = [(2, (beh s (.start i)).cs.map encCpL)] ∧ ρ' = [some (encStL s), some (encDd (.start i)), none, some (encO s.lead), some (.int (s.done : Nat)), some (.str "start"), some (.int (i : Nat)), none, none, none, none]) (ms_setO (P := (· = encCpL ⟨true, (cp s i).term, (cp s i).rows⟩)) (PI := (· = .int (i : Nat))) (List.mem_singleton.mpr rfl) (by simp) (mx_lst (PL := (· = [.bool true, .int ((cp s i).term : Nat), encRows (cp s i).rows])) (ma_cons' (mx_of (ev_eqd (ev_op (ev_var rfl) ev_str (rd_eq (by decide +kernel) (by decide +kernel))) (congrArg PyData.bool (show PyData.eqv (.str "start") (.str "start") = true by decide +kernel)))) (ma_cons' (mx_op' (mx_ixO' (x := (i : Nat)) (List.mem_singleton.mpr rfl) (mx_of (ev_var rfl)) (at_cpL hi)) (mx_of ev_int) (rd_ixL rfl)) (ma_cons' (mx_op' (mx_ixO' (x := (i : Nat)) (List.mem_singleton.mpr rfl) (mx_of (ev_var rfl)) (at_cpL hi)) (mx_of ev_int) (rd_ixL rfl)) ma_nil))) (by rintro x rfl; exact ⟨Nat.le_of_ble_eq_true rfl, rfl⟩)) (mx_of (ev_var rfl)) ?_) ?_
      · rintro d x rfl rfl
        refine ⟨i, rfl, by rw [List.length_map]; exact hi, ?_, rfl⟩
        simp [beh, List.map_set]
      rintro ρ' μ' ⟨rfl, rfl⟩
      refine ms_set (P := (· = encO (beh s (.start i)).lead)) (mx_of (ev_ifE (d := encO (beh s (.start i)).lead) (b := false) (et_eqb (ev_andT (ev_test (ev_op (ev_var rfl) ev_str (rd_eq (by decide +kernel) (by decide +kernel)))) fun _ => ev_test (ev_op (ev_var rfl) (ev_var rfl) (rd_eq (sh_encO _) rfl))) ?_) (fun h => ?_) (fun h => ?_))) (by simp) (by simp) (by rintro d rfl; exact ⟨rfl, rfl⟩)
      · rw [show PyData.eqv (.str "start") (.str "stop") = false by decide +kernel, Bool.false_and]
      · cases h
      · exact ev_var rfl
    · rintro ρ' μ' ⟨rfl, rfl⟩
      refine ms_freeze (ms_ret (mx_imp (mx_of (ev_lst (ev_cons (ev_var rfl) (ev_cons (ev_var rfl) (ev_cons (ev_var rfl) ev_nil))) (Nat.le_of_ble_eq_true rfl))) ?_))
      rintro d rfl
      simp [beh, encStL]
  | go => cases hform
  | non => cases hform
  | app0 => cases hform
  | lst => cases hform

end KD

/-! KS: lists joined and cut, tuples of ranges. -/
namespace KD
open PySem L2 PySem.Spec PyProof.Rows K27
def rCatS (K : PySem.W.Frag) : R2 := fun x y H Q => ∃ a b xs ys, x = .ref a ∧ y = .ref b ∧ SqL K H a xs ∧ SqL K H b ys ∧ xs.length + ys.length ≤ sizeLine ∧ ∀ p, H p = none → Q (.ref p) (upd H p (.lst (xs ++ ys)))
theorem op_catS {X : Cx} : OpR X (binaryOp .Add) (rCatS X.K) := by
  intro ps0 sh σ H x y v u Q I relx rely hyp
  obtain ⟨a, b, xs, ys, rfl, rfl, ha, hb, few, fin⟩ := hyp
  cases relx
  cases rely
  obtain ⟨its, r, pl, _⟩ := I.list ha
  obtain ⟨its2, r2, pl2, _⟩ := I.list hb
  obtain ⟨⟨cls, dd, data, sl⟩, ho, hc, n, hd⟩ := pl.isList
  obtain ⟨⟨cls2, dd2, data2, sl2⟩, ho2, hc2, n2, hd2⟩ := pl2.isList
  simp only at hc hd hc2 hd2
  subst hc hd hc2 hd2
  have l1 := r.length
  have l2 := r2.length
  have join : its.toArray ++ its2.toArray = (its ++ its2).toArray := by simp
  refine concat_meets ⟨_, ho, rfl⟩ ⟨_, ho2, rfl⟩ noFill_list_add seq_list_add PySem.F.slot_list_add PySem.F.entry_list_add (PySem.F.args_list_add_2 _ _) (list_addW a b its.toArray its2.toArray n n2 dd dd2 sl sl2 (by rw [List.size_toArray, List.size_toArray]; omega)) ⟨ho, ho2, ?_⟩
  rw [join]
  exact ⟨.ref _, _, I.lnew (t' := sh.toks) (r.append r2) (by rw [List.length_append]; omega), rfl, fin _ I.fresh⟩
section
variable {K : PySem.W.Frag} {ρ : En} {te ta tb : TE} {ds es : List PyData}
theorem rd_catL (hz : ds.length + es.length ≤ sizeLine) : RD K (rCatS K) (.list ds) (.list es) (.list (ds ++ es)) := fun a b G H hs da db Q q => by
  obtain ⟨p, vs, e1, e2, e3⟩ := dp_lst da
  obtain ⟨p', vs', e1', e2', e3'⟩ := dp_lst db
  refine ⟨p, p', vs, vs', e1, e1', hs.seq e2, hs.seq e2', by rw [dpa_len e3, dpa_len e3']; exact hz, fun r hr => ?_⟩
  have st := Stp.new hs hr (.lst (vs ++ vs'))
  exact q _ _ _ st (.lst (.inl (.inl upd_same)) (dpa_mono (st.up hs) _ _ (dpa_app e3 e3')))
theorem ev_slL {tl th : TO} {lo hi : Option Int} (h : EvE K te ρ (.list ds)) (hl : EvO K tl ρ lo) (hh : EvO K th ρ hi) : EvE K (tSl (rSlL K) te tl th) ρ (.list (cutD ds lo hi)) := fun σ G H hs hd Q q =>
  h σ G H hs hd _ fun v G2 H2 s1 d1 => hl σ G2 H2 s1.sub (hd.mono (s1.up hs)) _ fun G3 H3 s2 => hh σ G3 H3 s2.sub (hd.mono ((s1.trans s2).up hs)) _ fun G4 H4 s3 => by
    have s13 := (s1.trans s2).trans s3
    have d4 := dp_mono ((s2.trans s3).up s1.sub) _ _ d1
    obtain ⟨p, vs, e1, e2, e3⟩ := dp_lst d4
    refine ⟨p, vs, e1, s3.sub.seq e2, fun r hr => ?_⟩
    have st := Stp.new s3.sub hr (.lst (cutV vs lo hi))
    refine q _ _ _ (s13.trans st) (.lst (.inl (.inl upd_same)) (dpa_mono (st.up s3.sub) _ _ ?_))
    unfold cutV cutD
    rw [dpa_len e3]
    exact dpa_take _ (dpa_drop _ e3)
theorem rgV_nats (a b : Nat) : rgV (a : Int) (b : Int) = ((List.range (b - a)).map fun i => V.int ((a + i : Nat) : Int)) := by
  unfold rgV
  rw [show ((b : Int) - (a : Int)).toNat = b - a by omega]
  apply List.map_congr_left
  intro i _
  simp
theorem dpa_range {H : Hp} (a n : Nat) : DpAll K H ((List.range n).map fun i => V.int ((a + i : Nat) : Int)) (nats ((List.range n).map fun i => a + i)) := by
  have e : ((List.range n).map fun i => V.int ((a + i : Nat) : Int)) = ((List.range n).map fun i => ((a + i : Nat) : Int)).map V.int := by rw [List.map_map]; rfl
  have e2 : nats ((List.range n).map fun i => a + i) = ((List.range n).map fun i => ((a + i : Nat) : Int)).map PyData.int := by unfold nats; rw [List.map_map, List.map_map]; rfl
  rw [e, e2]
  exact ints_dpa _
theorem ev_tupRg1 {n : Nat} (h : EvE K ta ρ (.int (n : Nat))) (hn : n ≤ 1000) : EvE K (tTupRg (tRg1 ta)) ρ (.tuple (nats (List.range n))) := fun σ G H hs hd Q q =>
  h σ G H hs hd _ fun v G2 H2 s dv => by
    refine ⟨(n : Int), dp_int dv, ⟨by omega, by omega, by omega, by omega, by rw [show ((n : Int) - 0).toNat = n by omega]; exact Nat.le_trans hn (by decide)⟩, fun p hp => ?_⟩
    have st := Stp.new s.sub hp (.tup (rgV 0 (n : Int)))
    refine q _ _ _ (s.trans st) (.tup (.inl (.inl upd_same)) ?_)
    have e := rgV_nats 0 n
    have d := dpa_range (K := K) (H := upd G2 p (.tup (rgV 0 (n : Int)))) 0 n
    rw [show (List.range n).map (fun i => 0 + i) = List.range n by simp] at d
    rw [show ((0 : Nat) : Int) = 0 from rfl, Nat.sub_zero] at e
    rw [e]
    exact d
theorem ev_tupRg2 {a n : Nat} (h : EvE K ta ρ (.int (a : Nat))) (h' : EvE K tb ρ (.int (n : Nat))) (ha : a ≤ 1000) (hn : n ≤ 1000) : EvE K (tTupRg (tRg2 ta tb)) ρ (.tuple (nats ((List.range (n - a)).map fun i => a + i))) := fun σ G H hs hd Q q =>
  h σ G H hs hd _ fun v G2 H2 s dv => h' σ G2 H2 s.sub (hd.mono (s.up hs)) _ fun v' G3 H3 s' dv' => by
    refine ⟨(a : Int), (n : Int), dp_int dv, dp_int dv', ⟨by omega, by omega, by omega, by omega, by rw [show ((n : Int) - (a : Int)).toNat = n - a by omega]; exact Nat.le_trans (Nat.le_trans (Nat.sub_le _ _) hn) (by decide)⟩, fun p hp => ?_⟩
    have st := Stp.new s'.sub hp (.tup (rgV (a : Int) (n : Int)))
    refine q _ _ _ ((s.trans s').trans st) (.tup (.inl (.inl upd_same)) ?_)
    rw [rgV_nats a n]
    exact dpa_range a (n - a)
end
end KD

/-! KF14: the law's paper; drawn deeds. -/
namespace KD
open PySem L2 PySem.Spec PyProof.Rows K27

abbrev s__law_paper : Stmt := top 56
abbrev N__law_paper : List Str := ["many", "deeds", "state", "at", "deed"]
theorem sc__law_paper : FnScope N__law_paper ["many", "deeds"] (defScope s__law_paper) := ⟨rfl, rfl, rfl, by decide +kernel, rfl, by decide +kernel, by decide +kernel⟩


def F__law_paper : List PyData → PyData → Prop := fun ds z => ∃ (many : Nat) (dl : List Dd), (many = 3 ∨ many = 5) ∧ (∀ d ∈ dl, fit2 d) ∧ (dl.length ≤ 400) ∧ ds = [.int many, .tuple (dl.map encDd)] ∧ z = plD (fun s => .tuple [.str "play", encSt s, evsD s]) (fun x => .tuple [.str "wrong", .int (x : Nat)]) (play (init many) dl 0)
theorem I__law_paper {many : Nat} {dl : List Dd} (p0 : many = 3 ∨ many = 5) (p1 : ∀ d ∈ dl, fit2 d) (p2 : dl.length ≤ 400) : F__law_paper [.int many, .tuple (dl.map encDd)] (plD (fun s => .tuple [.str "play", encSt s, evsD s]) (fun x => .tuple [.str "wrong", .int (x : Nat)]) (play (init many) dl 0)) := ⟨many, dl, p0, p1, p2, rfl, rfl⟩
theorem R__law_paper {P : Program} {w : World} {K : PySem.W.Frag} {mg : Str → Option Value} {base : Heap} (T : Tx mg) (kn : Kn K mg "_law_paper" s__law_paper ["many", "deeds"]) (R__law_committed : Rdy P w K mg base 1 "_law_committed" ["state"] (spP K F__law_committed)) (R__law_told_state : Rdy P w K mg base 1 "_law_told_state" ["state"] (spP K F__law_told_state)) (R__law_behind : Rdy P w K mg base 1 "_law_behind" ["state", "deed"] (spP K F__law_behind)) (R__law_can : Rdy P w K mg base 2 "_law_can" ["state", "deed"] (spP K F__law_can)) (R__law_is_deed : Rdy P w K mg base 4 "_law_is_deed" ["value"] (spP K F__law_is_deed)) (R__law_state : Rdy P w K mg base 1 "_law_state" ["many"] (spP K F__law_state)) : Rdy P w K mg base 5 "_law_paper" ["many", "deeds"] (spP K F__law_paper) := by
  refine rdy_of kn sc__law_paper (fun ds z h => ?_) (by decide) (fun f cdv A outer s H E hr ds z h => ?_)
  · obtain ⟨many, dl, p0, p1, p2, rfl, rfl⟩ := h
    rfl
  obtain ⟨many, dl, p0, p1, p2, rfl, rfl⟩ := h
  refine ⟨_, (pss_cons (ps_set (i := 2) sc__law_paper.nd rfl (by first | exact Or.inl rfl | exact Or.inr rfl) (pe_fn R__law_state (hr.mono (by decide)) (by rfl) (pa_cons (pv 0) pa_nil))) (pss_cons (ps_for PassesOwn.never rfl (pi_enT (by rfl) T.b_enumerate (pa_cons (pv 1) pa_nil)) (pg_tup (by rfl) (pgs_cons (pg_name (i := 3) sc__law_paper.nd rfl (by first | exact Or.inl rfl | exact Or.inr rfl)) (pgs_cons (pg_name (i := 4) sc__law_paper.nd rfl (by first | exact Or.inl rfl | exact Or.inr rfl)) pgs_nil))) (pss_cons (ps_if (PW.pt (pw_or (pt_not (pt_val (pe_fn R__law_is_deed (hr.mono (by decide)) (by rfl) (pa_cons (pv 4) pa_nil)))) (pw_or1 (pt_not (pt_val (pe_fn R__law_can (hr.mono (by decide)) (by rfl) (pa_cons (pv 2) (pa_cons (pv 4) pa_nil)))))))) (pss_one (ps_ret (pe_tup (pa_cons pe_str (pa_cons (pv 3) pa_nil))))) pss_nil) (pss_one (ps_set (i := 2) sc__law_paper.nd rfl (by first | exact Or.inl rfl | exact Or.inr rfl) (pe_fn R__law_behind (hr.mono (by decide)) (by rfl) (pa_cons (pv 2) (pa_cons (pv 4) pa_nil))))))) (pss_one (ps_ret (pe_tup (pa_cons pe_str (pa_cons (pe_fn R__law_told_state (hr.mono (by decide)) (by rfl) (pa_cons (pv 2) pa_nil)) (pa_cons (pe_fn R__law_committed (hr.mono (by decide)) (by rfl) (pa_cons (pv 2) pa_nil)) pa_nil)))))))), ?_⟩
  refine es_seq (es_set (ev_call (ev_cons (ev_var rfl) ev_nil) (I__law_state (many := many) (by omega)))) ?_
  refine es_play (Φ := fit2) (many := many) (by omega) (by omega) (fun s ρ => ∃ o1 o2, ρ = [some (.int (many : Nat)), some (.tuple (dl.map encDd)), some (encStL s), o1, o2]) dl p1 (by omega) ?_ ⟨none, none, rfl⟩ ?_ ?_
  · exact ei_enT (ev_cons (ev_var rfl) ev_nil)
  · rintro k s d ρ ⟨o1, o2, rfl⟩ hg hfit
    refine ⟨_, _, eg_tup (eg_cons eg_name (eg_cons eg_name eg_nil)) rfl, ?_⟩
    have hcond : (!form d || !(if form d = true then can s d else true)) = !ok s d := by
      unfold ok
      cases form d <;> simp
    have htest : EvT K (tOr (tNot (tB (tCall (spP K F__law_is_deed) [] E0 (tCons (tVar 4) tNil)))) (tNot (tB (tCall (spP K F__law_can) [] E0 (tCons (tVar 2) (tCons (tVar 4) tNil)))))) [some (.int (many : Nat)), some (.tuple (dl.map encDd)), some (encStL s), some (.int (k : Nat)), some (encDd d)] (!ok s d) := by
      cases hf : form d with
      | false =>
        have : (!ok s d) = (!false || false) := by unfold ok; rw [hf]; rfl
        rw [this]
        exact ev_orT (c := false) (ev_notT (ev_tB (ev_eqd (ev_call (ev_cons (ev_var rfl) ev_nil) (I__law_is_deed hfit)) (by rw [hf])))) (fun h => nomatch h)
      | true =>
        have : (!ok s d) = (!true || !can s d) := by unfold ok; rw [hf]; rfl
        rw [this]
        exact ev_orT (ev_notT (ev_tB (ev_eqd (ev_call (ev_cons (ev_var rfl) ev_nil) (I__law_is_deed hfit)) (by rw [hf])))) (fun _ => ev_notT (ev_tB (ev_call (ev_cons (ev_var rfl) (ev_cons (ev_var rfl) ev_nil)) (I__law_can hg hfit hf))))
    cases ho : ok s d with
    | true =>
      exact .inl ⟨rfl, _, es_ifS htest (fun h => by rw [ho] at h; cases h) fun _ => es_nxS (es_set (ev_call (ev_cons (ev_var rfl) (ev_cons (ev_var rfl) ev_nil)) (I__law_behind hg hfit ho))), ⟨_, _, rfl⟩⟩
    | false =>
      exact .inr ⟨rfl, es_ifS htest (fun _ => es_rt (es_ret (ev_tup (ev_cons ev_str (ev_cons (ev_var rfl) ev_nil)) (Nat.le_of_ble_eq_true rfl)))) (fun h => by rw [ho] at h; cases h)⟩
  · rintro s x ρ' hp ⟨o1, o2, rfl⟩
    have gd : Gd s := play_gd (by omega) (by omega) (by omega) hp
    exact es_ret (ev_tup (ev_cons ev_str (ev_cons (ev_call (ev_cons (ev_var rfl) ev_nil) (I__law_told_state gd)) (ev_cons (ev_call (ev_cons (ev_var rfl) ev_nil) (I__law_committed gd)) ev_nil))) (Nat.le_of_ble_eq_true rfl))

abbrev s__law_drawn_deed : Stmt := top 49
abbrev N__law_drawn_deed : List Str := ["jug", "state", "events", "copies", "leads", "done", "many", "way", "rows", "voters", "one"]
theorem sc__law_drawn_deed : FnScope N__law_drawn_deed ["jug", "state", "events"] (defScope s__law_drawn_deed) := ⟨rfl, rfl, rfl, by decide +kernel, rfl, by decide +kernel, by decide +kernel⟩

theorem rising_snoc : ∀ (vs : List Nat) (k : Nat), rising vs = true → (∀ v ∈ vs, v < k) → rising (vs ++ [k]) = true
  | [], _, _, _ => rfl
  | [a], k, _, h => by
    show (decide (a < k) && true) = true
    rw [Bool.and_true]
    exact decide_eq_true (h a (by simp))
  | a :: b :: r, k, hr, h => by
    simp only [rising, Bool.and_eq_true] at hr
    show (decide (a < b) && rising ((b :: r) ++ [k])) = true
    rw [hr.1, rising_snoc (b :: r) k hr.2 fun v hv => h v (List.mem_cons_of_mem _ hv)]
    rfl

def F__law_drawn_deed : List PyData → (PyData → Prop) → Prop := fun ds R => ∃ (s : K27.St) (evs : List Ev), (Gd s) ∧ (∀ i, (cp s i).rows.length ≤ 400) ∧ (evs ≠ []) ∧ (evs.length ≤ 1000) ∧ (∀ e ∈ evs, evOk e = true) ∧ (1 ≤ s.cs.length) ∧ ds = [encStL s, .list (evs.map encEv)] ∧ R = fun z => ∃ d, z = encDd d ∧ fit2 d ∧ form d = true
theorem I__law_drawn_deed {s : K27.St} {evs : List Ev} (p0 : Gd s) (p1 : ∀ i, (cp s i).rows.length ≤ 400) (p2 : evs ≠ []) (p3 : evs.length ≤ 1000) (p4 : ∀ e ∈ evs, evOk e = true) (p5 : 1 ≤ s.cs.length) : F__law_drawn_deed [encStL s, .list (evs.map encEv)] (fun z => ∃ d, z = encDd d ∧ fit2 d ∧ form d = true) := ⟨s, evs, p0, p1, p2, p3, p4, p5, rfl, rfl⟩
theorem R__law_drawn_deed {P : Program} {w : World} {K : PySem.W.Frag} {mg : Str → Option Value} {base : Heap} (T : Tx mg) (kn : Kn K mg "_law_drawn_deed" s__law_drawn_deed ["jug", "state", "events"]) (R__law_pick : Rdy P w K mg base 2 "_law_pick" ["jug", "items"] (spJ K F__law_pick)) (R__law_sip : Rdy P w K mg base 1 "_law_sip" ["jug", "total"] (spJ K F__law_sip)) : Rdy P w K mg base 3 "_law_drawn_deed" ["jug", "state", "events"] (spJ K F__law_drawn_deed) := by
  refine rdyJ_of kn sc__law_drawn_deed (fun ds z h => ?_) (by decide) (fun f cdv A outer s H E hr ds z h => ?_)
  · obtain ⟨s, evs, p0, p1, p2, p3, p4, p5, rfl, rfl⟩ := h
    rfl
  obtain ⟨s, evs, p0, p1, p2, p3, p4, p5, rfl, rfl⟩ := h
  refine ⟨_, (pss_cons (ps_asg (pv 1) (pg_unl (by rfl) (pgs_cons (pg_name (i := 3) sc__law_drawn_deed.nd rfl (by first | exact Or.inl rfl | exact Or.inr rfl)) (pgs_cons (pg_name (i := 4) sc__law_drawn_deed.nd rfl (by first | exact Or.inl rfl | exact Or.inr rfl)) (pgs_cons (pg_name (i := 5) sc__law_drawn_deed.nd rfl (by first | exact Or.inl rfl | exact Or.inr rfl)) pgs_nil))))) (pss_cons (ps_par (i := 6) (j := 7) rfl sc__law_drawn_deed.nd rfl rfl (by decide) rfl rfl (pa_cons (pe_callB call_len_seq (by rfl) T.b_len bt_len (pa_cons (pv 3) pa_nil)) (pa_cons (pe_fn R__law_sip (hr.mono (by decide)) (by rfl) (pa_cons (pv 0) (pa_cons pe_int pa_nil))) pa_nil)) (by rfl)) (pss_cons (ps_if (PW.pt (pw_and (pt_cmpR op_lt (pv 7) pe_int (by first | rfl | exact nomark _)) (pw_and1 (pt_cmp (pc_notN (pv 4)) rfl)))) (pss_one (ps_ret (pe_tup (pa_cons pe_str (pa_cons (pe_fn R__law_pick (hr.mono (by decide)) (by rfl) (pa_cons (pv 0) (pa_cons (pv 2) pa_nil))) pa_nil))))) pss_nil) (pss_cons (ps_if (PW.pt (pw_and (pt_cmpR op_lt (pv 7) pe_int (by first | rfl | exact nomark _)) (pw_and1 (pt_cmp (pc_notN (pv 4)) rfl)))) (pss_one (ps_ret (pe_tup (pa_cons pe_str (pa_cons (pe_fn R__law_sip (hr.mono (by decide)) (by rfl) (pa_cons (pv 0) (pa_cons (pv 6) pa_nil))) pa_nil))))) pss_nil) (pss_cons (ps_if (PW.pt (pw_and (pt_cmpR op_lt (pv 7) pe_int (by first | rfl | exact nomark _)) (pw_and1 (pt_cmp (pc_notN (pv 4)) rfl)))) (pss_cons (ps_set (i := 8) sc__law_drawn_deed.nd rfl (by first | exact Or.inl rfl | exact Or.inr rfl) (pe_callB call_len_seq (by rfl) T.b_len bt_len (pa_cons (pe_ix ix_list (pe_ix ix_list (pv 3) (pv 4) (fun _ _ => rfl)) pe_int (fun _ _ => rfl)) pa_nil))) (pss_one (ps_ret (pe_tup (pa_cons pe_str (pa_cons (pe_callB (call_max2 rfl) (by rfl) T.b_max bt_max (pa_cons pe_int (pa_cons (pe_op op_sub (pv 8) (pe_fn R__law_pick (hr.mono (by decide)) (by rfl) (pa_cons (pv 0) (pa_cons (pe_lst (pa_cons pe_int (pa_cons pe_int (pa_cons pe_int (pa_cons pe_int (pa_cons pe_int pa_nil)))))) pa_nil)))) pa_nil))) pa_nil)))))) pss_nil) (pss_cons (ps_if (pt_cmpR op_lt (pv 7) pe_int (by first | rfl | exact nomark _)) (pss_one (ps_ret (pe_tup (pa_cons (pe_fn R__law_pick (hr.mono (by decide)) (by rfl) (pa_cons (pv 0) (pa_cons (pe_lst (pa_cons pe_str (pa_cons pe_str (pa_cons pe_str pa_nil)))) pa_nil))) (pa_cons (pe_fn R__law_sip (hr.mono (by decide)) (by rfl) (pa_cons (pv 0) (pa_cons (pv 6) pa_nil))) pa_nil))))) pss_nil) (pss_cons (ps_setLc (i := 9) (own := [("one", 10)]) (g := (gName 10)) (tt := (tTest (tOp _ (tCall (spJ K F__law_sip) [] E0 (tCons (tVar 0) (tCons (tC (.int 4)) tNil))) (tC (.int 0))))) (te := (tVar 10)) rfl sc__law_drawn_deed.nd rfl rfl (sw_true rfl rfl rfl (by decide +kernel)) (pi_range1 (by rfl) T.b_range (pa_cons (pv 6) pa_nil)) (blkOk_by (N := N__law_drawn_deed) (sc := defScope s__law_drawn_deed) (by decide +kernel)) (fun _ _ _ _ _ => by exact (pg_name (i := 10) sc__law_drawn_deed.nd rfl (by first | exact Or.inl rfl | exact Or.inr rfl))) (fun _ _ _ _ _ => by exact (pts_one (pt_cmpR op_gt (pe_fn R__law_sip (hr.mono (by decide)) (by rfl) (pa_cons (pv 0) (pa_cons pe_int pa_nil))) pe_int (by first | rfl | exact nomark _)))) (fun _ _ _ _ _ => by exact (pv 10))) (pss_one (ps_ret (pe_tup (pa_cons pe_str (pa_cons (pe_ifExp (pt_cmpR (op_neD hr.units) (pv 9) (pe_lst pa_nil) (by first | rfl | exact nomark _)) (pe_fn R__law_pick (hr.mono (by decide)) (by rfl) (pa_cons (pv 0) (pa_cons (pv 9) pa_nil))) pe_int) (pa_cons (pe_callTy call_tuple_of (by rfl) T.b_tuple bt_tuple (pa_cons (pv 9) pa_nil)) pa_nil))))))))))))), ?_⟩
  have hlen := p0.len
  refine ms_seq (N1 := fun ρ' μ' => μ' = [] ∧ ρ' = [none, some (encStL s), some (.list (evs.map encEv)), some (.list (s.cs.map encCpL)), some (encO s.lead), some (.int (s.done : Nat)), none, none, none, none, none]) (ms_asg (P := (· = encStL s)) (ρ' := fun _ => [none, some (encStL s), some (.list (evs.map encEv)), some (.list (s.cs.map encCpL)), some (encO s.lead), some (.int (s.done : Nat)), none, none, none, none, none]) (mx_of (ev_var rfl)) (by rintro d rfl; exact eg_lst (eg_cons eg_name (eg_cons eg_name (eg_cons eg_name eg_nil))) rfl) (by simp) (by simp) (by rintro d rfl; exact ⟨rfl, rfl⟩)) ?_
  rintro ρ' μ' ⟨rfl, rfl⟩
  refine ms_seq (N1 := fun ρ' μ' => μ' = [] ∧ ∃ w : Nat, w < 20 ∧ ρ' = [none, some (encStL s), some (.list (evs.map encEv)), some (.list (s.cs.map encCpL)), some (encO s.lead), some (.int (s.done : Nat)), some (.int (s.cs.length : Nat)), some (.int (w : Nat)), none, none, none]) (ms_par (ma_cons (P := (· = .int (s.cs.length : Nat))) (mx_of (ev_eqd (ev_cb (ev_cons (ev_var rfl) ev_nil) rc_lenL) (by rw [List.length_map]))) (ma_cons (P := fun d => ∃ w : Nat, w < 20 ∧ d = .int (w : Nat)) (mx_callJ (PL := (· = [.int (20 : Nat)])) (ma_of (ev_cons ev_int ev_nil)) (by rintro l rfl; exact ⟨_, I__law_sip (by decide) (by decide), fun z h => h⟩)) ma_nil)) (by
    rintro l ⟨d, ds, rfl, rfl, d', ds', rfl, ⟨w, hw, rfl⟩, rfl⟩
    exact ⟨_, _, rfl, rfl, w, hw, rfl⟩) (by simp) (by simp)) ?_
  rintro ρ' μ' ⟨rfl, w, hw, rfl⟩
  have pickEv : ∀ {ρ : En}, ρ[2]? = some (some (.list (evs.map encEv))) → MX K (some 0) (tCall (spJ K F__law_pick) [] E0 (tCons (tVar 0) (tCons (tVar 2) tNil))) ρ [] (fun d => ∃ e ∈ evs, d = encEv e) := fun hρ =>
    mx_callJ (PL := (· = [.list (evs.map encEv)])) (ma_of (ev_cons (ev_var hρ) ev_nil)) (by
      rintro l rfl
      refine ⟨_, I__law_pick (by simpa using p2) (by rw [List.length_map]; omega), fun z h => ?_⟩
      obtain ⟨e, he, rfl⟩ := List.mem_map.mp h
      exact ⟨e, he, rfl⟩)
  have sipMany : ∀ {ρ : En}, ρ[6]? = some (some (.int (s.cs.length : Nat))) → MX K (some 0) (tCall (spJ K F__law_sip) [] E0 (tCons (tVar 0) (tCons (tVar 6) tNil))) ρ [] (fun d => ∃ i : Nat, i < s.cs.length ∧ d = .int (i : Nat)) := fun hρ =>
    mx_callJ (PL := (· = [.int (s.cs.length : Nat)])) (ma_of (ev_cons (ev_var hρ) ev_nil)) (by
      rintro l rfl
      exact ⟨_, I__law_sip p5 (by omega), fun z h => h⟩)
  refine ms_ifS (PB := fun _ => s.lead ≠ none ∨ True) (mt_imp (mt_of (ev_andT (ev_test (ev_op (ev_var rfl) ev_int rd_lt)) fun _ => ev_tB (ev_notN (ev_var rfl)))) fun _ _ => .inr trivial) (fun _ => ms_rt (ms_ret (mx_tup (ma_cons (P := (· = .str "append")) (mx_of ev_str) (ma_cons (pickEv rfl) ma_nil)) ?_))) (fun _ => ms_nxS ?_)
  · rintro l ⟨d, ds, rfl, rfl, d', ds', rfl, ⟨e, he, rfl⟩, rfl⟩
    exact ⟨Nat.le_of_ble_eq_true rfl, .append e, rfl, p4 e he, p4 e he⟩
  refine ms_ifS (PB := fun _ => True) (mt_imp (mt_of (ev_andT (ev_test (ev_op (ev_var rfl) ev_int rd_lt)) fun _ => ev_tB (ev_notN (ev_var rfl)))) fun _ _ => trivial) (fun _ => ms_rt (ms_ret (mx_tup (ma_cons (P := (· = .str "copy")) (mx_of ev_str) (ma_cons (sipMany rfl) ma_nil)) ?_))) (fun _ => ms_nxS ?_)
  · rintro l ⟨d, ds, rfl, rfl, d', ds', rfl, ⟨i, hi, rfl⟩, rfl⟩
    exact ⟨Nat.le_of_ble_eq_true rfl, .copy i, rfl, trivial, by simp [form]; omega⟩
  refine ms_ifS (PB := fun b => b = true → s.lead ≠ none) (mt_imp (mt_of (ev_andT (ev_test (ev_op (ev_var rfl) ev_int rd_lt)) fun _ => ev_tB (ev_notN (ev_var rfl)))) fun b e h => ?_) (fun hb => ms_rt ?_) (fun _ => ms_nxS ?_)
  · rw [e, isN_encO] at h
    intro z
    rw [z] at h
    simp at h
  · cases hl : s.lead with
    | none => exact absurd hl (hb rfl)
    | some l =>
    have ll := p0.lead hl
    have hrl := p1 l
    refine ms_seq (N1 := fun ρ' μ' => μ' = [] ∧ ρ' = [none, some (encStL s), some (.list (evs.map encEv)), some (.list (s.cs.map encCpL)), some (encO (some l)), some (.int (s.done : Nat)), some (.int (s.cs.length : Nat)), some (.int (w : Nat)), some (.int ((cp s l).rows.length : Nat)), none, none]) (ms_set (P := (· = .int ((cp s l).rows.length : Nat))) (mx_of (ev_eqd (ev_cb (ev_cons (ev_op (ev_op (ev_var rfl) (ev_var rfl) (rd_ixL (at_cpL ll))) ev_int (rd_ixL rfl)) ev_nil) rc_lenT) (by rw [List.length_map]))) (by simp) (by simp) (by rintro d rfl; exact ⟨rfl, rfl⟩)) ?_
    rintro ρ' μ' ⟨rfl, rfl⟩
    refine ms_ret (mx_tup (ma_cons (P := (· = .str "commit")) (mx_of ev_str) (ma_cons (P := fun d => ∃ n : Nat, 1 ≤ n ∧ n ≤ 400 ∧ d = .int (n : Nat)) (mx_cb (PL := fun l' => ∃ k : Nat, k ≤ 2 ∧ l' = [.int 1, .int (((cp s l).rows.length : Nat) - (k : Nat))]) ?_ ?_) ma_nil)) ?_)
    · intro j G0 H0 σ G H m Q q
      refine ma_cons (P := (· = .int 1)) (mx_of ev_int) (ma_cons (P := fun d => ∃ k : Nat, k ≤ 2 ∧ d = .int (((cp s l).rows.length : Nat) - (k : Nat))) (mx_op (P1 := (· = .int ((cp s l).rows.length : Nat))) (P2 := fun d => ∃ k : Nat, k ≤ 2 ∧ d = .int (k : Nat)) (mx_of (ev_var rfl)) (mx_callJ (PL := (· = [.list [.int 0, .int 0, .int 0, .int 1, .int 2]])) (ma_of (ev_cons (ev_lst (ev_cons ev_int (ev_cons ev_int (ev_cons ev_int (ev_cons ev_int (ev_cons ev_int ev_nil))))) (Nat.le_of_ble_eq_true rfl)) ev_nil)) ?_) ?_) ma_nil) j G0 H0 σ G H m Q fun vs G2 H2 l' m2 s2 dv ⟨d, ds, e, e1, d2, ds2, e2, ⟨k, hk, e3⟩, e4⟩ => q vs G2 H2 l' m2 s2 dv ⟨k, hk, by rw [e, e1, e2, e3, e4]⟩
      · rintro l' rfl
        refine ⟨_, I__law_pick (by simp) (by decide), fun z h => ?_⟩
        simp only [List.mem_cons, List.not_mem_nil, or_false] at h
        rcases h with rfl | rfl | rfl | rfl | rfl
        · exact ⟨0, by decide, rfl⟩
        · exact ⟨0, by decide, rfl⟩
        · exact ⟨0, by decide, rfl⟩
        · exact ⟨1, by decide, rfl⟩
        · exact ⟨2, by decide, rfl⟩
      · rintro x y rfl ⟨k, hk, rfl⟩
        exact ⟨_, rd_sub, k, hk, rfl⟩
    · rintro l' ⟨k, hk, rfl⟩
      refine ⟨_, rc_max2, (if (((cp s l).rows.length : Nat) : Int) - (k : Nat) > 1 then (cp s l).rows.length - k else 1), ?_, ?_, ?_⟩
      · split <;> omega
      · split <;> omega
      · split <;> congr 1
        omega
    · rintro l' ⟨d, ds, rfl, rfl, d', ds', rfl, ⟨n, h1, h2, rfl⟩, rfl⟩
      exact ⟨Nat.le_of_ble_eq_true rfl, .commit n, rfl, trivial, by simp [form]; omega⟩
  refine ms_ifS (PB := fun _ => True) (mt_imp (mt_of (ev_test (ev_op (ev_var rfl) ev_int rd_lt))) fun _ _ => trivial) (fun _ => ms_rt (ms_ret (mx_tup (ma_cons (P := fun d => d = .str "stop" ∨ d = .str "start") (mx_callJ (PL := (· = [.list [.str "stop", .str "start", .str "start"]])) (ma_of (ev_cons (ev_lst (ev_cons ev_str (ev_cons ev_str (ev_cons ev_str ev_nil))) (Nat.le_of_ble_eq_true rfl)) ev_nil)) ?_) (ma_cons (sipMany rfl) ma_nil)) ?_))) (fun _ => ms_nxS ?_)
  · rintro l' rfl
    refine ⟨_, I__law_pick (by simp) (by decide), fun z h => ?_⟩
    simp only [List.mem_cons, List.not_mem_nil, or_false] at h
    rcases h with h | h | h
    · exact .inl h
    · exact .inr h
    · exact .inr h
  · rintro l ⟨d, ds, rfl, h, d', ds', rfl, ⟨i, hi, rfl⟩, rfl⟩
    rcases h with rfl | rfl
    · exact ⟨Nat.le_of_ble_eq_true rfl, .stop i, rfl, trivial, by simp [form]; omega⟩
    · exact ⟨Nat.le_of_ble_eq_true rfl, .start i, rfl, trivial, by simp [form]; omega⟩
  refine ms_seq (N1 := fun ρ' μ' => μ' = [] ∧ ∃ vs : List Nat, vs.length ≤ 5 ∧ rising vs = true ∧ (∀ v ∈ vs, v < s.cs.length) ∧ ρ' = [none, some (encStL s), some (.list (evs.map encEv)), some (.list (s.cs.map encCpL)), some (encO s.lead), some (.int (s.done : Nat)), some (.int (s.cs.length : Nat)), some (.int (w : Nat)), none, some (.list (nats vs)), none]) (ms_set (P := fun d => ∃ vs : List Nat, vs.length ≤ 5 ∧ rising vs = true ∧ (∀ v ∈ vs, v < s.cs.length) ∧ d = .list (nats vs)) (mx_fx (C := fun c => ∃ vs : List Nat, vs.length ≤ 5 ∧ rising vs = true ∧ (∀ v ∈ vs, v < s.cs.length) ∧ c = nats vs) (fx_lc (ds := nats (List.range s.cs.length)) ?_ (by simp) (by simp) (fun r acc => ∃ k, k ≤ s.cs.length ∧ r = nats ((List.range s.cs.length).drop k) ∧ ∃ vs : List Nat, vs.length ≤ k ∧ rising vs = true ∧ (∀ v ∈ vs, v < k) ∧ acc = nats vs) ⟨0, Nat.zero_le _, rfl, [], Nat.le_refl _, rfl, by simp, rfl⟩ ?_ ?_ (Nat.le_trans (m := 5) (by simp [nats]; omega) (by decide))) (by rintro c ⟨vs, h1, h2, h3, rfl⟩; exact ⟨vs, h1, h2, h3, rfl⟩)) (by simp) (by simp) (by rintro d ⟨vs, h1, h2, h3, rfl⟩; exact ⟨rfl, vs, h1, h2, h3, rfl⟩)) ?_
  · refine ei_eqd (ei_range1 (ev_cons (ev_var rfl) ev_nil) (by omega) (by omega)) ?_
    rw [Int.toNat_natCast]
    rfl
  · rintro x r acc ⟨k, hk, e1, vs, h1, h2, h3, rfl⟩
    have hk' : k < s.cs.length := by
      rcases Nat.lt_or_ge k s.cs.length with h | h
      · exact h
      · rw [List.drop_of_length_le (by rw [List.length_range]; exact h)] at e1
        cases e1
    have ed : (List.range s.cs.length).drop k = k :: (List.range s.cs.length).drop (k + 1) := by
      rw [List.drop_eq_getElem_cons (by rw [List.length_range]; exact hk')]
      simp
    rw [ed] at e1
    injection e1 with e2 e3
    subst e2 e3
    refine ⟨_, _, eg_name, by simp, fun _ => True, (· = .int (k : Nat)), mt_test (mx_op (P1 := fun d => ∃ n : Nat, d = .int (n : Nat)) (P2 := (· = .int 0)) (mx_callJ (PL := (· = [.int (4 : Nat)])) (ma_of (ev_cons ev_int ev_nil)) (by rintro l rfl; exact ⟨_, I__law_sip (by decide) (by decide), fun z ⟨n, _, e⟩ => ⟨n, e⟩⟩)) (mx_of ev_int) ?_), fun _ => mx_of (ev_var rfl), fun e _ he => ?_, fun _ => ?_⟩
    · rintro x y ⟨n, rfl⟩ rfl
      exact ⟨_, rd_gt, _, rfl, trivial⟩
    · refine ⟨k + 1, hk', rfl, vs ++ [k], by simp; omega, rising_snoc vs k h2 h3, fun v hv => ?_, by rw [he]; simp [nats]⟩
      rcases List.mem_append.mp hv with z | z
      · exact Nat.lt_succ_of_lt (h3 v z)
      · rw [List.mem_singleton.mp z]; exact Nat.lt_succ_self _
    · exact ⟨k + 1, hk', rfl, vs, by omega, h2, fun v hv => Nat.lt_succ_of_lt (h3 v hv), rfl⟩
  · rintro acc ⟨k, hk, e1, vs, h1, h2, h3, rfl⟩
    exact ⟨vs, by omega, h2, fun v hv => Nat.lt_of_lt_of_le (h3 v hv) hk, rfl⟩
  rintro ρ' μ' ⟨rfl, vs, h1, h2, h3, rfl⟩
  refine ms_ret (mx_tup (ma_cons (P := (· = .str "elect")) (mx_of ev_str) (ma_cons (P := fun d => ∃ i : Nat, i ≤ 4 ∧ d = .int (i : Nat)) (mx_if (PB := (· = !vs.isEmpty)) (mt_of (et_eqb (ev_test (ev_op (ev_var rfl) (ev_lst ev_nil (Nat.le_of_ble_eq_true rfl)) (rd_ne (sh_lnats _) sh_lnil))) (by rw [eqv_lnil, nats_emp]))) (fun hb => mx_callJ (PL := (· = [.list (nats vs)])) (ma_of (ev_cons (ev_var rfl) ev_nil)) ?_) (fun _ => mx_imp (mx_of ev_int) fun d e => ⟨0, by decide, e⟩)) (ma_cons (P := (· = .tuple (nats vs))) (mx_of (ev_cb (ev_cons (ev_var rfl) ev_nil) rc_tupL)) ma_nil))) ?_)
  · rintro l rfl
    refine ⟨_, I__law_pick ?_ ?_, fun z h => ?_⟩
    · rintro e
      cases vs with
      | nil => simp at hb
      | cons a b => cases e
    · simp [nats]; omega
    · obtain ⟨v, hv, rfl⟩ := List.mem_map.mp h
      exact ⟨v, by have := h3 v hv; omega, rfl⟩
  · rintro l ⟨d, ds, rfl, rfl, d', ds', rfl, ⟨i, hi, rfl⟩, d2, ds2, rfl, rfl, rfl⟩
    refine ⟨Nat.le_of_ble_eq_true rfl, .elect i vs, rfl, ⟨by omega, h2⟩, ?_⟩
    simp only [form, Bool.and_eq_true, decide_eq_true_iff, List.all_eq_true]
    exact ⟨⟨hi, fun v hv => by have := h3 v hv; omega⟩, h2⟩

end KD

/-! KF15: drawn plays. -/
namespace KD
open PySem L2 PySem.Spec PyProof.Rows K27
/-- deeds one behind another, and all states on the way -/
inductive Path (many : Nat) : List Dd → List K27.St → Prop
  | nil : Path many [] [init many]
  | snoc {dl : List Dd} {ss : List K27.St} {s : K27.St} {d : Dd} : Path many dl (ss ++ [s]) → fit2 d → ok s d = true → Path many (dl ++ [d]) (ss ++ [s] ++ [beh s d])
theorem play_snoc : ∀ (dl : List Dd) (s s' : K27.St) (d : Dd) (k x : Nat), play s dl k = (some s', x) → ok s' d = true → ∃ y, play s (dl ++ [d]) k = (some (beh s' d), y)
  | [], s, s', d, k, x, e, ho => by
    have e1 : some s = some s' := congrArg Prod.fst e
    cases e1
    exact ⟨0, by show (if ok s d = true then _ else _) = _; rw [if_pos ho]; rfl⟩
  | c :: dl, s, s', d, k, x, e, ho => by
    have e' : (if ok s c = true then play (beh s c) dl (k + 1) else (none, k)) = (some s', x) := e
    by_cases hc : ok s c = true
    · rw [if_pos hc] at e'
      obtain ⟨y, h⟩ := play_snoc dl (beh s c) s' d (k + 1) x e' ho
      exact ⟨y, by show (if ok s c = true then _ else _) = _; rw [if_pos hc]; exact h⟩
    · rw [if_neg hc] at e'
      cases e'
section
variable {many : Nat} {dl : List Dd} {ss : List K27.St}
theorem Path.len (h : Path many dl ss) : ss.length = dl.length + 1 := by
  induction h with
  | nil => rfl
  | snoc _ _ _ ih => simp at ih ⊢; omega
theorem Path.last (h1 : 0 < many) (h : Path many dl ss) : ∃ ss0 s, ss = ss0 ++ [s] ∧ Good many dl.length s ∧ ∃ x, play (init many) dl 0 = (some s, x) := by
  induction h with
  | nil => exact ⟨[], _, rfl, good_init h1 0, 0, rfl⟩
  | @snoc dl ss s d hp hf ho ih =>
    obtain ⟨ss0, s', e, g, x, hpl⟩ := ih
    have es : s = s' := by
      have := List.append_inj_right' e rfl
      exact List.singleton_inj.mp this
    subst es
    obtain ⟨y, hy⟩ := play_snoc dl (init many) s d 0 x hpl ho
    refine ⟨_, _, rfl, ?_, y, hy⟩
    rw [List.length_append, List.length_singleton]
    exact (good_step g ho).1
theorem Path.fit (h : Path many dl ss) : ∀ d ∈ dl, fit2 d := by
  induction h with
  | nil => intro d hd; cases hd
  | snoc _ hf _ ih =>
    intro x hx
    rcases List.mem_append.mp hx with z | z
    · exact ih x z
    · rw [List.mem_singleton.mp z]; exact hf
theorem Path.at (h1 : 0 < many) (h : Path many dl ss) : ∀ k s, ss[k]? = some s → Good many k s := by
  induction h with
  | nil =>
    intro k s hk
    cases k with
    | zero => cases hk; exact good_init h1 0
    | succ k => cases hk
  | @snoc dl ss s d hp hf ho ih =>
    intro k t hk
    have hl := hp.len
    by_cases c : k < (ss ++ [s]).length
    · rw [List.getElem?_append_left c] at hk
      exact ih k t hk
    · have hk2 : k = (ss ++ [s]).length := by
        have := (List.getElem?_eq_some_iff.mp hk).1
        simp at this c ⊢
        omega
      subst hk2
      rw [List.getElem?_append_right (Nat.le_refl _), Nat.sub_self] at hk
      cases hk
      have hs : (ss ++ [s])[ss.length]? = some s := by simp
      have g := ih _ _ hs
      have e : (ss ++ [s]).length = ss.length + 1 := by simp
      rw [e]
      exact (good_step g ho).1
theorem Path.step (h1 : 0 < many) (h : Path many dl ss) : ∀ k, k < dl.length → ∃ s s', ss[k]? = some s ∧ ss[k + 1]? = some s' ∧ comm s <+: comm s' := by
  induction h with
  | nil => intro k hk; cases hk
  | @snoc dl ss s d hp hf ho ih =>
    intro k hk
    have hl := hp.len
    rw [List.length_append, List.length_singleton] at hk
    by_cases c : k < dl.length
    · obtain ⟨s1, s2, e1, e2, e3⟩ := ih k c
      exact ⟨s1, s2, by rw [List.getElem?_append_left (List.getElem?_eq_some_iff.mp e1).1]; exact e1, by rw [List.getElem?_append_left (List.getElem?_eq_some_iff.mp e2).1]; exact e2, e3⟩
    · have hk2 : k = ss.length := by simp at hl; omega
      subst hk2
      have hs : (ss ++ [s])[ss.length]? = some s := by simp
      have g := hp.at h1 _ _ hs
      refine ⟨s, beh s d, by rw [List.getElem?_append_left (by simp)]; exact hs, by rw [List.getElem?_append_right (by simp)]; simp, (good_step g ho).2⟩
end
theorem at_endL (ss : List K27.St) (s : K27.St) : atI ((ss ++ [s]).map encStL) (-1) = some (encStL s) := by
  unfold atI ixN
  rw [List.length_map, List.length_append, List.length_singleton, if_neg (by omega), if_pos (by omega)]
  show ((ss ++ [s]).map encStL)[((-1 : Int) + ((ss.length + 1 : Nat) : Int)).toNat]? = _
  rw [show ((-1 : Int) + ((ss.length + 1 : Nat) : Int)).toNat = ss.length by omega]
  simp
theorem good_gd {many n : Nat} {s : K27.St} (h : Good many n s) (h1 : many ≤ 5) (h2 : n ≤ 1000) : Gd s := ⟨many, n, h, h1, h2⟩

abbrev s__law_drawn_play : Stmt := top 50
abbrev N__law_drawn_play : List Str := ["jug", "many", "total", "events", "deeds", "states", "turn", "deed"]
theorem sc__law_drawn_play : FnScope N__law_drawn_play ["jug", "many", "total", "events"] (defScope s__law_drawn_play) := ⟨rfl, rfl, rfl, by decide +kernel, rfl, by decide +kernel, by decide +kernel⟩


def F__law_drawn_play : List PyData → (PyData → Prop) → Prop := fun ds R => ∃ (many : Nat) (total : Nat) (evs : List Ev), (many = 3 ∨ many = 5) ∧ (total ≤ 150) ∧ (evs ≠ []) ∧ (evs.length ≤ 1000) ∧ (∀ e ∈ evs, evOk e = true) ∧ ds = [.int many, .int total, .list (evs.map encEv)] ∧ R = fun z => ∃ dl ss, z = .tuple [.list (dl.map encDd), .list (ss.map encStL)] ∧ Path many dl ss ∧ dl.length ≤ total
theorem I__law_drawn_play {many : Nat} {total : Nat} {evs : List Ev} (p0 : many = 3 ∨ many = 5) (p1 : total ≤ 150) (p2 : evs ≠ []) (p3 : evs.length ≤ 1000) (p4 : ∀ e ∈ evs, evOk e = true) : F__law_drawn_play [.int many, .int total, .list (evs.map encEv)] (fun z => ∃ dl ss, z = .tuple [.list (dl.map encDd), .list (ss.map encStL)] ∧ Path many dl ss ∧ dl.length ≤ total) := ⟨many, total, evs, p0, p1, p2, p3, p4, rfl, rfl⟩
theorem R__law_drawn_play {P : Program} {w : World} {K : PySem.W.Frag} {mg : Str → Option Value} {base : Heap} (T : Tx mg) (kn : Kn K mg "_law_drawn_play" s__law_drawn_play ["jug", "many", "total", "events"]) (R__law_can : Rdy P w K mg base 2 "_law_can" ["state", "deed"] (spP K F__law_can)) (R__law_behind : Rdy P w K mg base 1 "_law_behind" ["state", "deed"] (spP K F__law_behind)) (R__law_drawn_deed : Rdy P w K mg base 3 "_law_drawn_deed" ["jug", "state", "events"] (spJ K F__law_drawn_deed)) (R__law_state : Rdy P w K mg base 1 "_law_state" ["many"] (spP K F__law_state)) : Rdy P w K mg base 4 "_law_drawn_play" ["jug", "many", "total", "events"] (spJ K F__law_drawn_play) := by
  refine rdyJ_of kn sc__law_drawn_play (fun ds z h => ?_) (by decide) (fun f cdv A outer s H E hr ds z h => ?_)
  · obtain ⟨many, total, evs, p0, p1, p2, p3, p4, rfl, rfl⟩ := h
    rfl
  obtain ⟨many, total, evs, p0, p1, p2, p3, p4, rfl, rfl⟩ := h
  refine ⟨_, (pss_cons (ps_par (i := 4) (j := 5) rfl sc__law_drawn_play.nd rfl rfl (by decide) rfl rfl (pa_cons (pe_lst pa_nil) (pa_cons (pe_lst (pa_cons (pe_fn R__law_state (hr.mono (by decide)) (by rfl) (pa_cons (pv 1) pa_nil)) pa_nil)) pa_nil)) (by rfl)) (pss_cons (ps_for PassesOwn.never rfl (pi_range1 (by rfl) T.b_range (pa_cons (pe_op op_mul pe_int (pv 2)) pa_nil)) (pg_name (i := 6) sc__law_drawn_play.nd rfl (by first | exact Or.inl rfl | exact Or.inr rfl)) (pss_cons (ps_set (i := 7) sc__law_drawn_play.nd rfl (by first | exact Or.inl rfl | exact Or.inr rfl) (pe_fn R__law_drawn_deed (hr.mono (by decide)) (by rfl) (pa_cons (pv 0) (pa_cons (pe_ix ix_list (pv 5) (pe_un un_neg pe_int) (fun _ _ => rfl)) (pa_cons (pv 3) pa_nil))))) (pss_one (ps_if (PW.pt (pw_and (pt_cmpR op_lt (pe_callB call_len_seq (by rfl) T.b_len bt_len (pa_cons (pv 4) pa_nil)) (pv 2) (by first | rfl | exact nomark _)) (pw_and1 (pt_val (pe_fn R__law_can (hr.mono (by decide)) (by rfl) (pa_cons (pe_ix ix_list (pv 5) (pe_un un_neg pe_int) (fun _ _ => rfl)) (pa_cons (pv 7) pa_nil))))))) (pss_cons (ps_expr (pe_bm PySem.F.plainAttrs_list PySem.F.slot_list_append PySem.F.type_list_append mt_append (pv 4) (pa_cons (pv 7) pa_nil))) (pss_one (ps_expr (pe_bm PySem.F.plainAttrs_list PySem.F.slot_list_append PySem.F.type_list_append mt_append (pv 5) (pa_cons (pe_fn R__law_behind (hr.mono (by decide)) (by rfl) (pa_cons (pe_ix ix_list (pv 5) (pe_un un_neg pe_int) (fun _ _ => rfl)) (pa_cons (pv 7) pa_nil))) pa_nil))))) pss_nil)))) (pss_one (ps_ret (pe_tup (pa_cons (pv 4) (pa_cons (pv 5) pa_nil))))))), ?_⟩
  have hmany : 0 < many ∧ many ≤ 5 := by omega
  refine ms_seq (N1 := fun ρ' μ' => μ' = [(5, [encStL (init many)]), (4, [])] ∧ ρ' = [none, some (.int (many : Nat)), some (.int (total : Nat)), some (.list (evs.map encEv)), none, none, none, none]) (ms_own2 (C1 := (· = [])) (C2 := (· = [encStL (init many)])) (fx_lst (PL := (· = [])) ma_nil (by rintro l rfl; exact Nat.zero_le _)) (fx_lst (PL := (· = [encStL (init many)])) (ma_of (ev_cons (ev_call (ev_cons (ev_var rfl) ev_nil) (I__law_state hmany.2)) ev_nil)) (by rintro l rfl; exact Nat.le_of_ble_eq_true rfl)) (Nat.le_of_ble_eq_true rfl) (Nat.le_of_ble_eq_true rfl) (by decide) (by simp) (by simp) (by rintro c c' rfl rfl; exact ⟨rfl, rfl⟩)) ?_
  rintro ρ' μ' ⟨rfl, rfl⟩
  refine ms_seq (N1 := fun ρ' μ' => ∃ dl ss, Path many dl ss ∧ dl.length ≤ total ∧ μ' = [(5, ss.map encStL), (4, dl.map encDd)] ∧ ∃ o1 o2, ρ' = [none, some (.int (many : Nat)), some (.int (total : Nat)), some (.list (evs.map encEv)), none, none, o1, o2]) (ms_for (ds := (List.range ((3 * (total : Nat) : Int)).toNat).map fun i => .int (i : Nat)) ?_ (fun _ ρ' μ' => ∃ dl ss, Path many dl ss ∧ dl.length ≤ total ∧ μ' = [(5, ss.map encStL), (4, dl.map encDd)] ∧ ∃ o1 o2, ρ' = [none, some (.int (many : Nat)), some (.int (total : Nat)), some (.list (evs.map encEv)), none, none, o1, o2]) ⟨[], [init many], .nil, Nat.zero_le _, rfl, _, _, rfl⟩ ?_ (fun ρ μ h => h)) ?_
  · exact ei_range1 (ev_cons (ev_op ev_int (ev_var rfl) (rd_mul (cmul_l (by decide) (by decide)))) ev_nil) (by omega) (by omega)
  · rintro x r ρ' μ' ⟨dl, ss, hp, hdl, rfl, o1, o2, rfl⟩
    obtain ⟨ss0, s, rfl, g, y, hpl⟩ := hp.last hmany.1
    have gd : Gd s := good_gd g hmany.2 (by omega)
    have hrows : ∀ i, (cp s i).rows.length ≤ 400 := fun i => Nat.le_trans (g.small.of i).1 (by omega)
    refine ⟨_, _, eg_name, by simp, by simp, ?_⟩
    have m5 : ((5, (ss0 ++ [s]).map encStL) : Nat × List PyData) ∈ [(5, (ss0 ++ [s]).map encStL), (4, dl.map encDd)] := by simp
    refine ms_seq (N1 := fun ρ' μ' => μ' = [(5, (ss0 ++ [s]).map encStL), (4, dl.map encDd)] ∧ ∃ o1 d, fit2 d ∧ form d = true ∧ ρ' = [none, some (.int (many : Nat)), some (.int (total : Nat)), some (.list (evs.map encEv)), none, none, o1, some (encDd d)]) (ms_set (P := fun z => ∃ d, z = encDd d ∧ fit2 d ∧ form d = true) (mx_callJ (PL := (· = [encStL s, .list (evs.map encEv)])) (ma_cons' (mx_ixO' (x := -1) m5 (mx_of (ev_neg ev_int)) (at_endL ss0 s)) (ma_cons' (mx_of (ev_var rfl)) ma_nil)) ?_) (by simp) (by simp) (by rintro z ⟨d, rfl, h1, h2⟩; exact ⟨rfl, _, d, h1, h2, rfl⟩)) ?_
    · rintro l rfl
      exact ⟨_, I__law_drawn_deed gd hrows p2 p3 p4 (by rw [g.len]; omega), fun z h => h⟩
    rintro ρ' μ' ⟨rfl, o1, d, hf, hform, rfl⟩
    refine ms_if (PB := fun b => b = true → dl.length < total ∧ can s d = true) (mt_and (PB := (· = decide (((dl.length : Nat) : Int) < (total : Nat)))) (PC := (· = can s d)) (mt_test (mx_op (P1 := (· = .int (dl.length : Nat))) (P2 := (· = .int (total : Nat))) (mx_lenO (c := dl.map encDd) (by simp) (by rw [List.length_map])) (mx_of (ev_var rfl)) (by rintro x y rfl rfl; exact ⟨_, rd_lt, _, rfl, rfl⟩))) (fun _ => mt_tB (mx_call (PL := (· = [encStL s, encDd d])) (ma_cons' (mx_ixO' (x := -1) m5 (mx_of (ev_neg ev_int)) (at_endL ss0 s)) (ma_cons' (mx_of (ev_var rfl)) ma_nil)) (by rintro l rfl; exact ⟨_, I__law_can gd hf hform, _, rfl, rfl⟩))) (fun _ h => nomatch h) (fun c h1 h2 h3 => ⟨by have := of_decide_eq_true h1.symm; omega, by rw [← h2]; exact h3⟩)) (fun hb => ?_) (fun _ => ms_next ⟨dl, ss0 ++ [s], hp, hdl, rfl, _, _, rfl⟩)
    obtain ⟨hlt, hcan⟩ := hb rfl
    have ho : ok s d = true := by unfold ok; rw [hform, hcan]; rfl
    refine ms_seq (N1 := fun ρ' μ' => μ' = [(5, (ss0 ++ [s]).map encStL), (4, (dl ++ [d]).map encDd)] ∧ ρ' = [none, some (.int (many : Nat)), some (.int (total : Nat)), some (.list (evs.map encEv)), none, none, o1, some (encDd d)]) (ms_append (P := (· = encDd d)) (i := 4) (c := dl.map encDd) (by simp) (by simp) (mx_of (ev_var rfl)) (Nat.lt_of_le_of_lt (m := 150) (by rw [List.length_map]; omega) (by decide)) (by rintro z rfl; exact ⟨by simp, rfl⟩)) ?_
    rintro ρ' μ' ⟨rfl, rfl⟩
    have hsl := hp.len
    refine ms_append (P := (· = encStL (beh s d))) (i := 5) (c := (ss0 ++ [s]).map encStL) (by simp) (by simp) (mx_call (PL := (· = [encStL s, encDd d])) (ma_cons' (mx_ixO' (x := -1) (c := (ss0 ++ [s]).map encStL) (by simp) (mx_of (ev_neg ev_int)) (at_endL ss0 s)) (ma_cons' (mx_of (ev_var rfl)) ma_nil)) (by rintro l rfl; exact ⟨_, I__law_behind gd hf ho, rfl⟩)) (Nat.lt_of_le_of_lt (m := 151) (by rw [List.length_map]; omega) (by decide)) ?_
    rintro z rfl
    exact ⟨dl ++ [d], ss0 ++ [s] ++ [beh s d], .snoc hp hf ho, by simp; omega, by simp, _, _, rfl⟩
  · rintro ρ' μ' ⟨dl, ss, hp, hdl, rfl, o1, o2, rfl⟩
    refine ms_freeze (ms_freeze (ms_ret (mx_imp (mx_of (ev_tup (ev_cons (ev_var rfl) (ev_cons (ev_var rfl) ev_nil)) (Nat.le_of_ble_eq_true rfl))) ?_)))
    rintro z rfl
    exact ⟨dl, ss, rfl, hp, hdl⟩

end KD

/-! KF16: wrong deeds. -/
namespace KD
open PySem L2 PySem.Spec PyProof.Rows K27
def wL (s : K27.St) : Nat := match s.lead with | some l => l | none => 0
def wR (s : K27.St) : Nat := match s.lead with | some l => (cp s l).rows.length | none => 1
def w1 (s : K27.St) : List Dd := [.copy s.cs.length, .stop s.cs.length, .start s.cs.length, .elect s.cs.length (List.range s.cs.length), .commit s.done, .commit 400, .copy (wL s)]
def w2 (s : K27.St) (e : Ev) : List Dd := [.elect 0 [], .elect 0 [0], .elect 0 ((List.range (s.cs.length - 1)).map fun i => 1 + i), .elect (s.cs.length - 1) (List.range s.cs.length), .append e]
def w3 (s : K27.St) : List Dd := [.commit (max 1 (wR s)), .commit (wR s + 1), .commit (max 1 s.done), .start 0, .stop 0, .go, .non, .app0, .lst]
theorem w_fit {s : K27.St} {e : Ev} (h0 : s.cs.length ≤ 5) (he : evOk e = true) : ∀ d ∈ w1 s ++ w2 s e ++ w3 s, fit2 d := by
  have r1 : (List.range s.cs.length).length ≤ 10 ∧ rising (List.range s.cs.length) = true := by
    generalize s.cs.length = n at h0
    have : n = 0 ∨ n = 1 ∨ n = 2 ∨ n = 3 ∨ n = 4 ∨ n = 5 := by omega
    rcases this with rfl | rfl | rfl | rfl | rfl | rfl <;> decide +kernel
  have r2 : ((List.range (s.cs.length - 1)).map fun i => 1 + i).length ≤ 10 ∧ rising ((List.range (s.cs.length - 1)).map fun i => 1 + i) = true := by
    generalize s.cs.length = n at h0
    have : n = 0 ∨ n = 1 ∨ n = 2 ∨ n = 3 ∨ n = 4 ∨ n = 5 := by omega
    rcases this with rfl | rfl | rfl | rfl | rfl | rfl <;> decide +kernel
  have r3 : ([] : List Nat).length ≤ 10 ∧ rising [] = true := by decide +kernel
  have r4 : ([0] : List Nat).length ≤ 10 ∧ rising [0] = true := by decide +kernel
  intro d hd
  simp only [w1, w2, w3, List.cons_append, List.nil_append, List.mem_cons, List.not_mem_nil, or_false] at hd
  rcases hd with rfl | rfl | rfl | rfl | rfl | rfl | rfl | rfl | rfl | rfl | rfl | rfl | rfl | rfl | rfl | rfl | rfl | rfl | rfl | rfl | rfl <;> first | exact trivial | exact r1 | exact r2 | exact r3 | exact r4 | exact he
theorem mem_cutD {z : PyData} {l : List PyData} {a b : Option Int} (h : z ∈ cutD l a b) : z ∈ l := List.mem_of_mem_drop (List.mem_of_mem_take h)
theorem maxI (a : Nat) : (if ((a : Nat) : Int) > 1 then ((a : Nat) : Int) else 1) = ((max 1 a : Nat) : Int) := by
  split <;> omega
theorem at_hd (d : PyData) (l : List PyData) : atI (d :: l) 0 = some d := by
  unfold atI ixN
  simp

abbrev s__law_wrong_deed : Stmt := top 53
abbrev N__law_wrong_deed : List Str := ["jug", "state", "events", "copies", "leads", "done", "many", "some", "rows", "one"]
theorem sc__law_wrong_deed : FnScope N__law_wrong_deed ["jug", "state", "events"] (defScope s__law_wrong_deed) := ⟨rfl, rfl, rfl, by decide +kernel, rfl, by decide +kernel, by decide +kernel⟩


def F__law_wrong_deed : List PyData → (PyData → Prop) → Prop := fun ds R => ∃ (s : K27.St) (evs : List Ev), (Gd s) ∧ (evs ≠ []) ∧ (evs.length ≤ 1000) ∧ (∀ e ∈ evs, evOk e = true) ∧ (1 ≤ s.cs.length) ∧ ds = [encStL s, .list (evs.map encEv)] ∧ R = fun z => ∃ d, z = encDd d ∧ fit2 d
theorem I__law_wrong_deed {s : K27.St} {evs : List Ev} (p0 : Gd s) (p1 : evs ≠ []) (p2 : evs.length ≤ 1000) (p3 : ∀ e ∈ evs, evOk e = true) (p4 : 1 ≤ s.cs.length) : F__law_wrong_deed [encStL s, .list (evs.map encEv)] (fun z => ∃ d, z = encDd d ∧ fit2 d) := ⟨s, evs, p0, p1, p2, p3, p4, rfl, rfl⟩
theorem R__law_wrong_deed {P : Program} {w : World} {K : PySem.W.Frag} {mg : Str → Option Value} {base : Heap} (T : Tx mg) (kn : Kn K mg "_law_wrong_deed" s__law_wrong_deed ["jug", "state", "events"]) (R__law_pick : Rdy P w K mg base 2 "_law_pick" ["jug", "items"] (spJ K F__law_pick)) (R__law_can : Rdy P w K mg base 2 "_law_can" ["state", "deed"] (spP K F__law_can)) (R__law_is_deed : Rdy P w K mg base 4 "_law_is_deed" ["value"] (spP K F__law_is_deed)) : Rdy P w K mg base 5 "_law_wrong_deed" ["jug", "state", "events"] (spJ K F__law_wrong_deed) := by
  refine rdyJ_of kn sc__law_wrong_deed (fun ds z h => ?_) (by decide) (fun f cdv A outer s H E hr ds z h => ?_)
  · obtain ⟨s, evs, p0, p1, p2, p3, p4, rfl, rfl⟩ := h
    rfl
  obtain ⟨s, evs, p0, p1, p2, p3, p4, rfl, rfl⟩ := h
  refine ⟨_, (pss_cons (ps_asg (pv 1) (pg_unl (by rfl) (pgs_cons (pg_name (i := 3) sc__law_wrong_deed.nd rfl (by first | exact Or.inl rfl | exact Or.inr rfl)) (pgs_cons (pg_name (i := 4) sc__law_wrong_deed.nd rfl (by first | exact Or.inl rfl | exact Or.inr rfl)) (pgs_cons (pg_name (i := 5) sc__law_wrong_deed.nd rfl (by first | exact Or.inl rfl | exact Or.inr rfl)) pgs_nil))))) (pss_cons (ps_set (i := 6) sc__law_wrong_deed.nd rfl (by first | exact Or.inl rfl | exact Or.inr rfl) (pe_callB call_len_seq (by rfl) T.b_len bt_len (pa_cons (pv 3) pa_nil))) (pss_cons (ps_set (i := 7) sc__law_wrong_deed.nd rfl (by first | exact Or.inl rfl | exact Or.inr rfl) (pe_lst (pa_cons (pe_tup (pa_cons pe_str (pa_cons (pv 6) pa_nil))) (pa_cons (pe_tup (pa_cons pe_str (pa_cons (pv 6) pa_nil))) (pa_cons (pe_tup (pa_cons pe_str (pa_cons (pv 6) pa_nil))) (pa_cons (pe_tup (pa_cons pe_str (pa_cons (pv 6) (pa_cons (pe_tupRg rfl (by rfl) T.b_tuple (prg_1 (by rfl) T.b_range (pv 6))) pa_nil)))) (pa_cons (pe_tup (pa_cons pe_str (pa_cons (pv 5) pa_nil))) (pa_cons (pe_tup (pa_cons pe_str (pa_cons pe_int pa_nil))) (pa_cons (pe_tup (pa_cons pe_str (pa_cons (pe_ifExp (pt_cmp (pc_notN (pv 4)) rfl) (pv 4) pe_int) pa_nil))) pa_nil))))))))) (pss_cons (ps_set (i := 7) sc__law_wrong_deed.nd rfl (by first | exact Or.inl rfl | exact Or.inr rfl) (pe_op op_catS (pv 7) (pe_lst (pa_cons (pe_tup (pa_cons pe_str (pa_cons pe_int (pa_cons (pe_tup pa_nil) pa_nil)))) (pa_cons (pe_tup (pa_cons pe_str (pa_cons pe_int (pa_cons (pe_tup (pa_cons pe_int pa_nil)) pa_nil)))) (pa_cons (pe_tup (pa_cons pe_str (pa_cons pe_int (pa_cons (pe_tupRg rfl (by rfl) T.b_tuple (prg_2 (by rfl) T.b_range pe_int (pv 6))) pa_nil)))) (pa_cons (pe_tup (pa_cons pe_str (pa_cons (pe_op op_sub (pv 6) pe_int) (pa_cons (pe_tupRg rfl (by rfl) T.b_tuple (prg_1 (by rfl) T.b_range (pv 6))) pa_nil)))) (pa_cons (pe_tup (pa_cons pe_str (pa_cons (pe_ix ix_list (pv 2) pe_int (fun _ _ => rfl)) pa_nil))) pa_nil)))))))) (pss_cons (ps_set (i := 8) sc__law_wrong_deed.nd rfl (by first | exact Or.inl rfl | exact Or.inr rfl) (pe_ifExp (pt_cmp (pc_notN (pv 4)) rfl) (pe_callB call_len_seq (by rfl) T.b_len bt_len (pa_cons (pe_ix ix_list (pe_ix ix_list (pv 3) (pv 4) (fun _ _ => rfl)) pe_int (fun _ _ => rfl)) pa_nil)) pe_int)) (pss_cons (ps_set (i := 7) sc__law_wrong_deed.nd rfl (by first | exact Or.inl rfl | exact Or.inr rfl) (pe_op op_catS (pv 7) (pe_lst (pa_cons (pe_tup (pa_cons pe_str (pa_cons (pe_callB (call_max2 rfl) (by rfl) T.b_max bt_max (pa_cons pe_int (pa_cons (pv 8) pa_nil))) pa_nil))) (pa_cons (pe_tup (pa_cons pe_str (pa_cons (pe_op op_add (pv 8) pe_int) pa_nil))) (pa_cons (pe_tup (pa_cons pe_str (pa_cons (pe_callB (call_max2 rfl) (by rfl) T.b_max bt_max (pa_cons pe_int (pa_cons (pv 5) pa_nil))) pa_nil))) (pa_cons (pe_tup (pa_cons pe_str (pa_cons pe_int pa_nil))) (pa_cons (pe_tup (pa_cons pe_str (pa_cons pe_int pa_nil))) (pa_cons (pe_tup (pa_cons pe_str (pa_cons pe_int pa_nil))) (pa_cons pe_non (pa_cons (pe_tup (pa_cons pe_str pa_nil)) (pa_cons (pe_lst (pa_cons pe_str (pa_cons pe_int pa_nil))) pa_nil)))))))))))) (pss_one (ps_ret (pe_fn R__law_pick (hr.mono (by decide)) (by rfl) (pa_cons (pv 0) (pa_cons (pe_op op_catS (pe_lc (own := [("one", 9)]) (g := (gName 9)) (tt := (tOr (tNot (tB (tCall (spP K F__law_is_deed) [] E0 (tCons (tVar 9) tNil)))) (tNot (tB (tCall (spP K F__law_can) [] E0 (tCons (tVar 1) (tCons (tVar 9) tNil))))))) (te := (tVar 9)) rfl sc__law_wrong_deed.nd (pi_list (pv 7)) (blkOk_by (N := N__law_wrong_deed) (sc := defScope s__law_wrong_deed) (by decide +kernel)) (fun _ _ _ _ _ => by exact (pg_name (i := 9) sc__law_wrong_deed.nd rfl (by first | exact Or.inl rfl | exact Or.inr rfl))) (fun _ _ _ _ _ => by exact (pts_one (PW.pt (pw_or (pt_not (pt_val (pe_fn R__law_is_deed (hr.mono (by decide)) (by rfl) (pa_cons (pv 9) pa_nil)))) (pw_or1 (pt_not (pt_val (pe_fn R__law_can (hr.mono (by decide)) (by rfl) (pa_cons (pv 1) (pa_cons (pv 9) pa_nil)))))))))) (fun _ _ _ _ _ => by exact (pv 9))) (pe_slice sl_list (pv 7) (po_some (pe_un un_neg pe_int)) po_none)) pa_nil))))))))))), ?_⟩
  have hlen := p0.len
  obtain ⟨e0, er, rfl⟩ : ∃ e0 er, evs = e0 :: er := by
    cases evs with
    | nil => exact absurd rfl p1
    | cons a b => exact ⟨a, b, rfl⟩
  have hfits := w_fit (s := s) (e := e0) hlen (p3 e0 (by simp))
  have two : ∀ {ρ : En} {t : TE} {x : Str} {v : PyData}, EvE K t ρ v → EvE K (tTup (tCons (tC (.str x)) (tCons t tNil))) ρ (.tuple [.str x, v]) := fun h => ev_tup (ev_cons ev_str (ev_cons h ev_nil)) (Nat.le_of_ble_eq_true rfl)
  refine ms_seq (N1 := fun ρ' μ' => μ' = [] ∧ ρ' = [none, some (encStL s), some (.list ((e0 :: er).map encEv)), some (.list (s.cs.map encCpL)), some (encO s.lead), some (.int (s.done : Nat)), none, none, none, none]) (ms_asg (P := (· = encStL s)) (ρ' := fun _ => [none, some (encStL s), some (.list ((e0 :: er).map encEv)), some (.list (s.cs.map encCpL)), some (encO s.lead), some (.int (s.done : Nat)), none, none, none, none]) (mx_of (ev_var rfl)) (by rintro d rfl; exact eg_lst (eg_cons eg_name (eg_cons eg_name (eg_cons eg_name eg_nil))) rfl) (by simp) (by simp) (by rintro d rfl; exact ⟨rfl, rfl⟩)) ?_
  rintro ρ' μ' ⟨rfl, rfl⟩
  refine ms_seq (N1 := fun ρ' μ' => μ' = [] ∧ ρ' = [none, some (encStL s), some (.list ((e0 :: er).map encEv)), some (.list (s.cs.map encCpL)), some (encO s.lead), some (.int (s.done : Nat)), some (.int (s.cs.length : Nat)), none, none, none]) (ms_set (P := (· = .int (s.cs.length : Nat))) (mx_of (ev_eqd (ev_cb (ev_cons (ev_var rfl) ev_nil) rc_lenL) (by rw [List.length_map]))) (by simp) (by simp) (by rintro d rfl; exact ⟨rfl, rfl⟩)) ?_
  rintro ρ' μ' ⟨rfl, rfl⟩
  refine ms_seq (N1 := fun ρ' μ' => μ' = [] ∧ ρ' = [none, some (encStL s), some (.list ((e0 :: er).map encEv)), some (.list (s.cs.map encCpL)), some (encO s.lead), some (.int (s.done : Nat)), some (.int (s.cs.length : Nat)), some (.list ((w1 s).map encDd)), none, none]) (ms_set (P := (· = .list ((w1 s).map encDd))) (mx_of (ev_lst (ev_cons (two (ev_var rfl)) (ev_cons (two (ev_var rfl)) (ev_cons (two (ev_var rfl)) (ev_cons (ev_tup (ev_cons ev_str (ev_cons (ev_var rfl) (ev_cons (ev_tupRg1 (ev_var rfl) (by omega)) ev_nil))) (Nat.le_of_ble_eq_true rfl)) (ev_cons (two (ev_var rfl)) (ev_cons (two ev_int) (ev_cons (two (ev_ifE (b := s.lead.isSome) (et_eqb (ev_tB (ev_notN (ev_var rfl))) (by rw [isN_encO, Bool.not_not])) (fun h => ev_eqd (ev_var rfl) (by obtain ⟨l, hl⟩ := Option.isSome_iff_exists.mp h; show encO s.lead = .int (wL s : Nat); unfold wL; rw [hl]; rfl)) (fun h => ev_eqd ev_int (by have hl := Option.isSome_eq_false_iff.mp h; show _ = PyData.int (wL s : Nat); unfold wL; rw [Option.isNone_iff_eq_none.mp hl]; rfl)))) ev_nil))))))) (Nat.le_of_ble_eq_true rfl))) (by simp) (by simp) (by rintro d rfl; exact ⟨rfl, rfl⟩)) ?_
  rintro ρ' μ' ⟨rfl, rfl⟩
  refine ms_seq (N1 := fun ρ' μ' => μ' = [] ∧ ρ' = [none, some (encStL s), some (.list ((e0 :: er).map encEv)), some (.list (s.cs.map encCpL)), some (encO s.lead), some (.int (s.done : Nat)), some (.int (s.cs.length : Nat)), some (.list ((w1 s).map encDd ++ (w2 s e0).map encDd)), none, none]) (ms_set (P := (· = .list ((w1 s).map encDd ++ (w2 s e0).map encDd))) (mx_of (ev_op (ev_var rfl) (ev_lst (ds := (w2 s e0).map encDd) (ev_cons (ev_tup (ev_cons ev_str (ev_cons ev_int (ev_cons (ev_tup ev_nil (Nat.le_of_ble_eq_true rfl)) ev_nil))) (Nat.le_of_ble_eq_true rfl)) (ev_cons (ev_tup (ev_cons ev_str (ev_cons ev_int (ev_cons (ev_tup (ev_cons ev_int ev_nil) (Nat.le_of_ble_eq_true rfl)) ev_nil))) (Nat.le_of_ble_eq_true rfl)) (ev_cons (ev_tup (ev_cons ev_str (ev_cons ev_int (ev_cons (ev_tupRg2 (a := 1) ev_int (ev_var rfl) (by decide) (by omega)) ev_nil))) (Nat.le_of_ble_eq_true rfl)) (ev_cons (ev_tup (ev_cons ev_str (ev_cons (ev_eqd (ev_op (ev_var rfl) ev_int rd_sub) (congrArg PyData.int (show ((s.cs.length : Nat) : Int) - 1 = ((s.cs.length - 1 : Nat) : Int) by omega))) (ev_cons (ev_tupRg1 (ev_var rfl) (by omega)) ev_nil))) (Nat.le_of_ble_eq_true rfl)) (ev_cons (two (ev_op (ev_var rfl) ev_int (rd_ixL (at_hd _ _)))) ev_nil))))) (Nat.le_of_ble_eq_true rfl)) (rd_catL (Nat.le_of_ble_eq_true rfl)))) (by simp) (by simp) (by rintro d rfl; exact ⟨rfl, rfl⟩)) ?_
  rintro ρ' μ' ⟨rfl, rfl⟩
  refine ms_seq (N1 := fun ρ' μ' => μ' = [] ∧ ρ' = [none, some (encStL s), some (.list ((e0 :: er).map encEv)), some (.list (s.cs.map encCpL)), some (encO s.lead), some (.int (s.done : Nat)), some (.int (s.cs.length : Nat)), some (.list ((w1 s).map encDd ++ (w2 s e0).map encDd)), some (.int (wR s : Nat)), none]) (ms_set (P := (· = .int (wR s : Nat))) (mx_of (ev_ifE (b := s.lead.isSome) (et_eqb (ev_tB (ev_notN (ev_var rfl))) (by rw [isN_encO, Bool.not_not])) (fun h => ?_) (fun h => ev_eqd ev_int (by have hl := Option.isSome_eq_false_iff.mp h; show _ = PyData.int (wR s : Nat); unfold wR; rw [Option.isNone_iff_eq_none.mp hl]; rfl)))) (by simp) (by simp) (by rintro d rfl; exact ⟨rfl, rfl⟩)) ?_
  · obtain ⟨l, hl⟩ := Option.isSome_iff_exists.mp h
    have ll := p0.lead hl
    have e1 : encO s.lead = .int (l : Nat) := by rw [hl]; rfl
    have e2 : wR s = (cp s l).rows.length := by unfold wR; rw [hl]
    rw [e1, e2]
    exact ev_eqd (ev_cb (ev_cons (ev_op (ev_op (ev_var rfl) (ev_var rfl) (rd_ixL (at_cpL ll))) ev_int (rd_ixL rfl)) ev_nil) rc_lenT) (by rw [List.length_map])
  rintro ρ' μ' ⟨rfl, rfl⟩
  refine ms_seq (N1 := fun ρ' μ' => μ' = [] ∧ ρ' = [none, some (encStL s), some (.list ((e0 :: er).map encEv)), some (.list (s.cs.map encCpL)), some (encO s.lead), some (.int (s.done : Nat)), some (.int (s.cs.length : Nat)), some (.list ((w1 s ++ w2 s e0 ++ w3 s).map encDd)), some (.int (wR s : Nat)), none]) (ms_set (P := (· = .list ((w1 s ++ w2 s e0 ++ w3 s).map encDd))) (mx_of (ev_eqd (ev_op (ev_var rfl) (ev_lst (ds := (w3 s).map encDd) (ev_cons (two (ev_eqd (ev_cb (ev_cons ev_int (ev_cons (ev_var rfl) ev_nil)) rc_max2) (congrArg PyData.int (maxI _)))) (ev_cons (two (ev_op (ev_var rfl) ev_int rd_add)) (ev_cons (two (ev_eqd (ev_cb (ev_cons ev_int (ev_cons (ev_var rfl) ev_nil)) rc_max2) (congrArg PyData.int (maxI _)))) (ev_cons (two ev_int) (ev_cons (two ev_int) (ev_cons (two ev_int) (ev_cons ev_non (ev_cons (ev_tup (ev_cons ev_str ev_nil) (Nat.le_of_ble_eq_true rfl)) (ev_cons (ev_lst (ev_cons ev_str (ev_cons ev_int ev_nil)) (Nat.le_of_ble_eq_true rfl)) ev_nil))))))))) (Nat.le_of_ble_eq_true rfl)) (rd_catL (Nat.le_of_ble_eq_true rfl))) (by rw [List.map_append, List.map_append]))) (by simp) (by simp) (by rintro d rfl; exact ⟨rfl, rfl⟩)) ?_
  rintro ρ' μ' ⟨rfl, rfl⟩
  have hw : (w1 s ++ w2 s e0 ++ w3 s).length = 21 := rfl
  generalize w1 s ++ w2 s e0 ++ w3 s = dl at hfits hw
  refine ms_ret (mx_callJ (PL := (· = [.list (((dl.filter fun d => !ok s d).map encDd) ++ cutD (dl.map encDd) (some (-3)) none)])) (ma_of (ev_cons (ev_op (ev_lc (ei_lst (ev_var rfl)) (lr_filter (c := encDd) (f := encDd) (p := fun d => !ok s d) (by simp) dl fun d hd => ⟨eg_name, ?_, ev_var rfl⟩) (Nat.le_trans (m := 21) (by simp; omega) (by decide))) (ev_slL (ev_var rfl) (ev_part (ev_neg ev_int)) ev_none) (rd_catL ?_)) ev_nil)) ?_)
  · have hfit := hfits d hd
    cases hf : form d with
    | false =>
      have : (!ok s d) = (!false || false) := by unfold ok; rw [hf]; rfl
      rw [this]
      exact ev_orT (c := false) (ev_notT (ev_tB (ev_eqd (ev_call (ev_cons (ev_var rfl) ev_nil) (I__law_is_deed hfit)) (by rw [hf])))) (fun h => nomatch h)
    | true =>
      have : (!ok s d) = (!true || !can s d) := by unfold ok; rw [hf]; rfl
      rw [this]
      exact ev_orT (ev_notT (ev_tB (ev_eqd (ev_call (ev_cons (ev_var rfl) ev_nil) (I__law_is_deed hfit)) (by rw [hf])))) (fun _ => ev_notT (ev_tB (ev_call (ev_cons (ev_var rfl) (ev_cons (ev_var rfl) ev_nil)) (I__law_can p0 hfit hf))))
  · refine Nat.le_trans (m := 42) ?_ (by decide)
    have h1 := List.length_filter_le (fun d => !ok s d) dl
    have h2 : (cutD (dl.map encDd) (some (-3)) none).length ≤ 21 := by
      unfold cutD
      rw [List.length_take, List.length_drop, List.length_map]
      omega
    rw [List.length_map]
    omega
  · rintro l rfl
    have h3 : (cutD (dl.map encDd) (some (-3)) none).length = 3 := by
      unfold cutD
      rw [List.length_take, List.length_drop, List.length_map, hw]
      decide
    refine ⟨_, I__law_pick ?_ ?_, fun z h => ?_⟩
    · intro z
      have := congrArg List.length z
      rw [List.length_append, h3] at this
      simp at this
    · have h1 := List.length_filter_le (fun d => !ok s d) dl
      rw [List.length_append, h3, List.length_map]
      omega
    · have : z ∈ dl.map encDd := by
        rcases List.mem_append.mp h with h | h
        · obtain ⟨d, hd, rfl⟩ := List.mem_map.mp h
          exact List.mem_map_of_mem (List.mem_filter.mp hd).1
        · exact mem_cutD h
      obtain ⟨d, hd, rfl⟩ := List.mem_map.mp this
      exact ⟨d, rfl, hfits d hd⟩

end KD

/-! KG: defs whose promise needs to know that nothing is being shown (no guards): the rule, the call, the law's call. -/
namespace KD
open PySem L2 PySem.Spec PyProof.Rows K27
structure FnG (P : Program) (w : World) (K : PySem.W.Frag) (mg : Str → Option Value) (base : Heap) (k : Nat) (f : Addr) (fd : FuncData) (ps : List Str) (sp : Sp) : Prop where
  len : ∀ vs H Q E, sp vs H Q E → vs.length = ps.length
  go : ∀ (A : Around) (outer : List Env) (s : Shared) (H : Hp) (args : Args) (us : List Value) (vs : List V) (Q : VK) (E : XK), Room k A → A.guards = some [] → Env0 P w K mg base A outer s H → BindsTo s fd args (ps.zip us) → Vals vs us → sp vs H Q E → codeAny (model P w) A (.call (.ref f) args) (CR CX0 outer P w H s Q E) s
def RdyG (P : Program) (w : World) (K : PySem.W.Frag) (mg : Str → Option Value) (base : Heap) (k : Nat) (x : Str) (ps : List Str) (sp : Sp) : Prop :=
  ∃ f fd, FnG P w K mg base k f fd ps sp ∧ mg x = some (.ref f) ∧ PySem.W.keepIn K (.ref f) = true ∧ Binds K fd ps []
section
variable {P : Program} {w : World} {K : PySem.W.Frag} {mg : Str → Option Value} {base : Heap}
theorem fnG_of {x qual : Str} {st : Stmt} {f : Addr} {fd : FuncData} {N ps : List Str} {k : Nat} {sp : Sp} (F : Fun K x qual st f fd) (S : FnScope N ps (defScope st)) (len : ∀ vs H Q E, sp vs H Q E → vs.length = ps.length)
    (body : ∀ (cdv : Value) (A : Around) (outer : List Env) (s : Shared) (H : Hp) (vs : List V) (Q : VK) (E : XK), Room k (A.deeper (envOfC qual (defScope st) s.heap.objs.size f cdv)) → A.guards = some [] → sp vs H Q E →
      ∃ t, PSs (cxOf CX0 P w K mg base N qual (defScope st) f cdv A outer s H E).nox (defBody st) t ∧ t { nx := fun _ H' => Q .non H', rt := Q } (start N vs) H) : FnG P w K mg base (k + 1) f fd ps sp := by
  obtain ⟨oc, od, kV, doc, pm, an, cdv, ct, osl, rfl, lk, hcd⟩ := F.ex
  refine ⟨len, fun A outer s H args us vs Q E hr gs e0 bt rv hsp => ?_⟩
  have lv := len vs H Q E hsp
  have kin : K.In s.heap := e0.mod.kin.keeps fun b o e => (e0.bs b o e).1
  have nol : s.heap.NoLimit := e0.mod.nolimit.keeps fun b o e => (e0.bs b o e).1
  have kinds : ∀ y ∈ ps.zip us, (defScope st).names.lookup y.1 = some .local ∨ ((defScope st).names.lookup y.1 = some .cell ∧ ((cellsFrom (s.heap.objs.size + 1) (defScope st).names []).lookup y.1).isSome = true) := by
    rintro ⟨n, v⟩ hy
    cases S.par n (List.of_mem_zip hy).1 with
    | inl z => exact Or.inl z
    | inr z => exact Or.inr ⟨z, PySem.W.cellsFrom_some _ _ _ (.inl z)⟩
  refine codeAny_call_function hr.depth (kin _ _ lk) rfl S.co S.gen rfl (PySem.W.codeRec_of kin hcd) (bt _ _ _ _ ?_)
  refine wpAny_newFunctionEnv_cells S.kind kinds fun env he s1 x1 => ?_
  subst he
  refine ⟨nol.keeps x1.toInCall.keep, codeAny_func ?_⟩
  obtain ⟨t, ht, tq⟩ := body cdv A outer s H vs Q E (hr.deeper _) gs hsp
  have I0 : Inv (cxOf CX0 P w K mg base N qual (defScope st) f cdv A outer s H E) [] (start N vs) H s1 := inv_start S hr.hd e0 lv rv x1
  refine wpAny_mono (ht.nox.run [] s1 (start N vs) H _ I0 tq) (fun fl s2 z => ?_) fun e s2 z => z
  have last : ∀ {σ' : L2.St} {H' : Hp} {v : V} {u : Value}, Inv (cxOf CX0 P w K mg base N qual (defScope st) f cdv A outer s H E) [] σ' H' s2 → RelV v u → Q v H' → CE outer P w H s Q u s2 := fun J r q => ⟨_, _, J.os, J.bare, J.base, J.hok, r, q⟩
  cases fl with
  | ret u => exact let ⟨v, σ', H', J, r, q⟩ := z; last J r q
  | next => exact let ⟨σ', H', J, q⟩ := z; last (v := V.non) (u := Value.none) J rfl q
  | brk => exact z.choose_spec.choose_spec.2.elim
  | cont => exact z.choose_spec.choose_spec.2.elim
theorem pe_fnG {X : Cx} {k : Nat} {x : Str} {ps : List Str} {sp : Sp} {e : Expr} {es : List Expr} {t : TA} {p pos : Pos} (R : RdyG X.prog X.w X.K X.mg X.base k x ps sp) (hr : Room k X.A) (gs : X.A.guards = some []) (hg : Gl X x) (ha : PA X (e :: es) t)
    (hdb : (x == ("__debug__" : Str)) = false := by decide) (he : starEach (e :: es) X.env = (false, eval e X.env) :: starEach es X.env := by rfl) (hpl : (backTo pos (starEach es X.env)).any (·.1) = false := by rfl) :
    PE X (.Call (.Name x p) (e :: es) [] pos) (tCall sp [] E0 t) := by
  obtain ⟨f, fd, F, hm, hk, hb⟩ := R
  refine ⟨fun pins s σ H Q I h => ?_⟩
  refine wpAny_Call_Name_kw (ld_glob I hg hm ?_ hdb)
  refine PySem.W.callWith_K (h₀ := X.base) I.ok.mod.kin hk (thn (ha.run pos pins s σ H _ I h) fun us s1 ⟨vs, H1, I1, r, q⟩ => ⟨I1.kIn, ?_⟩) he hpl
  have q : sp (vs ++ []) H1 Q E0 := q
  rw [List.append_nil] at q
  have hl : us.length = ps.length := by rw [← r.length]; exact F.len _ _ _ _ q
  refine wpAny_call (codeAny_mono (F.go X.A X.stack s1 H1 ⟨us, []⟩ us vs Q E0 hr gs I1.env0 ?_ r q) fun r s' hq => ?_)
  · have := hb s1 us I1.kIn (by rw [List.append_nil]; exact hl)
    rw [List.append_nil] at this
    exact this
  cases r with
  | error e => exact (pass0 (X := X) pins σ H1 s1 e s' I1 hq)
  | ok fl =>
    cases fl with
    | ret u => exact I1.after hq
    | next => exact hq.elim
    | brk => exact hq.elim
    | cont => exact hq.elim
end
/-! ### repr of data, told by the data -/
structure Rp (d : PyData) : Prop where
  sq : isDisplay d = true
  lay : d.canLay0 = true
  shw : d.showable = true
  dep : d.depth ≤ 60
  len : d.shown.length ≤ sizeLine
def rRepr (K : PySem.W.Frag) : List V → Hp → VK → Prop := fun xs H Q => ∃ v d, xs = [v] ∧ Dp K H v d ∧ Rp d ∧ Q (.str d.shown) H
theorem cr_repr {X : Cx} (gs : X.A.guards = some []) (hu : X.A.units + 64 < cLine) : CallR X (.builtin "repr") (rRepr X.K) := by
  intro pins s σ H xs us Q I r h
  obtain ⟨v, d, rfl, hd, rp, q⟩ := h
  obtain ⟨u, rfl, rx⟩ := vals1 r
  obtain ⟨as, rd⟩ := Dp.reads I d v u hd rx
  obtain ⟨a, rfl⟩ := isRef_of_reads rd rp.sq
  refine repr_of_reads' rd rp.shw (PyData.noDict_hsm (PyData.hasDict_of_canLay d rp.lay)) gs (by have := rp.dep; omega) (fun _ _ e => e) (fun h' u tk hk => ?_) rp.len
  exact ⟨.str d.shown, H, I.kept hk, ⟨_, rfl⟩, q⟩
end KD

/-! KH: the law's call, where the law needs to know that nothing is being shown. -/
namespace KD
open PySem L2 PySem.Spec PyProof.Rows
def spLaw (K : PySem.W.Frag) : Sp := fun vs H Q _ => ∃ (a : Addr) (ns : List Int), vs = [.ref a] ∧ SqL K H a (ns.map V.int) ∧ ns.length ≤ 63 ∧ ∀ H', Q (.bl true) H'
section
variable {P : Program} {w : World} {K : PySem.W.Frag} {mg mb : Str → Option Value}
theorem law_runG {k : Nat} {fa a : Addr} {fd : FuncData} {x : Str} {s1 : Shared} {vs : List Value} {ns : List Int} {H : Hp}
    (KX : K.In s1.heap) (g1 : s1.heap.Ns mainGlobals mg) (b1 : s1.heap.Ns builtinsNs mb) (b2 : ∀ x : Str, x ≠ "__name__" → mb x = bootBuiltins x) (nl : s1.heap.NoLimit) (gn : s1.gens = #[])
    (ha : s1.heap.get? a = some { cls := .type "list", data := .seq vs.toArray }) (hr : Room k callerA) (hl : ns.length ≤ 63)
    (F : ∀ base : Heap, K.In base → base.Ns mainGlobals mg → FnG P w K mg base k fa fd [x] (spLaw K)) (bt : ∀ (s : Shared) (u : Value), BindsTo s fd ⟨[u], []⟩ [(x, u)])
    (hO : Only H) (hS : SqL K H a (ns.map V.int)) (hok : HOk P w H s1.heap) (hA : ∀ b, H b ≠ none → b = a) (hK : H a ≠ none → K.lookup a = none) :
    codeAny (model P w) callerA (.call (.ref fa) ⟨[.ref a], []⟩) (fun r s' => r = .ok (.ret (.bool true)) ∧ OldK s1.heap s'.heap ∧ s'.os = s1.os ∧ AllBare s'.gens) s1 := by
  have out : ∀ {b : Addr}, b ≠ a → H b = none := fun {b} hb => Classical.byContradiction fun z => hb (hA b z)
  have nd : ∀ {b : Addr} {o : Obj} {es : Array DictEntry} {ep : Nat}, s1.heap.get? b = some o → o.data = .dict es ep → H b = none := fun {b o es ep} e d => by
    by_cases hb : b = a
    · subst hb
      rw [ha] at e
      cases e
      exact Data.noConfusion (show Data.seq vs.toArray _ = Data.dict es ep from d)
    · exact out hb
  have nsB : ∀ {b : Addr} {m : Str → Option Value}, s1.heap.Ns b m → (hidT s1.heap H).Ns b m := fun {b m} n => by
    obtain ⟨o, es, ep, e, d, r⟩ := n
    exact ⟨o, es, ep, hidT_get e (nd e d), d, r⟩
  have kb : K.In (hidT s1.heap H) := fun b o e => hidT_get (KX b o e) (by
    by_cases hb : b = a
    · subst hb
      exact Classical.byContradiction fun z => by rw [hK z] at e; cases e
    · exact out hb)
  obtain ⟨mc, n1, n2⟩ := nl
  have e0 : Env0 P w K mg (hidT s1.heap H) callerA [] s1 H := ⟨rfl, ⟨kb, nsB g1, ⟨mb, nsB b1, b2⟩, mc, nsB n1, n2⟩, fun b o e => of_hidT e, Nat.le_of_eq (hidT_size _ _), trivial, fun b hb => (List.not_mem_nil hb).elim, hok, .of_eq gn⟩
  refine codeAny_mono ((F _ kb (nsB g1)).go callerA [] s1 H ⟨[.ref a], []⟩ [.ref a] [.ref a] (fun v _ => v = .bl true) (fun _ _ _ => False) hr rfl e0 (bt s1 (.ref a)) (.cons rfl .nil) ⟨a, ns, rfl, hS, hl, fun _ => rfl⟩) fun r s' h => ?_
  cases r with
  | error e => exact h.elim
  | ok fl =>
    cases fl with
    | next => exact h.elim
    | brk => exact h.elim
    | cont => exact h.elim
    | ret u =>
      obtain ⟨v, H', os, bare, un, hok', r', q⟩ := h
      have q1 : v = .bl true := q
      rw [q1] at r'
      have r2 : u = Value.bool true := r'
      rw [r2]
      refine ⟨rfl, OldK.of_keep fun b o e => ?_, os, bare⟩
      cases q2 : H b with
      | none => exact un.keep b o e q2 (fun z => (List.not_mem_nil z).elim) (by simp)
      | some u =>
        cases hO b with
        | inl z => rw [q2] at z; cases z
        | inr z =>
          obtain ⟨ob, xs, z⟩ := z
          obtain ⟨c1, _⟩ := hok b _ z
          obtain ⟨c2, _⟩ := hok' b _ (un.frzs b ob _ z)
          rw [e] at c1
          cases c1
          exact c2
theorem law_callG {k : Nat} {fa a : Addr} {fd : FuncData} {x : Str} {s1 : Shared} {vs : List Value} {ns : List Int}
    (KX : K.In s1.heap) (g1 : s1.heap.Ns mainGlobals mg) (b1 : s1.heap.Ns builtinsNs mb) (b2 : ∀ x : Str, x ≠ "__name__" → mb x = bootBuiltins x) (nl : s1.heap.NoLimit) (gn : s1.gens = #[])
    (ha : s1.heap.get? a = some { cls := .type "list", data := .seq vs.toArray }) (hi : IntsAre vs ns) (hr : Room k callerA) (hl : ns.length ≤ 63)
    (F : ∀ base : Heap, K.In base → base.Ns mainGlobals mg → FnG P w K mg base k fa fd [x] (spLaw K)) (bt : ∀ (s : Shared) (u : Value), BindsTo s fd ⟨[u], []⟩ [(x, u)]) :
    codeAny (model P w) callerA (.call (.ref fa) ⟨[.ref a], []⟩) (fun r s' => r = .ok (.ret (.bool true)) ∧ OldK s1.heap s'.heap ∧ s'.os = s1.os ∧ AllBare s'.gens) s1 := by
  have rv := vals_ints hi
  have lv := hi.length
  have sz : ns.length ≤ sizeLine := Nat.le_trans hl (by decide)
  cases hk : K.lookup a with
  | some o =>
    have e := KX a o hk
    rw [ha] at e
    cases e
    refine law_runG (H := fun _ => none) KX g1 b1 b2 nl gn ha hr hl F bt (fun _ => .inl rfl) (.inr ⟨_, vs.toArray, _, hk, rfl, rfl, rfl, by rw [List.size_toArray, lv]; exact sz, by simpa using rv⟩) (fun b u z => ?_) (fun b z => (z rfl).elim) fun z => (z rfl).elim
    cases (show (none : Option HO) = some u from z)
  | none =>
    have at_ : ∀ b u, (if b = a then some (HO.frz { cls := .type "list", data := .seq vs.toArray } (.lst (ns.map V.int))) else none) = some u → b = a ∧ u = HO.frz { cls := .type "list", data := .seq vs.toArray } (.lst (ns.map V.int)) := fun b u z => by
      by_cases hb : b = a
      · rw [if_pos hb] at z
        exact ⟨hb, (Option.some.inj z).symm⟩
      · rw [if_neg hb] at z
        cases z
    refine law_runG (H := fun b => if b = a then some (.frz { cls := .type "list", data := .seq vs.toArray } (.lst (ns.map V.int))) else none) KX g1 b1 b2 nl gn ha hr hl F bt (fun b => ?_) (.inl (.inr ⟨{ cls := .type "list", data := .seq vs.toArray }, if_pos rfl⟩)) (fun b u z => ?_) (fun b z => ?_) fun _ => hk
    · by_cases hb : b = a
      · exact .inr ⟨_, _, if_pos hb⟩
      · exact .inl (if_neg hb)
    · obtain ⟨rfl, rfl⟩ := at_ b u z
      exact ⟨ha, by rw [List.length_map]; exact sz, vs, _, rv, ha⟩
    · obtain ⟨u, hu⟩ := Option.ne_none_iff_exists'.mp z
      exact (at_ b u hu).1
end
theorem walkG {l : PySem.W.OpenLaw} {k : Nat} {q : Program} {loose : List Str} {XP : (Str → Option Value) → Heap → Prop} {YP : World → Heap → Prop} {d : DefRec} {K : Params → PySem.W.Frag} {x : Str}
    (hn : l.most = some 63) (hdf : d.params.defaults = []) (hr : Room k callerA) (hY : ∀ (w : World) (h : Heap), YP w h → (K w.params).In h)
    (F : ∀ (w : World) (mg : Str → Option Value) (fa : Addr) (h : Heap), (K w.params).In h → h.Ns mainGlobals mg → mg d.name = some (.ref fa) →
      ∃ fd : FuncData, (∀ (s : Shared) (u : Value), BindsTo s fd ⟨[u], []⟩ [(x, u)]) ∧ ∀ base : Heap, (K w.params).In base → base.Ns mainGlobals mg → FnG l.prog w (K w.params) mg base k fa fd [x] (spLaw (K w.params))) :
    PySem.W.WalkO q loose XP YP l.row.toRowW d [] (fun f vs => PySem.call f vs) := by
  refine Att.attach_call hn hdf fun w s₀ s1 mg mb fa o pm cd doc a vs ns G Y ho hd hcd hmg hobj hints hlen hg => ?_
  obtain ⟨fd, hb, hF⟩ := F w mg fa _ (hY w _ Y) G.T.g hmg
  exact law_callG (hY w _ Y) G.T.g G.T.b G.T.builtins G.T.nolimit hg hobj hints hr hlen hF hb
end KD

/-! KQ: how long the texts of this law's data are; promises with no guards; texts compared. -/
namespace KD
open PySem L2 PySem.Spec PyProof.Rows K27
structure Sm (n e : Nat) (d : PyData) : Prop where
  lay : d.canLay0 = true
  shw : d.showable = true
  sho : d.intsShort 13 = true
  wt : d.weight ≤ n
  dep : d.depth ≤ e
structure SmA (n e : Nat) (ds : List PyData) : Prop where
  lay : PyData.canLayAll0 ds = true
  shw : PyData.showableAll ds = true
  sho : PyData.intsShortAll 13 ds = true
  wt : PyData.weightAll ds ≤ n
  dep : PyData.depthAll ds ≤ e
theorem Sm.mono {n m e f : Nat} {d : PyData} (h : Sm n e d) (h1 : n ≤ m) (h2 : e ≤ f) : Sm m f d := ⟨h.lay, h.shw, h.sho, Nat.le_trans h.wt h1, Nat.le_trans h.dep h2⟩
theorem sma_nil {e : Nat} : SmA 0 e [] := ⟨by simp [PyData.canLayAll0], by simp [PyData.showableAll], by simp [PyData.intsShortAll], by simp [PyData.weightAll], by simp [PyData.depthAll]⟩
theorem sma_cons {n m e : Nat} {d : PyData} {ds : List PyData} (h : Sm n e d) (h2 : SmA m e ds) : SmA (n + 1 + m) e (d :: ds) :=
  ⟨by simp [PyData.canLayAll0, h.lay, h2.lay], by simp [PyData.showableAll, h.shw, h2.shw], by simp [PyData.intsShortAll, h.sho, h2.sho],
    by have := h.wt; have := h2.wt; simp only [PyData.weightAll]; omega, by have := h.dep; have := h2.dep; simp only [PyData.depthAll]; omega⟩
theorem sm_tup {n e : Nat} {ds : List PyData} (h : SmA n e ds) : Sm n (e + 1) (.tuple ds) :=
  ⟨by simp [PyData.canLay0, h.lay], by simp [PyData.showable, h.shw], by simp [PyData.intsShort, h.sho], by have := h.wt; simp only [PyData.weight]; omega, by have := h.dep; simp only [PyData.depth]; omega⟩
theorem sma_map {α : Type} {n e : Nat} {f : α → PyData} : ∀ (l : List α), (∀ a ∈ l, Sm n e (f a)) → SmA (l.length * (n + 1)) e (l.map f)
  | [], _ => by rw [List.length_nil, Nat.zero_mul]; exact sma_nil
  | a :: l, h => by
    have := sma_cons (h a List.mem_cons_self) (sma_map l fun b hb => h b (List.mem_cons_of_mem _ hb))
    rw [List.length_cons, Nat.succ_mul, Nat.add_comm]
    exact this
theorem SmA.mono {n m e f : Nat} {ds : List PyData} (h : SmA n e ds) (h1 : n ≤ m) (h2 : e ≤ f) : SmA m f ds := ⟨h.lay, h.shw, h.sho, Nat.le_trans h.wt h1, Nat.le_trans h.dep h2⟩
theorem sm_nat {k : Nat} (h : k ≤ 1000000006) : Sm 40 0 (.int (k : Nat)) := by
  refine ⟨rfl, ?_, ?_, ?_, by simp [PyData.depth]⟩
  · simp only [PyData.showable, Int.natAbs_natCast, decide_eq_true_eq]
    rcases Nat.eq_zero_or_pos k with z | z
    · rw [z]; decide
    · have := (Nat.log2_lt (n := k) (k := 30) (by omega)).mpr (by omega)
      omega
  · simp only [PyData.intsShort, decide_eq_true_eq]
    exact PyData.shown_int_le (by rw [Int.natAbs_natCast]; exact Nat.lt_of_le_of_lt h (by decide))
  · simp only [PyData.weight, Int.natAbs_natCast]
    split
    · omega
    · rcases Nat.eq_zero_or_pos k with z | z
      · rw [z]; decide
      · have := (Nat.log2_lt (n := k) (k := 30) (by omega)).mpr (by omega)
        omega
theorem sm_bool {b : Bool} : Sm 0 0 (.bool b) := ⟨rfl, rfl, rfl, by simp [PyData.weight], by simp [PyData.depth]⟩
theorem sm_none : Sm 0 0 .none := ⟨rfl, rfl, rfl, by simp [PyData.weight], by simp [PyData.depth]⟩
theorem sm_ev {e : Ev} (h : evOk e = true) : Sm 140 2 (encEv e) := by
  cases e with
  | ans a b g n =>
    simp only [evOk, Bool.and_eq_true, decide_eq_true_eq] at h
    have s : Sm 10 1 (.str "answer") := ⟨by simp only [PyData.canLay0]; decide +kernel, rfl, rfl, by simp only [PyData.weight]; decide +kernel, by simp [PyData.depth]⟩
    have p : Sm (40 + 1 + (40 + 1 + 0)) 1 (.tuple [.int (a : Nat), .int (b : Nat)]) := sm_tup (sma_cons (sm_nat (by omega)) (sma_cons (sm_nat (by omega)) sma_nil))
    exact (sm_tup (sma_cons s (sma_cons p (sma_cons (sm_bool.mono (Nat.le_refl _) (by decide)) (sma_cons ((sm_nat h.2).mono (Nat.le_refl _) (by decide)) sma_nil))))).mono (by decide) (by decide)
  | off =>
    have s : Sm 10 1 (.str "off") := ⟨by simp only [PyData.canLay0]; decide +kernel, rfl, rfl, by simp only [PyData.weight]; decide +kernel, by simp [PyData.depth]⟩
    exact (sm_tup (sma_cons s sma_nil)).mono (by decide) (by decide)
theorem sm_row {n : Nat} {r : K27.Row} (hn : n ≤ 400) (h : r.term ≤ n ∧ evOk r.ev = true) : Sm 190 3 (encRow r) :=
  (sm_tup (sma_cons ((sm_nat (k := r.term) (by omega)).mono (Nat.le_refl _) (by decide)) (sma_cons ((sm_ev h.2).mono (Nat.le_refl _) (Nat.le_refl _)) sma_nil))).mono (by decide) (by decide)
theorem sm_cp {n : Nat} {c : Cp} (hn : n ≤ 400) (h : c.rows.length ≤ n ∧ c.term ≤ n ∧ ∀ r ∈ c.rows, r.term ≤ n ∧ evOk r.ev = true) : Sm 80000 5 (encCp c) := by
  have rs : Sm (400 * 191) 4 (encRows c.rows) := (sm_tup (sma_map c.rows fun r hr => sm_row hn (h.2.2 r hr))).mono (Nat.mul_le_mul_right _ (Nat.le_trans h.1 hn)) (Nat.le_refl _)
  exact (sm_tup (sma_cons (sm_bool.mono (Nat.le_refl _) (by decide)) (sma_cons ((sm_nat (k := c.term) (by have := h.2.1; omega)).mono (Nat.le_refl _) (by decide)) (sma_cons (rs.mono (Nat.le_refl _) (Nat.le_refl _)) sma_nil)))).mono (by decide) (by decide)
theorem sm_st {many n : Nat} {s : K27.St} (g : Good many n s) (h5 : many ≤ 5) (hn : n ≤ 400) : Sm 410000 7 (encSt s) := by
  have cs : Sm (5 * 80001) 6 (.tuple (s.cs.map encCp)) := (sm_tup (sma_map s.cs fun c hc => sm_cp hn ⟨g.small.rows c hc, g.small.term c hc, g.small.rterm c hc⟩)).mono (Nat.mul_le_mul_right _ (by rw [g.len]; exact h5)) (Nat.le_refl _)
  have o : Sm 40 6 (encO s.lead) := by
    cases e : s.lead with
    | none => exact sm_none.mono (by decide) (by decide)
    | some l => exact (sm_nat (k := l) (by have := g.lead e; omega)).mono (Nat.le_refl _) (by decide)
  exact (sm_tup (sma_cons cs (sma_cons o (sma_cons ((sm_nat (k := s.done) (by have := g.small.done; omega)).mono (Nat.le_refl _) (by decide)) sma_nil)))).mono (by decide) (by decide)
theorem comm_small {n : Nat} {s : K27.St} (h : Small n s) : (comm s).length ≤ n ∧ ∀ r ∈ comm s, evOk r.ev = true := by
  unfold comm
  split
  · rename_i c hc
    have hm := List.mem_of_find?_eq_some hc
    refine ⟨by rw [List.length_take]; exact Nat.le_trans (Nat.min_le_left _ _) h.done, fun r hr => (h.rterm c hm r (List.mem_of_mem_take hr)).2⟩
  · exact ⟨Nat.zero_le _, fun r hr => (List.not_mem_nil hr).elim⟩
theorem sm_evs {many n : Nat} {s : K27.St} (g : Good many n s) (hn : n ≤ 400) : Sm 60000 3 (evsD s) := by
  obtain ⟨h1, h2⟩ := comm_small g.small
  exact (sm_tup (sma_map (f := fun r : K27.Row => encEv r.ev) (comm s) fun r hr => sm_ev (h2 r hr))).mono (Nat.le_trans (Nat.mul_le_mul_right _ (Nat.le_trans h1 hn)) (by decide)) (by decide)
theorem Sm.rp {n e : Nat} {d : PyData} (h : Sm n e d) (hd : isDisplay d = true) (hn : n ≤ 1048576) (he : e ≤ 60) : Rp d :=
  ⟨hd, h.lay, h.shw, Nat.le_trans h.dep he, PyData.shown_fits (B := 13) (by decide) (by decide) (PyData.leavesShort_of_canLay0 13 d h.lay h.sho) (Nat.le_trans h.wt (Nat.le_trans hn (by decide)))⟩
theorem rp_st {many n : Nat} {s : K27.St} (g : Good many n s) (h5 : many ≤ 5) (hn : n ≤ 400) : Rp (encSt s) := (sm_st g h5 hn).rp rfl (by decide) (by decide)
theorem rp_evs {many n : Nat} {s : K27.St} (g : Good many n s) (hn : n ≤ 400) : Rp (evsD s) := (sm_evs g hn).rp rfl (by decide) (by decide)
theorem rp_play {many n : Nat} {s : K27.St} (g : Good many n s) (h5 : many ≤ 5) (hn : n ≤ 400) : Rp (.tuple [.str "play", encSt s, evsD s]) := by
  have s0 : Sm 10 7 (.str "play") := ⟨by simp only [PyData.canLay0]; decide +kernel, rfl, rfl, by simp only [PyData.weight]; decide +kernel, by simp [PyData.depth]⟩
  exact (sm_tup (sma_cons s0 (sma_cons (sm_st g h5 hn) (sma_cons ((sm_evs g hn).mono (Nat.le_refl _) (by decide)) sma_nil)))).rp rfl (by decide) (by decide)
theorem rp_wrong {x : Nat} (h : x ≤ 1000) : Rp (.tuple [.str "wrong", .int (x : Nat)]) := by
  have s0 : Sm 10 0 (.str "wrong") := ⟨by simp only [PyData.canLay0]; decide +kernel, rfl, rfl, by simp only [PyData.weight]; decide +kernel, by simp [PyData.depth]⟩
  exact (sm_tup (sma_cons s0 (sma_cons (sm_nat (k := x) (by omega)) sma_nil))).rp rfl (by decide) (by decide)
theorem rp_nats {vs : List Nat} (h : vs.length ≤ 100) (hv : ∀ v ∈ vs, v ≤ 1000) : Rp (.tuple (nats vs)) :=
  ((sm_tup (sma_map (f := fun v : Nat => .int (v : Nat)) vs fun v hw => sm_nat (k := v) (by have := hv v hw; omega))).mono (Nat.mul_le_mul_right _ h) (Nat.le_refl _)).rp rfl (by decide) (by decide)
theorem play_at_le : ∀ (dl : List Dd) (s : K27.St) (k x : Nat), play s dl k = (none, x) → x < k + dl.length
  | [], s, k, x, e => by cases e
  | d :: dl, s, k, x, e => by
    have e' : (if ok s d = true then play (beh s d) dl (k + 1) else (none, k)) = (none, x) := e
    by_cases c : ok s d = true
    · rw [if_pos c] at e'
      have := play_at_le dl _ _ _ e'
      rw [List.length_cons]; omega
    · rw [if_neg c] at e'
      cases e'
      rw [List.length_cons]; omega
theorem rp_plD {many : Nat} {dl : List Dd} (h1 : 0 < many) (h5 : many ≤ 5) (hl : dl.length ≤ 400) : Rp (plD (fun s => .tuple [.str "play", encSt s, evsD s]) (fun x => .tuple [.str "wrong", .int (x : Nat)]) (play (init many) dl 0)) := by
  rcases e : play (init many) dl 0 with ⟨o, x⟩
  cases o with
  | some s => exact rp_play (play_good dl 0 _ _ _ (good_init h1 0) e) h5 (by omega)
  | none => exact rp_wrong (by have := play_at_le dl _ _ _ e; omega)
/-! texts -/
section
variable {K : PySem.W.Frag} {ρ : En} {te : TE} {d : PyData}
theorem rc_repr (h : Rp d) : RC K (rRepr K) [d] (.str d.shown) := fun vs G H hs dv Q q => by
  cases dv with
  | cons d1 d2 =>
    cases d2
    exact ⟨_, d, rfl, dp_mono hs _ _ d1, h, q _ G H (.refl hs) (.str _)⟩
theorem rd_neS {x y : Str} : RD K rNe (.str x) (.str y) (.bool (!decide (x = y))) := fun a b G H hs da db Q q => by
  rw [dp_str da, dp_str db]
  have e : (!decide (V.str x = V.str y)) = !decide (x = y) := by
    congr 1
    rw [decide_eq_decide]
    exact ⟨fun z => V.str.inj z, fun z => by rw [z]⟩
  exact ⟨rfl, by rw [e]; exact q _ G H (.refl hs) (.bl _)⟩
theorem rd_neB {x y : Bool} : RD K rNe (.bool x) (.bool y) (.bool (!decide (x = y))) := fun a b G H hs da db Q q => by
  rw [dp_bool da, dp_bool db]
  have e : (!decide (V.bl x = V.bl y)) = !decide (x = y) := by
    congr 1
    rw [decide_eq_decide]
    exact ⟨fun z => V.bl.inj z, fun z => by rw [z]⟩
  exact ⟨rfl, by rw [e]; exact q _ G H (.refl hs) (.bl _)⟩
/-- repr(a) != repr(b), both the same data: no -/
theorem et_same {ta tb : TE} (h : Rp d) (ha : EvE K ta ρ d) (hb : EvE K tb ρ d) : EvT K (tTest (tOp rNe (tCB (rRepr K) (tCons ta tNil)) (tCB (rRepr K) (tCons tb tNil)))) ρ false :=
  et_eqb (ev_test (ev_op (ev_cb (ev_cons ha ev_nil) (rc_repr h)) (ev_cb (ev_cons hb ev_nil) (rc_repr h)) rd_neS)) (by simp)
def rReprB : List V → Hp → VK → Prop := fun xs H Q => ∃ b : Bool, xs = [.bl b] ∧ Q (.str (if b then "True" else "False")) H
theorem cr_reprB {X : Cx} : CallR X (.builtin "repr") rReprB := by
  intro pins s σ H xs us Q I r h
  obtain ⟨b, rfl, q⟩ := h
  obtain ⟨u, rfl, rx⟩ := vals1 r
  cases rx
  exact PySem.P.repr_of_bool ⟨.str _, H, I.tok _, ⟨_, rfl⟩, q⟩
theorem rc_reprB {b : Bool} : RC K rReprB [.bool b] (.str (if b then "True" else "False")) := fun vs G H hs dv Q q => by
  cases dv with
  | cons d1 d2 =>
    cases d2
    exact ⟨b, by rw [dp_bool d1], q _ G H (.refl hs) (.str _)⟩
end
/-! promises -/
section
variable {P : Program} {w : World} {K : PySem.W.Frag} {mg : Str → Option Value} {base : Heap}
theorem rdyG_of {x : Str} {st : Stmt} {N ps : List Str} {k : Nat} {F : List PyData → (PyData → Prop) → Prop} (kn : Kn K mg x st ps) (S : FnScope N ps (defScope st)) (len : ∀ ds R, F ds R → ds.length + 1 = ps.length) (hN : ps.length ≤ N.length)
    (body : ∀ (f : Addr) (cdv : Value) (A : Around) (outer : List Env) (s : Shared) (H : Hp) (E : XK), Room k (A.deeper (envOfC x (defScope st) s.heap.objs.size f cdv)) → A.guards = some [] → ∀ ds R, F ds R →
      ∃ t, PSs (cxOf CX0 P w K mg base N x (defScope st) f cdv A outer s H E).nox (defBody st) t ∧ MS K (some 0) t (none :: startE (N.length - 1) ds) [] (fun _ _ => False) R) :
    RdyG P w K mg base (k + 1) x ps (spJ K F) := by
  obtain ⟨f, fd, hf, hm, hb⟩ := kn
  refine ⟨f, fd, fnG_of hf S (fun vs H Q E h => ?_) (fun cdv A outer s H vs Q E hr gs h => ?_), hm, hf.kp, hb⟩
  · obtain ⟨j, rest, G, ds, R, rfl, hs, hd, _, _, hz, _⟩ := h
    rw [List.length_cons, dpa_len hd, len ds R hz]
  · obtain ⟨j, rest, G, ds, R, rfl, hs, hd, hj, gj, hz, q⟩ := h
    obtain ⟨t, ht, ev⟩ := body f cdv A outer s H E hr gs ds R hz
    have hl := len ds R hz
    have hdl := dpa_len hd
    have sd : SD K (L2.start N (.ref j :: rest)) G (none :: startE (N.length - 1) ds) := by
      have e : L2.start N (.ref j :: rest) = some (.ref j) :: (rest.map some ++ List.replicate (N.length - 1 - rest.length) none) := by
        unfold L2.start
        rw [List.map_cons, List.cons_append, List.length_cons, Nat.sub_sub, Nat.add_comm 1]
      rw [e]
      refine sd_cons ?_
      have := sd_start (N := List.replicate (N.length - 1) default) hd (by rw [List.length_replicate]; omega)
      unfold L2.start at this
      rw [List.length_replicate] at this
      exact this
    obtain ⟨a, b, ok, ej⟩ := hj
    refine ⟨t, ht, ev _ j G H _ G H ⟨hs, sd, fun _ _ _ e => e, fun _ _ => rfl, ⟨[], trivial⟩, fun i h => ?_⟩ (fun _ _ _ _ _ _ _ hn => hn.elim) fun v σ' G2 H2 ρ' μ' d m dv hR => ?_⟩
    · cases h
      exact ⟨rfl, ⟨a, b, ok, ej⟩, gj, by rw [ej]; simp⟩
    · obtain ⟨_, k2, k3, _⟩ := m.jug 0 rfl
      exact q v G2 H2 d m.sub (fun b o hb e => m.ext b o (fun _ => hb) e) (fun b _ hb => m.old b hb) k2 k3 dv hR
end
end KD

/-! KF17: all is right with one play. -/
namespace KD
open PySem L2 PySem.Spec PyProof.Rows K27
abbrev rR (E m t D S P H : PyData) (o8 o9 o10 o11 o12 o13 o14 o15 o16 o17 o18 o19 o20 : Option PyData) : En := [none, some E, some m, some t, some D, some S, some P, some H, o8, o9, o10, o11, o12, o13, o14, o15, o16, o17, o18, o19, o20, none]
theorem good_ableHas {many n : Nat} {s : K27.St} (g : Good many n s) {i : Nat} (hi : i ∈ able s) : i < s.cs.length ∧ (cp s i).rows.take s.done = comm s := by
  obtain ⟨M, C, I⟩ := g.inv
  obtain ⟨h1, h2⟩ := able_has I hi
  refine ⟨h1, ?_⟩
  rw [comm_eq I, ← I.clen]
  exact (List.prefix_iff_eq_take.mp h2).symm
theorem good_terms {many n : Nat} {s : K27.St} (g : Good many n s) {c : Cp} (hc : c ∈ s.cs) : ∀ r ∈ c.rows, 1 ≤ r.term ∧ evOk r.ev = true := fun r hr => by
  obtain ⟨M, C, I⟩ := g.inv
  exact ⟨(I.rowsM c hc r hr).1, (g.small.rterm c hc r hr).2⟩
theorem able_le {s : K27.St} (h : s.cs.length ≤ 5) : (able s).length ≤ 5 ∧ ∀ v ∈ able s, v ≤ 5 := by
  unfold able
  refine ⟨Nat.le_trans (List.length_filter_le _ _) (by rw [List.length_range]; exact h), fun v hv => ?_⟩
  have := List.mem_range.mp (List.mem_filter.mp hv).1
  omega
theorem able_ups (s : K27.St) : decide ((!(able s).isEmpty) = decide (((s.cs.length : Nat) : Int) < 2 * (((s.cs.filter (·.up)).length : Nat) : Int))) = true := by
  rw [half_len, decide_eq_true_eq]
  cases e : half s.cs (·.up) with
  | true =>
    have := able_iff.mpr e
    cases h : able s with
    | nil => exact absurd h this
    | cons a b => rfl
  | false =>
    cases h : able s with
    | nil => rfl
    | cons a b =>
      have := able_iff.mp (by rw [h]; simp : able s ≠ [])
      rw [e] at this
      cases this
theorem mx_slF {K : PySem.W.Frag} {js : Option Nat} {ρ : En} {μ : Own} {te ta : TE} {ds : List PyData} {P PI : PyData → Prop} (h : EvE K te ρ (.tuple ds)) (hl : MX K js ta ρ μ PI) (hp : ∀ d, PI d → ∃ i : Int, d = .int i ∧ P (.tuple (cutD ds (some i) none))) : MX K js (tSl (rSlA K) te (tPart ta) tNoPart) ρ μ P := fun j G0 H0 σ G H m Q q =>
  h σ G H m.sub m.sd _ fun v G1 H1 s1 d1 => hl j G0 H0 σ G1 H1 (m.stp s1) _ fun u G2 H2 x m2 s2 dx px => by
    obtain ⟨i, rfl, pi⟩ := hp x px
    have s12 : StpJ js j G H G2 H2 := (StpJ.of s1).trans s2
    have dv := dp_mono (s2.same (m.stp s1)) _ _ d1
    refine ⟨i, dp_int dx, ?_⟩
    exact ev_none (K := K) (ρ := ρ) σ G2 H2 m2.sub m2.sd _ fun G4 H4 s3 => by
      have d4 := dp_mono (s3.up m2.sub) _ _ dv
      obtain ⟨p, vs, e1, e2, e3⟩ := dp_tup d4
      refine ⟨p, vs, e1, sqt_mono s3.sub e2, fun z => ?_, fun _ r hr => ?_⟩
      · have e : cutD ds (some i) none = ds := by
          unfold cutD
          rw [dpa_len e3] at z
          rw [z.1, z.2, List.drop_zero, Nat.sub_zero, List.take_length]
        refine q _ G4 H4 _ (m2.stp s3) (s12.trans (.of s3)) ?_ pi
        rw [e, ← e1]
        exact d4
      · have st := Stp.new s3.sub hr (.tup (cutV vs (some i) none))
        refine q _ _ _ _ ((m2.stp s3).stp st) (s12.trans ((StpJ.of s3).trans (.of st))) (.tup (.inl (.inl upd_same)) (dpa_mono (st.up s3.sub) _ _ ?_)) pi
        unfold cutV cutD
        rw [dpa_len e3]
        exact dpa_take _ (dpa_drop _ e3)

abbrev s__law_right : Stmt := top 55
abbrev N__law_right : List Str := ["jug", "events", "many", "total", "deeds", "states", "play", "here", "number", "able", "up", "term", "rows", "voters", "ups", "one", "other", "turn", "at", "wrong", "bent", "event"]
theorem sc__law_right : FnScope N__law_right ["jug", "events"] (defScope s__law_right) := ⟨rfl, rfl, rfl, by decide +kernel, rfl, by decide +kernel, by decide +kernel⟩


def F__law_right : List PyData → (PyData → Prop) → Prop := fun ds R => ∃ (evs : List Ev), (evs ≠ []) ∧ (evs.length ≤ 1000) ∧ (∀ e ∈ evs, evOk e = true) ∧ ds = [.list (evs.map encEv)] ∧ R = fun z => z = .bool true
theorem I__law_right {evs : List Ev} (p0 : evs ≠ []) (p1 : evs.length ≤ 1000) (p2 : ∀ e ∈ evs, evOk e = true) : F__law_right [.list (evs.map encEv)] (fun z => z = .bool true) := ⟨evs, p0, p1, p2, rfl, rfl⟩
theorem R__law_right {P : Program} {w : World} {K : PySem.W.Frag} {mg : Str → Option Value} {base : Heap} (T : Tx mg) (kn : Kn K mg "_law_right" s__law_right ["jug", "events"]) (R_play_paper : Rdy P w K mg base 6 "play_paper" ["many", "value"] (spP K F_play_paper)) (R__law_paper : Rdy P w K mg base 5 "_law_paper" ["many", "deeds"] (spP K F__law_paper)) (R__law_sip : Rdy P w K mg base 1 "_law_sip" ["jug", "total"] (spJ K F__law_sip)) (R__law_wrong_deed : Rdy P w K mg base 5 "_law_wrong_deed" ["jug", "state", "events"] (spJ K F__law_wrong_deed)) (R_is_newer : Rdy P w K mg base 4 "is_newer" ["rows", "other"] (spP K F_is_newer)) (R__law_last : Rdy P w K mg base 1 "_law_last" ["rows"] (spP K F__law_last)) (R__law_pick : Rdy P w K mg base 2 "_law_pick" ["jug", "items"] (spJ K F__law_pick)) (R__law_committed : Rdy P w K mg base 1 "_law_committed" ["state"] (spP K F__law_committed)) (R_electable : Rdy P w K mg base 7 "electable" ["many", "deeds"] (spP K F_electable)) (R__law_facts_right : Rdy P w K mg base 2 "_law_facts_right" ["state", "before"] (spP K F__law_facts_right)) (R__law_told_state : Rdy P w K mg base 1 "_law_told_state" ["state"] (spP K F__law_told_state)) (R_committed : Rdy P w K mg base 7 "committed" ["many", "deeds"] (spP K F_committed)) (R_state_behind : Rdy P w K mg base 7 "state_behind" ["many", "deeds"] (spP K F_state_behind)) (R__law_drawn_play : Rdy P w K mg base 4 "_law_drawn_play" ["jug", "many", "total", "events"] (spJ K F__law_drawn_play)) : RdyG P w K mg base 8 "_law_right" ["jug", "events"] (spJ K F__law_right) := by
  refine rdyG_of kn sc__law_right (fun ds z h => ?_) (by decide) (fun f cdv A outer s H E hr gs ds z h => ?_)
  · obtain ⟨evs, p0, p1, p2, rfl, rfl⟩ := h
    rfl
  obtain ⟨evs, p0, p1, p2, rfl, rfl⟩ := h
  refine ⟨_, (pss_cons (ps_par (i := 2) (j := 3) rfl sc__law_right.nd rfl rfl (by decide) rfl rfl (pa_cons (pe_fn R__law_pick (hr.mono (by decide)) (by rfl) (pa_cons (pv 0) (pa_cons (pe_lst (pa_cons pe_int (pa_cons pe_int (pa_cons pe_int pa_nil)))) pa_nil))) (pa_cons (pe_fn R__law_pick (hr.mono (by decide)) (by rfl) (pa_cons (pv 0) (pa_cons (pe_lst (pa_cons pe_int (pa_cons pe_int (pa_cons pe_int (pa_cons pe_int pa_nil))))) pa_nil))) pa_nil)) (by rfl)) (pss_cons (ps_asg (pe_fn R__law_drawn_play (hr.mono (by decide)) (by rfl) (pa_cons (pv 0) (pa_cons (pv 2) (pa_cons (pv 3) (pa_cons (pv 1) pa_nil))))) (pg_tup (by rfl) (pgs_cons (pg_name (i := 4) sc__law_right.nd rfl (by first | exact Or.inl rfl | exact Or.inr rfl)) (pgs_cons (pg_name (i := 5) sc__law_right.nd rfl (by first | exact Or.inl rfl | exact Or.inr rfl)) pgs_nil)))) (pss_cons (ps_par (i := 6) (j := 7) rfl sc__law_right.nd rfl rfl (by decide) rfl rfl (pa_cons (pe_callTy call_tuple_of (by rfl) T.b_tuple bt_tuple (pa_cons (pv 4) pa_nil)) (pa_cons (pe_ix ix_list (pv 5) (pe_un un_neg pe_int) (fun _ _ => rfl)) pa_nil)) (by rfl)) (pss_cons (ps_if (PW.pt (pw_or (pt_cmpR op_ne (pe_callB (cr_repr gs hr.units) (by rfl) T.b_repr bt_repr (pa_cons (pe_fn R_state_behind (hr.mono (by decide)) (by rfl) (pa_cons (pv 2) (pa_cons (pv 6) pa_nil))) pa_nil)) (pe_callB (cr_repr gs hr.units) (by rfl) T.b_repr bt_repr (pa_cons (pe_fn R__law_told_state (hr.mono (by decide)) (by rfl) (pa_cons (pv 7) pa_nil)) pa_nil)) (by first | rfl | exact nomark _)) (pw_or1 (pt_cmpR op_ne (pe_callB (cr_repr gs hr.units) (by rfl) T.b_repr bt_repr (pa_cons (pe_fn R_committed (hr.mono (by decide)) (by rfl) (pa_cons (pv 2) (pa_cons (pv 6) pa_nil))) pa_nil)) (pe_callB (cr_repr gs hr.units) (by rfl) T.b_repr bt_repr (pa_cons (pe_fn R__law_committed (hr.mono (by decide)) (by rfl) (pa_cons (pv 7) pa_nil)) pa_nil)) (by first | rfl | exact nomark _))))) (pss_one (ps_ret pe_bl)) pss_nil) (pss_cons (ps_if (pt_cmpR op_ne (pe_callB (cr_repr gs hr.units) (by rfl) T.b_repr bt_repr (pa_cons (pe_fn R_play_paper (hr.mono (by decide)) (by rfl) (pa_cons (pv 2) (pa_cons (pv 6) pa_nil))) pa_nil)) (pe_callB (cr_repr gs hr.units) (by rfl) T.b_repr bt_repr (pa_cons (pe_tup (pa_cons pe_str (pa_cons (pe_fn R__law_told_state (hr.mono (by decide)) (by rfl) (pa_cons (pv 7) pa_nil)) (pa_cons (pe_fn R__law_committed (hr.mono (by decide)) (by rfl) (pa_cons (pv 7) pa_nil)) pa_nil)))) pa_nil)) (by first | rfl | exact nomark _)) (pss_one (ps_ret pe_bl)) pss_nil) (pss_cons (ps_for PassesOwn.never rfl (pi_range1 (by rfl) T.b_range (pa_cons (pe_callB call_len_seq (by rfl) T.b_len bt_len (pa_cons (pv 4) pa_nil)) pa_nil)) (pg_name (i := 8) sc__law_right.nd rfl (by first | exact Or.inl rfl | exact Or.inr rfl)) (pss_one (ps_if (PW.pt (pw_and (PW.pt (pw_or (pt_cmpR (op_eqD hr.units) (pe_op op_modN (pv 8) pe_int) pe_int (by first | rfl | exact nomark _)) (pw_or1 (pt_cmpR op_gt (pv 8) (pe_op op_sub (pe_callB call_len_seq (by rfl) T.b_len bt_len (pa_cons (pv 4) pa_nil)) pe_int) (by first | rfl | exact nomark _))))) (pw_and1 (pt_not (pt_val (pe_fn R__law_facts_right (hr.mono (by decide)) (by rfl) (pa_cons (pe_ix ix_list (pv 5) (pe_op op_add (pv 8) pe_int) (fun _ _ => rfl)) (pa_cons (pe_ix ix_list (pv 5) (pv 8) (fun _ _ => rfl)) pa_nil)))))))) (pss_one (ps_ret pe_bl)) pss_nil))) (pss_cons (ps_set (i := 9) sc__law_right.nd rfl (by first | exact Or.inl rfl | exact Or.inr rfl) (pe_lst pa_nil)) (pss_cons (ps_for PassesOwn.never rfl (pi_enum (by rfl) T.b_enumerate (pa_cons (pe_ix ix_list (pv 7) pe_int (fun _ _ => rfl)) pa_nil)) (pg_tup (by rfl) (pgs_cons (pg_name (i := 8) sc__law_right.nd rfl (by first | exact Or.inl rfl | exact Or.inr rfl)) (pgs_cons (pg_unl (by rfl) (pgs_cons (pg_name (i := 10) sc__law_right.nd rfl (by first | exact Or.inl rfl | exact Or.inr rfl)) (pgs_cons (pg_name (i := 11) sc__law_right.nd rfl (by first | exact Or.inl rfl | exact Or.inr rfl)) (pgs_cons (pg_name (i := 12) sc__law_right.nd rfl (by first | exact Or.inl rfl | exact Or.inr rfl)) pgs_nil)))) pgs_nil))) (pss_cons (ps_setLc (i := 13) (own := [("one", 15)]) (g := (gName 15)) (tt := (tAnd (tB (tOp (rIxL K) (tVar 15) (tC (.int 0)))) (tTest (tOp (rLeT K) (tCall (spP K F__law_last) [] E0 (tCons (tOp (rIxL K) (tVar 15) (tC (.int 2))) tNil)) (tCall (spP K F__law_last) [] E0 (tCons (tVar 12) tNil)))))) (te := (tVar 15)) rfl sc__law_right.nd rfl rfl (sw_true rfl rfl rfl (by decide +kernel)) (pi_list (pe_ix ix_list (pv 7) pe_int (fun _ _ => rfl))) (blkOk_by (N := N__law_right) (sc := defScope s__law_right) (by decide +kernel)) (fun _ _ _ _ _ => by exact (pg_name (i := 15) sc__law_right.nd rfl (by first | exact Or.inl rfl | exact Or.inr rfl))) (fun _ _ _ _ _ => by exact (pts_one (PW.pt (pw_and (pt_val (pe_ix ix_list (pv 15) pe_int (fun _ _ => rfl))) (pw_and1 (pt_cmpR (op_leT (Nat.lt_of_le_of_lt (Nat.le_add_right _ 64) hr.units)) (pe_fn R__law_last (hr.mono (by decide)) (by rfl) (pa_cons (pe_ix ix_list (pv 15) pe_int (fun _ _ => rfl)) pa_nil)) (pe_fn R__law_last (hr.mono (by decide)) (by rfl) (pa_cons (pv 12) pa_nil)) (by first | rfl | exact nomark _))))))) (fun _ _ _ _ _ => by exact (pv 15))) (pss_one (ps_if (PW.pt (pw_and (pt_val (pv 10)) (pw_and1 (pt_cmpR op_gt (pe_op op_mul pe_int (pe_callB call_len_seq (by rfl) T.b_len bt_len (pa_cons (pv 13) pa_nil))) (pv 2) (by first | rfl | exact nomark _))))) (pss_one (ps_expr (pe_bm PySem.F.plainAttrs_list PySem.F.slot_list_append PySem.F.type_list_append mt_append (pv 9) (pa_cons (pv 8) pa_nil)))) pss_nil)))) (pss_cons (ps_set (i := 14) sc__law_right.nd rfl (by first | exact Or.inl rfl | exact Or.inr rfl) (pe_callB call_len_seq (by rfl) T.b_len bt_len (pa_cons (pe_lc (own := [("one", 15)]) (g := (gName 15)) (tt := (tB (tOp (rIxL K) (tVar 15) (tC (.int 0))))) (te := (tVar 15)) rfl sc__law_right.nd (pi_list (pe_ix ix_list (pv 7) pe_int (fun _ _ => rfl))) (blkOk_by (N := N__law_right) (sc := defScope s__law_right) (by decide +kernel)) (fun _ _ _ _ _ => by exact (pg_name (i := 15) sc__law_right.nd rfl (by first | exact Or.inl rfl | exact Or.inr rfl))) (fun _ _ _ _ _ => by exact (pts_one (pt_val (pe_ix ix_list (pv 15) pe_int (fun _ _ => rfl))))) (fun _ _ _ _ _ => by exact (pv 15))) pa_nil))) (pss_cons (ps_if (PW.pt (pw_or (pt_cmpR op_ne (pe_callB (cr_repr gs hr.units) (by rfl) T.b_repr bt_repr (pa_cons (pe_fn R_electable (hr.mono (by decide)) (by rfl) (pa_cons (pv 2) (pa_cons (pv 6) pa_nil))) pa_nil)) (pe_callB (cr_repr gs hr.units) (by rfl) T.b_repr bt_repr (pa_cons (pe_callTy call_tuple_of (by rfl) T.b_tuple bt_tuple (pa_cons (pv 9) pa_nil)) pa_nil)) (by first | rfl | exact nomark _)) (pw_or1 (pt_cmpR op_ne (pe_cmpR (op_neD hr.units) (pv 9) (pe_lst pa_nil) (by first | rfl | exact nomark _)) (pe_cmpR op_gt (pe_op op_mul pe_int (pv 14)) (pv 2) (by first | rfl | exact nomark _)) (by first | rfl | exact nomark _))))) (pss_one (ps_ret pe_bl)) pss_nil) (pss_cons (ps_for PassesOwn.never rfl (pi_list (pv 9)) (pg_name (i := 8) sc__law_right.nd rfl (by first | exact Or.inl rfl | exact Or.inr rfl)) (pss_one (ps_if (pt_cmpR (op_neD hr.units) (pe_callTy call_tuple_of (by rfl) T.b_tuple bt_tuple (pa_cons (pe_lc (own := [("term", 11), ("event", 21)]) (g := (gTup K 2 (gCons (gName 11) (gCons (gName 21) gNil)))) (tt := tYes) (te := (tVar 21)) rfl sc__law_right.nd (pi_tup (pe_slice sl_tupA (pe_ix ix_list (pe_ix ix_list (pe_ix ix_list (pv 7) pe_int (fun _ _ => rfl)) (pv 8) (fun _ _ => rfl)) pe_int (fun _ _ => rfl)) po_none (po_some (pe_ix ix_list (pv 7) pe_int (fun _ _ => rfl))))) (blkOk_by (N := N__law_right) (sc := defScope s__law_right) (by decide +kernel)) (fun _ _ _ _ _ => by exact (pg_tup (by rfl) (pgs_cons (pg_name (i := 11) sc__law_right.nd rfl (by first | exact Or.inl rfl | exact Or.inr rfl)) (pgs_cons (pg_name (i := 21) sc__law_right.nd rfl (by first | exact Or.inl rfl | exact Or.inr rfl)) pgs_nil)))) (fun _ _ _ _ _ => by exact pts_nil) (fun _ _ _ _ _ => by exact (pv 21))) pa_nil)) (pe_fn R__law_committed (hr.mono (by decide)) (by rfl) (pa_cons (pv 7) pa_nil)) (by first | rfl | exact nomark _)) (pss_one (ps_ret pe_bl)) pss_nil))) (pss_cons (ps_par (i := 15) (j := 16) rfl sc__law_right.nd rfl rfl (by decide) rfl rfl (pa_cons (pe_ix ix_list (pe_fn R__law_pick (hr.mono (by decide)) (by rfl) (pa_cons (pv 0) (pa_cons (pe_ix ix_list (pv 7) pe_int (fun _ _ => rfl)) pa_nil))) pe_int (fun _ _ => rfl)) (pa_cons (pe_ix ix_list (pe_fn R__law_pick (hr.mono (by decide)) (by rfl) (pa_cons (pv 0) (pa_cons (pe_ix ix_list (pv 7) pe_int (fun _ _ => rfl)) pa_nil))) pe_int (fun _ _ => rfl)) pa_nil)) (by rfl)) (pss_cons (ps_if (pt_cmpR op_ne (pe_callB cr_reprB (by rfl) T.b_repr bt_repr (pa_cons (pe_fn R_is_newer (hr.mono (by decide)) (by rfl) (pa_cons (pv 15) (pa_cons (pv 16) pa_nil))) pa_nil)) (pe_callB cr_reprB (by rfl) T.b_repr bt_repr (pa_cons (pe_cmpR (op_gtP (Nat.lt_of_le_of_lt (Nat.le_add_right _ 64) hr.units)) (pe_fn R__law_last (hr.mono (by decide)) (by rfl) (pa_cons (pv 15) pa_nil)) (pe_fn R__law_last (hr.mono (by decide)) (by rfl) (pa_cons (pv 16) pa_nil)) (by first | rfl | exact nomark _)) pa_nil)) (by first | rfl | exact nomark _)) (pss_one (ps_ret pe_bl)) pss_nil) (pss_cons (ps_for PassesOwn.never rfl (pi_range1 (by rfl) T.b_range (pa_cons pe_int pa_nil)) (pg_name (i := 17) sc__law_right.nd rfl (by first | exact Or.inl rfl | exact Or.inr rfl)) (pss_cons (ps_set (i := 18) sc__law_right.nd rfl (by first | exact Or.inl rfl | exact Or.inr rfl) (pe_fn R__law_sip (hr.mono (by decide)) (by rfl) (pa_cons (pv 0) (pa_cons (pe_op op_add (pe_callB call_len_seq (by rfl) T.b_len bt_len (pa_cons (pv 4) pa_nil)) pe_int) pa_nil)))) (pss_cons (ps_set (i := 19) sc__law_right.nd rfl (by first | exact Or.inl rfl | exact Or.inr rfl) (pe_fn R__law_wrong_deed (hr.mono (by decide)) (by rfl) (pa_cons (pv 0) (pa_cons (pe_ix ix_list (pv 5) (pv 18) (fun _ _ => rfl)) (pa_cons (pv 1) pa_nil))))) (pss_cons (ps_set (i := 20) sc__law_right.nd rfl (by first | exact Or.inl rfl | exact Or.inr rfl) (pe_op op_catA (pe_op op_catA (pe_slice sl_tupA (pv 6) po_none (po_some (pv 18))) (pe_tup (pa_cons (pv 19) pa_nil))) (pe_slice sl_tupA (pv 6) (po_some (pe_op op_add (pv 18) (pe_fn R__law_sip (hr.mono (by decide)) (by rfl) (pa_cons (pv 0) (pa_cons pe_int pa_nil))))) po_none))) (pss_one (ps_if (pt_cmpR op_ne (pe_callB (cr_repr gs hr.units) (by rfl) T.b_repr bt_repr (pa_cons (pe_fn R_play_paper (hr.mono (by decide)) (by rfl) (pa_cons (pv 2) (pa_cons (pv 20) pa_nil))) pa_nil)) (pe_callB (cr_repr gs hr.units) (by rfl) T.b_repr bt_repr (pa_cons (pe_fn R__law_paper (hr.mono (by decide)) (by rfl) (pa_cons (pv 2) (pa_cons (pv 20) pa_nil))) pa_nil)) (by first | rfl | exact nomark _)) (pss_one (ps_ret pe_bl)) pss_nil)))))) (pss_one (ps_ret pe_bl)))))))))))))))), ?_⟩
  have twoN : (none : Option PyData) = none := rfl
  refine ms_seq (N1 := fun ρ' μ' => μ' = [] ∧ ∃ many total : Nat, (many = 3 ∨ many = 5) ∧ total ≤ 150 ∧ ρ' = [none, some (.list (evs.map encEv)), some (.int (many : Nat)), some (.int (total : Nat)), none, none, none, none, none, none, none, none, none, none, none, none, none, none, none, none, none, none]) (ms_par (ma_cons (P := fun d => ∃ n : Nat, (n = 3 ∨ n = 5) ∧ d = .int (n : Nat)) (mx_callJ (PL := (· = [.list [.int 3, .int 5, .int 5]])) (ma_of (ev_cons (ev_lst (ev_cons ev_int (ev_cons ev_int (ev_cons ev_int ev_nil))) (Nat.le_of_ble_eq_true rfl)) ev_nil)) ?_) (ma_cons (P := fun d => ∃ n : Nat, n ≤ 150 ∧ d = .int (n : Nat)) (mx_callJ (PL := (· = [.list [.int 4, .int 20, .int 60, .int 150]])) (ma_of (ev_cons (ev_lst (ev_cons ev_int (ev_cons ev_int (ev_cons ev_int (ev_cons ev_int ev_nil)))) (Nat.le_of_ble_eq_true rfl)) ev_nil)) ?_) ma_nil)) (by
    rintro l ⟨d, ds, rfl, ⟨n, hn, rfl⟩, d', ds', rfl, ⟨n', hn', rfl⟩, rfl⟩
    exact ⟨_, _, rfl, rfl, n, n', hn, hn', rfl⟩) (by simp) (by simp)) ?_
  · rintro l rfl
    refine ⟨_, I__law_pick (by simp) (by decide), fun z h => ?_⟩
    simp only [List.mem_cons, List.not_mem_nil, or_false] at h
    rcases h with rfl | rfl | rfl
    · exact ⟨3, .inl rfl, rfl⟩
    · exact ⟨5, .inr rfl, rfl⟩
    · exact ⟨5, .inr rfl, rfl⟩
  · rintro l rfl
    refine ⟨_, I__law_pick (by simp) (by decide), fun z h => ?_⟩
    simp only [List.mem_cons, List.not_mem_nil, or_false] at h
    rcases h with rfl | rfl | rfl | rfl
    · exact ⟨4, by decide, rfl⟩
    · exact ⟨20, by decide, rfl⟩
    · exact ⟨60, by decide, rfl⟩
    · exact ⟨150, by decide, rfl⟩
  rintro ρ' μ' ⟨rfl, many, total, hm, ht, rfl⟩
  refine ms_seq (N1 := fun ρ' μ' => μ' = [] ∧ ∃ dl ss, Path many dl ss ∧ dl.length ≤ total ∧ ρ' = [none, some (.list (evs.map encEv)), some (.int (many : Nat)), some (.int (total : Nat)), some (.list (dl.map encDd)), some (.list (ss.map encStL)), none, none, none, none, none, none, none, none, none, none, none, none, none, none, none, none]) (ms_asg (P := fun z => ∃ dl ss, z = .tuple [.list (dl.map encDd), .list (ss.map encStL)] ∧ Path many dl ss ∧ dl.length ≤ total) (ρ' := fun d => match d with | .tuple [a, b] => [none, some (.list (evs.map encEv)), some (.int (many : Nat)), some (.int (total : Nat)), some a, some b, none, none, none, none, none, none, none, none, none, none, none, none, none, none, none, none] | _ => []) (mx_callJ (PL := (· = [.int (many : Nat), .int (total : Nat), .list (evs.map encEv)])) (ma_of (ev_cons (ev_var rfl) (ev_cons (ev_var rfl) (ev_cons (ev_var rfl) ev_nil)))) (by rintro l rfl; exact ⟨_, I__law_drawn_play hm ht p0 p1 p2, fun z h => h⟩)) (by rintro d ⟨dl, ss, rfl, _⟩; exact eg_tup (eg_cons eg_name (eg_cons eg_name eg_nil)) rfl) (by simp) (by simp) (by rintro d ⟨dl, ss, rfl, hp, hl⟩; exact ⟨rfl, dl, ss, hp, hl, rfl⟩)) ?_
  rintro ρ' μ' ⟨rfl, dl, ss, hp, hdl, rfl⟩
  have hm1 : 0 < many := by omega
  have hm5 : many ≤ 5 := by omega
  obtain ⟨ss0, s, rfl, g, y, hpl⟩ := hp.last hm1
  have gd : Gd s := good_gd g hm5 (by omega)
  have hfit := hp.fit
  have hfit1 : ∀ d ∈ dl, fit d := fun d hd => (hfit d hd).fit
  have h400 : dl.length ≤ 400 := by omega
  have hsl := hp.len
  have szc : (s.cs.map encCpL).length ≤ sizeLine := Nat.le_trans (m := 5) (by rw [List.length_map]; exact gd.len) (by decide)
  have told : ∀ {ρ : En} {tt : TA}, EvA K tt ρ [encStL s] → EvE K (tCall (spP K F__law_told_state) [] E0 tt) ρ (encSt s) := fun h => ev_call h (I__law_told_state gd)
  have commd : ∀ {ρ : En} {tt : TA}, EvA K tt ρ [encStL s] → EvE K (tCall (spP K F__law_committed) [] E0 tt) ρ (evsD s) := fun h => ev_call h (I__law_committed gd)
  refine ms_seq (N1 := fun ρ' μ' => μ' = [] ∧ ρ' = rR (.list (evs.map encEv)) (.int (many : Nat)) (.int (total : Nat)) (.list (dl.map encDd)) (.list ((ss0 ++ [s]).map encStL)) (.tuple (dl.map encDd)) (encStL s) none none none none none none none none none none none none none) (ms_par (ma_of (ev_cons (ev_cb (ev_cons (ev_var rfl) ev_nil) rc_tupL) (ev_cons (ev_op (ev_var rfl) (ev_neg ev_int) (rd_ixL (at_endL ss0 s))) ev_nil))) (by rintro l rfl; exact ⟨_, _, rfl, rfl, rfl⟩) (by simp) (by simp)) ?_
  rintro ρ' μ' ⟨rfl, rfl⟩
  refine ms_ifS (PB := (· = false)) (mt_of (et_eqb (ev_orT (et_same (rp_st g hm5 h400) (ev_call (ev_cons (ev_var rfl) (ev_cons (ev_var rfl) ev_nil)) (I_state_behind hm hfit1 h400 hpl)) (told (ev_cons (ev_var rfl) ev_nil))) fun _ => et_same (rp_evs g h400) (ev_call (ev_cons (ev_var rfl) (ev_cons (ev_var rfl) ev_nil)) (I_committed hm hfit1 h400 hpl)) (commd (ev_cons (ev_var rfl) ev_nil))) rfl)) (fun h => nomatch h) (fun _ => ms_nxS ?_)
  refine ms_ifS (PB := (· = false)) (mt_of (et_same (rp_play g hm5 h400) (ev_eqd (ev_call (ev_cons (ev_var rfl) (ev_cons (ev_var rfl) ev_nil)) (I_play_paper hm hfit1 h400)) (by rw [hpl]; rfl)) (ev_tup (ev_cons ev_str (ev_cons (told (ev_cons (ev_var rfl) ev_nil)) (ev_cons (commd (ev_cons (ev_var rfl) ev_nil)) ev_nil))) (Nat.le_of_ble_eq_true rfl)))) (fun h => nomatch h) (fun _ => ms_nxS ?_)
  refine ms_seq (N1 := fun ρ' μ' => μ' = [] ∧ ∃ o8, ρ' = rR (.list (evs.map encEv)) (.int (many : Nat)) (.int (total : Nat)) (.list (dl.map encDd)) (.list ((ss0 ++ [s]).map encStL)) (.tuple (dl.map encDd)) (encStL s) o8 none none none none none none none none none none none none) (ms_for (ds := (List.range (((dl.map encDd).length : Nat) : Int).toNat).map fun i => .int (i : Nat)) ?_ (fun r ρ' μ' => (∀ x ∈ r, ∃ k : Nat, k < dl.length ∧ x = .int (k : Nat)) ∧ μ' = [] ∧ ∃ o8, ρ' = rR (.list (evs.map encEv)) (.int (many : Nat)) (.int (total : Nat)) (.list (dl.map encDd)) (.list ((ss0 ++ [s]).map encStL)) (.tuple (dl.map encDd)) (encStL s) o8 none none none none none none none none none none none none) ⟨?_, rfl, _, rfl⟩ ?_ (fun ρ μ h => h.2)) ?_
  · exact ei_range1 (ev_cons (ev_cb (ev_cons (ev_var rfl) ev_nil) rc_lenL) ev_nil) (by rw [List.length_map]; omega) (by rw [List.length_map]; omega)
  · intro x hx
    obtain ⟨k, hk, rfl⟩ := List.mem_map.mp hx
    rw [List.mem_range, Int.toNat_natCast, List.length_map] at hk
    exact ⟨k, hk, rfl⟩
  · rintro x r ρ' μ' ⟨hx, rfl, o8, rfl⟩
    obtain ⟨k, hk, rfl⟩ := hx x List.mem_cons_self
    obtain ⟨sa, sb, e1, e2, e3⟩ := hp.step hm1 k hk
    have ga := good_gd (hp.at hm1 k sa e1) hm5 (by omega)
    have gb := good_gd (hp.at hm1 (k + 1) sb e2) hm5 (by omega)
    refine ⟨_, _, eg_name, by simp, by simp, ?_⟩
    refine ms_if (PB := (· = false)) (mt_of (et_eqb (ev_andT (ev_orT (ev_test (ev_op (ev_op (ev_var rfl) ev_int (rd_modN (by decide))) ev_int (rd_eq rfl rfl))) fun _ => ev_test (ev_op (ev_var rfl) (ev_op (ev_cb (ev_cons (ev_var rfl) ev_nil) rc_lenL) ev_int rd_sub) rd_gt)) fun _ => ev_notT (ev_tB (ev_call (ev_cons (ev_op (ev_var rfl) (ev_op (ev_var rfl) ev_int rd_add) (rd_ixL (at_map e2))) (ev_cons (ev_op (ev_var rfl) (ev_var rfl) (rd_ixL (at_map e1))) ev_nil)) (I__law_facts_right gb ga e3)))) (Bool.and_false _))) (fun h => nomatch h) (fun _ => ms_next ⟨fun z hz => hx z (List.mem_cons_of_mem _ hz), rfl, _, rfl⟩)
  rintro ρ' μ' ⟨rfl, o8, rfl⟩
  refine ms_seq (N1 := fun ρ' μ' => μ' = [(9, [])] ∧ ρ' = rR (.list (evs.map encEv)) (.int (many : Nat)) (.int (total : Nat)) (.list (dl.map encDd)) (.list ((ss0 ++ [s]).map encStL)) (.tuple (dl.map encDd)) (encStL s) o8 none none none none none none none none none none none none) (ms_own (C := (· = [])) (fx_lst (PL := (· = [])) ma_nil (by rintro l rfl; exact Nat.zero_le _)) (Nat.le_of_ble_eq_true rfl) (by simp) (by simp) (by rintro c rfl; exact ⟨rfl, rfl⟩)) ?_
  rintro ρ' μ' ⟨rfl, rfl⟩
  refine ms_seq (N1 := fun ρ' μ' => μ' = [(9, nats (able s))] ∧ ∃ o8 o10 o11 o12 o13, ρ' = rR (.list (evs.map encEv)) (.int (many : Nat)) (.int (total : Nat)) (.list (dl.map encDd)) (.list ((ss0 ++ [s]).map encStL)) (.tuple (dl.map encDd)) (encStL s) o8 none o10 o11 o12 o13 none none none none none none none) (ms_for (ds := enF 0 (s.cs.map encCpL)) ?_ (fun r ρ' μ' => ∃ k, k ≤ s.cs.length ∧ r = enF k ((s.cs.map encCpL).drop k) ∧ μ' = [(9, nats (ableTo s k))] ∧ ∃ o8 o10 o11 o12 o13, ρ' = rR (.list (evs.map encEv)) (.int (many : Nat)) (.int (total : Nat)) (.list (dl.map encDd)) (.list ((ss0 ++ [s]).map encStL)) (.tuple (dl.map encDd)) (encStL s) o8 none o10 o11 o12 o13 none none none none none none none) ⟨0, Nat.zero_le _, rfl, rfl, _, _, _, _, _, rfl⟩ ?_ ?_) ?_
  · rw [← enD_eq]
    exact ei_enL (ev_cons (ev_op (ev_var rfl) ev_int (rd_ixL rfl)) ev_nil)
  · rintro d r ρ' μ' ⟨k, hk, er, rfl, o8, o10, o11, o12, o13, rfl⟩
    have hk' : k < s.cs.length := by
      rcases Nat.lt_or_ge k s.cs.length with h | h
      · exact h
      · rw [List.drop_of_length_le (by rw [List.length_map]; exact h)] at er
        cases er
    have ed : (s.cs.map encCpL).drop k = encCpL (cp s k) :: (s.cs.map encCpL).drop (k + 1) := by
      rw [List.drop_eq_getElem_cons (by rw [List.length_map]; exact hk')]
      congr 1
      rw [List.getElem_map]
      congr 1
      exact (cp_of (List.getElem?_eq_getElem hk')).symm
    rw [ed] at er
    injection er with e1 e2
    subst e1 e2
    refine ⟨_, _, eg_tup (eg_cons eg_name (eg_cons (eg_lst (eg_cons eg_name (eg_cons eg_name (eg_cons eg_name eg_nil))) rfl) eg_nil)) rfl, by simp, by simp, ?_⟩
    refine ms_seq (N1 := fun ρ' μ' => μ' = [(9, nats (ableTo s k))] ∧ ρ' = rR (.list (evs.map encEv)) (.int (many : Nat)) (.int (total : Nat)) (.list (dl.map encDd)) (.list ((ss0 ++ [s]).map encStL)) (.tuple (dl.map encDd)) (encStL s) (some (.int (k : Nat))) none (some (.bool (cp s k).up)) (some (.int ((cp s k).term : Nat))) (some (encRows (cp s k).rows)) (some (.list ((s.cs.filter fun d => d.up && !newer d.rows (cp s k).rows).map encCpL))) none none none none none none none) (ms_set (P := (· = .list ((s.cs.filter fun d => d.up && !newer d.rows (cp s k).rows).map encCpL))) (mx_of (ev_lc (ei_lst (ev_op (ev_var rfl) ev_int (rd_ixL rfl))) (lr_filter (c := encCpL) (f := encCpL) (p := fun d => d.up && !newer d.rows (cp s k).rows) (by simp) s.cs fun d hd => ⟨eg_name, ev_andT (ev_tB (ev_op (ev_var rfl) ev_int (rd_ixL rfl))) fun _ => et_eqb (ev_test (ev_op (ev_call (ev_cons (ev_op (ev_var rfl) ev_int (rd_ixL rfl)) ev_nil) I__law_last) (ev_call (ev_cons (ev_var rfl) ev_nil) I__law_last) rd_leP)) (by rw [gtP_newer]), ev_var rfl⟩) szc)) (by simp) (by simp) (by rintro d rfl; exact ⟨rfl, rfl⟩)) ?_
    rintro ρ' μ' ⟨rfl, rfl⟩
    refine ms_if (PB := (· = ableAt s.cs (cp s k))) (mt_of (et_eqb (ev_andT (ev_tB (ev_var rfl)) fun _ => ev_test (ev_op (ev_op ev_int (ev_cb (ev_cons (ev_var rfl) ev_nil) rc_lenL) (rd_mul (cmul_l (by decide) (by decide)))) (ev_var rfl) rd_gt)) (by rw [List.length_map, ← g.len]; unfold ableAt; rw [half_able]))) (fun h => ?_) (fun h => ?_)
    · refine ms_append (P := (· = .int (k : Nat))) (List.mem_singleton.mpr rfl) (by simp) (mx_of (ev_var rfl)) (Nat.lt_of_le_of_lt (m := 5) ?_ (by decide)) ?_
      · rw [nats, List.length_map]
        exact Nat.le_trans (List.length_filter_le _ _) (by rw [List.length_range]; exact Nat.le_trans hk gd.len)
      · rintro d rfl
        refine ⟨k + 1, hk', rfl, ?_, _, _, _, _, _, rfl⟩
        rw [ableTo_succ, ← h]
        simp [nats]
    · refine ms_next ⟨k + 1, hk', rfl, ?_, _, _, _, _, _, rfl⟩
      rw [ableTo_succ, ← h]
      simp
  · rintro ρ' μ' ⟨k, hk, er, rfl, o⟩
    have : k = s.cs.length := by
      rcases Nat.lt_or_ge k s.cs.length with h | h
      · rw [List.drop_eq_getElem_cons (by rw [List.length_map]; exact h)] at er
        cases er
      · omega
    subst this
    exact ⟨rfl, o⟩
  rintro ρ' μ' ⟨rfl, o8, o10, o11, o12, o13, rfl⟩
  refine ms_freeze ?_
  refine ms_seq (N1 := fun ρ' μ' => μ' = [] ∧ ρ' = rR (.list (evs.map encEv)) (.int (many : Nat)) (.int (total : Nat)) (.list (dl.map encDd)) (.list ((ss0 ++ [s]).map encStL)) (.tuple (dl.map encDd)) (encStL s) o8 (some (.list (nats (able s)))) o10 o11 o12 o13 (some (.int ((s.cs.filter (·.up)).length : Nat))) none none none none none none) (ms_set (P := (· = .int ((s.cs.filter (·.up)).length : Nat))) (mx_of (ev_eqd (ev_cb (ev_cons (ev_lc (ei_lst (ev_op (ev_var rfl) ev_int (rd_ixL rfl))) (lr_filter (c := encCpL) (f := encCpL) (p := (·.up)) (by simp) s.cs fun d hd => ⟨eg_name, ev_tB (ev_op (ev_var rfl) ev_int (rd_ixL rfl)), ev_var rfl⟩) szc) ev_nil) rc_lenL) (by rw [List.length_map]))) (by simp) (by simp) (by rintro d rfl; exact ⟨rfl, rfl⟩)) ?_
  rintro ρ' μ' ⟨rfl, rfl⟩
  have hab := able_le gd.len
  refine ms_ifS (PB := (· = false)) (mt_of (et_eqb (ev_orT (et_same (rp_nats (vs := able s) (by omega) (fun v hv => by have := hab.2 v hv; omega)) (ev_call (ev_cons (ev_var rfl) (ev_cons (ev_var rfl) ev_nil)) (I_electable hm hfit1 h400 hpl)) (ev_cb (ev_cons (ev_var rfl) ev_nil) rc_tupL)) fun _ => ev_test (ev_op (ev_op (ev_var rfl) (ev_lst ev_nil (Nat.le_of_ble_eq_true rfl)) (rd_ne (sh_lnats _) sh_lnil)) (ev_op (ev_op ev_int (ev_var rfl) (rd_mul (cmul_l (by decide) (by decide)))) (ev_var rfl) rd_gt) rd_neB)) ?_)) (fun h => nomatch h) (fun _ => ms_nxS ?_)
  · have h := able_ups s
    rw [g.len] at h
    rw [eqv_lnil, nats_emp, Bool.false_or, h]
    rfl
  refine ms_seq (N1 := fun ρ' μ' => μ' = [] ∧ ∃ o8, ρ' = rR (.list (evs.map encEv)) (.int (many : Nat)) (.int (total : Nat)) (.list (dl.map encDd)) (.list ((ss0 ++ [s]).map encStL)) (.tuple (dl.map encDd)) (encStL s) o8 (some (.list (nats (able s)))) o10 o11 o12 o13 (some (.int ((s.cs.filter (·.up)).length : Nat))) none none none none none none) (ms_for (ds := nats (able s)) (ei_lst (ev_var rfl)) (fun r ρ' μ' => (∀ x ∈ r, ∃ i : Nat, i ∈ able s ∧ x = .int (i : Nat)) ∧ μ' = [] ∧ ∃ o8, ρ' = rR (.list (evs.map encEv)) (.int (many : Nat)) (.int (total : Nat)) (.list (dl.map encDd)) (.list ((ss0 ++ [s]).map encStL)) (.tuple (dl.map encDd)) (encStL s) o8 (some (.list (nats (able s)))) o10 o11 o12 o13 (some (.int ((s.cs.filter (·.up)).length : Nat))) none none none none none none) ⟨?_, rfl, _, rfl⟩ ?_ (fun ρ μ h => h.2)) ?_
  · intro x hx
    obtain ⟨i, hi, rfl⟩ := List.mem_map.mp hx
    exact ⟨i, hi, rfl⟩
  · rintro x r ρ' μ' ⟨hx, rfl, o8, rfl⟩
    obtain ⟨i, hi, rfl⟩ := hx x List.mem_cons_self
    obtain ⟨hi1, hi2⟩ := good_ableHas g hi
    refine ⟨_, _, eg_name, by simp, by simp, ?_⟩
    refine ms_if (PB := (· = false)) (mt_of (et_eqb (ev_test (ev_op (ev_cb (ev_cons (ev_lc (ei_tup (ev_eqd (ev_slT (ev_op (ev_op (ev_op (ev_var rfl) ev_int (rd_ixL rfl)) (ev_var rfl) (rd_ixL (at_cpL hi1))) ev_int (rd_ixL rfl)) ev_none (ev_part (ev_op (ev_var rfl) ev_int (rd_ixL rfl)))) (encRows_take _ _))) (lr_map (c := encRow) (f := fun r => encEv r.ev) (by simp) ((cp s i).rows.take s.done) fun r hr => ⟨eg_tup (eg_cons eg_name (eg_cons eg_name eg_nil)) rfl, ev_var rfl⟩) (Nat.le_trans (m := 1000) (by have := gd.rows i; simp; omega) (by decide))) ev_nil) rc_tupL) (commd (ev_cons (ev_var rfl) ev_nil)) (rd_ne (sh_evs _) (sh_evs _)))) ?_)) (fun h => nomatch h) (fun _ => ms_next ⟨fun z hz => hx z (List.mem_cons_of_mem _ hz), rfl, _, rfl⟩)
    show (!PyData.eqv (.tuple (((cp s i).rows.take s.done).map fun r => encEv r.ev)) (evsD s)) = false
    rw [hi2, show PyData.eqv (.tuple ((comm s).map fun r => encEv r.ev)) (evsD s) = true from eqv_evs _]
    rfl
  rintro ρ' μ' ⟨rfl, o8, rfl⟩
  have hcs : s.cs.map encCpL ≠ [] := by
    intro z
    have := congrArg List.length z
    rw [List.length_map, g.len] at this
    simp at this
    omega
  have pickC : ∀ {ρ : En}, ρ[7]? = some (some (encStL s)) → MX K (some 0) (tOp (rIxL K) (tCall (spJ K F__law_pick) [] E0 (tCons (tVar 0) (tCons (tOp (rIxL K) (tVar 7) (tC (.int 0))) tNil))) (tC (.int 2))) ρ [] (fun d => ∃ c ∈ s.cs, d = encRows c.rows) := fun hρ =>
    mx_op (P1 := fun d => ∃ c ∈ s.cs, d = encCpL c) (P2 := (· = .int 2)) (mx_callJ (PL := (· = [.list (s.cs.map encCpL)])) (ma_of (ev_cons (ev_op (ev_var hρ) ev_int (rd_ixL rfl)) ev_nil)) (by
      rintro l rfl
      refine ⟨_, I__law_pick hcs (by rw [List.length_map]; have := gd.len; omega), fun z h => ?_⟩
      obtain ⟨c, hc, rfl⟩ := List.mem_map.mp h
      exact ⟨c, hc, rfl⟩)) (mx_of ev_int) (by rintro x y ⟨c, hc, rfl⟩ rfl; exact ⟨_, rd_ixL rfl, c, hc, rfl⟩)
  refine ms_seq (N1 := fun ρ' μ' => μ' = [] ∧ ∃ c c', c ∈ s.cs ∧ c' ∈ s.cs ∧ ρ' = rR (.list (evs.map encEv)) (.int (many : Nat)) (.int (total : Nat)) (.list (dl.map encDd)) (.list ((ss0 ++ [s]).map encStL)) (.tuple (dl.map encDd)) (encStL s) o8 (some (.list (nats (able s)))) o10 o11 o12 o13 (some (.int ((s.cs.filter (·.up)).length : Nat))) (some (encRows c.rows)) (some (encRows c'.rows)) none none none none) (ms_par (ma_cons (pickC rfl) (ma_cons (pickC rfl) ma_nil)) (by
    rintro l ⟨d, ds, rfl, ⟨c, hc, rfl⟩, d', ds', rfl, ⟨c', hc', rfl⟩, rfl⟩
    exact ⟨_, _, rfl, rfl, c, c', hc, hc', rfl⟩) (by simp) (by simp)) ?_
  rintro ρ' μ' ⟨rfl, c, c', hc, hc', rfl⟩
  refine ms_ifS (PB := (· = false)) (mt_of (et_eqb (ev_test (ev_op (ev_cb (ev_cons (ev_call (ev_cons (ev_var rfl) (ev_cons (ev_var rfl) ev_nil)) (I_is_newer (good_terms g hc) (good_terms g hc'))) ev_nil) rc_reprB) (ev_cb (ev_cons (ev_eqd (ev_op (ev_call (ev_cons (ev_var rfl) ev_nil) I__law_last) (ev_call (ev_cons (ev_var rfl) ev_nil) I__law_last) rd_gtP) (congrArg PyData.bool (gtP_newer _ _))) ev_nil) rc_reprB) rd_neS)) (by simp))) (fun h => nomatch h) (fun _ => ms_nxS ?_)
  refine ms_seq (N1 := fun ρ' μ' => μ' = [] ∧ True) (ms_for (ds := (List.range ((6 : Int)).toNat).map fun i => .int (i : Nat)) (ei_range1 (ev_cons ev_int ev_nil) (by omega) (by omega)) (fun _ ρ' μ' => μ' = [] ∧ ∃ o17 o18 o19 o20, ρ' = rR (.list (evs.map encEv)) (.int (many : Nat)) (.int (total : Nat)) (.list (dl.map encDd)) (.list ((ss0 ++ [s]).map encStL)) (.tuple (dl.map encDd)) (encStL s) o8 (some (.list (nats (able s)))) o10 o11 o12 o13 (some (.int ((s.cs.filter (·.up)).length : Nat))) (some (encRows c.rows)) (some (encRows c'.rows)) o17 o18 o19 o20) ⟨rfl, _, _, _, _, rfl⟩ ?_ (fun ρ μ h => ⟨h.1, trivial⟩)) ?_
  · rintro x r ρ' μ' ⟨rfl, o17, o18, o19, o20, rfl⟩
    refine ⟨_, _, eg_name, by simp, by simp, ?_⟩
    refine ms_seq (N1 := fun ρ' μ' => μ' = [] ∧ ∃ at_ : Nat, at_ < dl.length + 1 ∧ ρ' = rR (.list (evs.map encEv)) (.int (many : Nat)) (.int (total : Nat)) (.list (dl.map encDd)) (.list ((ss0 ++ [s]).map encStL)) (.tuple (dl.map encDd)) (encStL s) o8 (some (.list (nats (able s)))) o10 o11 o12 o13 (some (.int ((s.cs.filter (·.up)).length : Nat))) (some (encRows c.rows)) (some (encRows c'.rows)) (some x) (some (.int (at_ : Nat))) o19 o20) (ms_set (P := fun d => ∃ n : Nat, n < dl.length + 1 ∧ d = .int (n : Nat)) (mx_callJ (PL := (· = [.int ((dl.length + 1 : Nat) : Int)])) (ma_of (ev_cons (ev_eqd (ev_op (ev_cb (ev_cons (ev_var rfl) ev_nil) rc_lenL) ev_int rd_add) (by rw [List.length_map]; rfl)) ev_nil)) (by rintro l rfl; exact ⟨_, I__law_sip (by omega) (by omega), fun z h => h⟩)) (by simp) (by simp) (by rintro d ⟨n, hn, rfl⟩; exact ⟨rfl, n, hn, rfl⟩)) ?_
    rintro ρ' μ' ⟨rfl, at_, hat, rfl⟩
    obtain ⟨sa, ea⟩ : ∃ sa, (ss0 ++ [s])[at_]? = some sa := ⟨_, List.getElem?_eq_getElem (by omega)⟩
    have gA := hp.at hm1 at_ sa ea
    refine ms_seq (N1 := fun ρ' μ' => μ' = [] ∧ ∃ wd, fit2 wd ∧ ρ' = rR (.list (evs.map encEv)) (.int (many : Nat)) (.int (total : Nat)) (.list (dl.map encDd)) (.list ((ss0 ++ [s]).map encStL)) (.tuple (dl.map encDd)) (encStL s) o8 (some (.list (nats (able s)))) o10 o11 o12 o13 (some (.int ((s.cs.filter (·.up)).length : Nat))) (some (encRows c.rows)) (some (encRows c'.rows)) (some x) (some (.int (at_ : Nat))) (some (encDd wd)) o20) (ms_set (P := fun z => ∃ d, z = encDd d ∧ fit2 d) (mx_callJ (PL := (· = [encStL sa, .list (evs.map encEv)])) (ma_of (ev_cons (ev_op (ev_var rfl) (ev_var rfl) (rd_ixL (at_map ea))) (ev_cons (ev_var rfl) ev_nil))) (by rintro l rfl; exact ⟨_, I__law_wrong_deed (good_gd gA hm5 (by omega)) p0 p1 p2 (by rw [gA.len]; omega), fun z h => h⟩)) (by simp) (by simp) (by rintro z ⟨d, rfl, hd⟩; exact ⟨rfl, d, hd, rfl⟩)) ?_
    rintro ρ' μ' ⟨rfl, wd, hwd, rfl⟩
    refine ms_seq (N1 := fun ρ' μ' => μ' = [] ∧ ∃ bl : List Dd, bl.length ≤ 400 ∧ (∀ d ∈ bl, fit2 d) ∧ ρ' = rR (.list (evs.map encEv)) (.int (many : Nat)) (.int (total : Nat)) (.list (dl.map encDd)) (.list ((ss0 ++ [s]).map encStL)) (.tuple (dl.map encDd)) (encStL s) o8 (some (.list (nats (able s)))) o10 o11 o12 o13 (some (.int ((s.cs.filter (·.up)).length : Nat))) (some (encRows c.rows)) (some (encRows c'.rows)) (some x) (some (.int (at_ : Nat))) (some (encDd wd)) (some (.tuple (bl.map encDd)))) (ms_set (P := fun z => ∃ bl : List Dd, bl.length ≤ 400 ∧ (∀ d ∈ bl, fit2 d) ∧ z = .tuple (bl.map encDd)) (mx_op (P1 := (· = .tuple ((dl.take at_ ++ [wd]).map encDd))) (P2 := fun z => ∃ n : Nat, z = .tuple ((dl.drop n).map encDd)) (mx_of (ev_eqd (ev_op (ev_slT (ev_var rfl) ev_none (ev_part (ev_var rfl))) (ev_tup (ev_cons (ev_var rfl) ev_nil) (Nat.le_of_ble_eq_true rfl)) (rd_catT ?_)) (by rw [cutD_to]; simp))) (mx_slF (PI := fun d => ∃ n : Nat, d = .int (n : Nat)) (ev_var rfl) (mx_op (P1 := (· = .int (at_ : Nat))) (P2 := fun d => ∃ n : Nat, d = .int (n : Nat)) (mx_of (ev_var rfl)) (mx_callJ (PL := (· = [.int (2 : Nat)])) (ma_of (ev_cons ev_int ev_nil)) (by rintro l rfl; exact ⟨_, I__law_sip (by decide) (by decide), fun z ⟨n, _, e⟩ => ⟨n, e⟩⟩)) (by rintro u v rfl ⟨n, rfl⟩; exact ⟨_, rd_add, at_ + n, rfl⟩)) (by rintro d ⟨n, rfl⟩; exact ⟨_, rfl, n, by rw [cutD_from, List.map_drop]⟩)) ?_) (by simp) (by simp) (by rintro z ⟨bl, h1, h2, rfl⟩; exact ⟨rfl, bl, h1, h2, rfl⟩)) ?_
    · refine Nat.le_trans (m := 400) ?_ (by decide)
      rw [cutD_to, List.length_take, List.length_map, List.length_singleton]
      omega
    · rintro u v rfl ⟨n, rfl⟩
      refine ⟨_, rd_catT (Nat.le_trans (m := 400) (by simp; omega) (by decide)), dl.take at_ ++ [wd] ++ dl.drop n, by simp; omega, fun d hd => ?_, by simp⟩
      rcases List.mem_append.mp hd with h | h
      · rcases List.mem_append.mp h with h | h
        · exact hfit d (List.mem_of_mem_take h)
        · rw [List.mem_singleton.mp h]; exact hwd
      · exact hfit d (List.mem_of_mem_drop h)
    rintro ρ' μ' ⟨rfl, bl, hb1, hb2, rfl⟩
    refine ms_if (PB := (· = false)) (mt_of (et_same (rp_plD hm1 hm5 hb1) (ev_call (ev_cons (ev_var rfl) (ev_cons (ev_var rfl) ev_nil)) (I_play_paper hm (fun d hd => (hb2 d hd).fit) hb1)) (ev_call (ev_cons (ev_var rfl) (ev_cons (ev_var rfl) ev_nil)) (I__law_paper hm hb2 hb1)))) (fun h => nomatch h) (fun _ => ms_next ⟨rfl, _, _, _, _, rfl⟩)
  rintro ρ' μ' ⟨rfl, _⟩
  exact ms_ret (mx_imp (mx_of ev_bl) fun d e => e)

end KD

/-! KF18: the jug, the law. -/
namespace KD
open PySem L2 PySem.Spec PyProof.Rows K27
section
variable {K : PySem.W.Frag} {ρ : En}
theorem rc_abs {i : Int} : RC K (fun xs H Q => ∃ i, xs = [.int i] ∧ Q (.int (if i < 0 then -i else i)) H) [.int i] (.int (if i < 0 then -i else i)) := fun vs G H hs dv Q q => by
  cases dv with
  | cons d1 d2 =>
    cases d2
    exact ⟨i, by rw [dp_int d1], q _ G H (.refl hs) (.int _)⟩
theorem rc_intB {b : Bool} : RC K (fun xs H Q => (∃ i, xs = [.int i] ∧ Q (.int i) H) ∨ ∃ k, xs = [.bl k] ∧ Q (.int (if k then 1 else 0)) H) [.bool b] (.int (if b then 1 else 0)) := fun vs G H hs dv Q q => by
  cases dv with
  | cons d1 d2 =>
    cases d2
    exact .inr ⟨b, by rw [dp_bool d1], q _ G H (.refl hs) (.int _)⟩
theorem rd_powB {i j : Int} (h : 0 ≤ j ∧ (Builtin.Int.intBits i : Int) * j ≤ 2 ^ 27) : RD K (rI (fun i j => 0 ≤ j ∧ (Builtin.Int.intBits i : Int) * j ≤ 2 ^ 27) fun i j => .int (i ^ j.toNat)) (.int i) (.int j) (.int (i ^ j.toNat)) := rd_i h fun _ => .int _
theorem seq_set {te : TE} {u : TS} {i : Nat} {d : PyData} {D : Ends} {σ : L2.St} {G H : Hp} (h : EvE K te ρ d) (hs : Same G H) (hd : SD K σ G ρ) (c : ∀ σ' G2 H2, Stp G H G2 H2 → SD K σ' G2 (ρ.set i (some d)) → u D σ' H2) : tSeq (tAsg te (gName i)) u D σ H :=
  h σ G H hs hd _ fun v G2 H2 s dv => c (σ.set i (some v)) G2 H2 s ((hd.mono (s.up hs)).set dv)
theorem ret_two {t1 t2 : TE} {a1 a2 : Int} {D : Ends} {σ : L2.St} {G H : Hp} (h1 : EvE K t1 ρ (.int a1)) (h2 : EvE K t2 ρ (.int a2)) (hs : Same G H) (hd : SD K σ G ρ) (c : ∀ p G3 H3, Stp G H G3 H3 → H3 p = none → D.rt (.ref p) (upd H3 p (.lst [.int a1, .int a2]))) : tRet (tLst (tCons t1 (tCons t2 tNil))) D σ H :=
  show tCons t1 (tCons t2 tNil) σ H (fun xs H1 => xs.length ≤ sizeLine ∧ ∀ p, H1 p = none → D.rt (.ref p) (upd H1 p (.lst xs))) from ev_cons h1 (ev_cons h2 ev_nil) σ G H hs hd _ fun vs G3 H3 s3 dv => by
    have e3 : vs = [V.int a1, V.int a2] := dpa_ints (ns := [a1, a2]) dv
    subst e3
    exact ⟨Nat.le_of_ble_eq_true rfl, fun p hp => c p G3 H3 s3 hp⟩
end
/-- a new jug -/
def spN (K : PySem.W.Frag) : Sp := fun vs H Q _ => ∃ (G : Hp) (ns : List Int) (k : Nat), Same G H ∧ DpAll K G vs [.list (ns.map .int), .int (k : Nat)] ∧ ns.length ≤ 63 ∧ ∀ a G2 H2, Stp G H G2 H2 → H a = none → G2 a = none → JugAt H2 a → Q (.ref a) H2
abbrev big : Int := ((10 : Int) ^ (60 : Int).toNat) ^ (6 : Int).toNat
theorem big_pos : 0 < big := by decide +kernel
theorem big_lt : big < 2 ^ 1300 := by decide +kernel
abbrev s__law_jug : Stmt := top 38
abbrev N__law_jug : List Str := ["script", "spot", "cell", "whole"]
theorem sc__law_jug : FnScope N__law_jug ["script", "spot"] (defScope s__law_jug) := ⟨rfl, rfl, rfl, by decide +kernel, rfl, by decide +kernel, by decide +kernel⟩

theorem R__law_jug {P : Program} {w : World} {K : PySem.W.Frag} {mg : Str → Option Value} {base : Heap} (T : Tx mg) (kn : Kn K mg "_law_jug" s__law_jug ["script", "spot"]) : Rdy P w K mg base 1 "_law_jug" ["script", "spot"] (spN K) := by
  obtain ⟨f, fd, hf, hmg, hbd⟩ := kn
  refine ⟨f, fd, hf.ok sc__law_jug (fun vs H Q E h => ?_) (fun cdv A outer s H vs Q E hr h => ?_), hmg, hf.kp, hbd⟩
  · obtain ⟨G, ns, k, _, hd, _⟩ := h
    exact dpa_len hd
  · obtain ⟨G, ns, k, hs, hd, hn, q⟩ := h
    refine ⟨_, (pss_cons (ps_set (i := 2) sc__law_jug.nd rfl (by first | exact Or.inl rfl | exact Or.inr rfl) (pe_ifExp (pt_cmpR op_lt (pv 1) (pe_callB call_len_seq (by rfl) T.b_len bt_len (pa_cons (pv 0) pa_nil)) (by first | rfl | exact nomark _)) (pe_callTy call_int1 (by rfl) T.b_int bt_int (pa_cons (pe_ix ix_list (pv 0) (pv 1) (fun _ _ => rfl)) pa_nil)) (pe_op op_add (pe_op op_mul pe_int (pv 1)) pe_int))) (pss_cons (ps_set (i := 3) sc__law_jug.nd rfl (by first | exact Or.inl rfl | exact Or.inr rfl) (pe_op op_modN (pe_callTy call_int1 (by rfl) T.b_int bt_int (pa_cons (pe_callB call_abs (by rfl) T.b_abs bt_abs (pa_cons (pv 2) pa_nil)) pa_nil)) (pe_op op_powB (pe_op op_powB pe_int pe_int) pe_int))) (pss_one (ps_ret (pe_lst (pa_cons (pe_callB (call_max2 rfl) (by rfl) T.b_max bt_max (pa_cons pe_int (pa_cons (pe_op op_sub (pv 3) (pe_op op_powB pe_int pe_int)) pa_nil))) (pa_cons (pe_op op_modN (pe_callTy call_int1 (by rfl) T.b_int bt_int (pa_cons (pe_op op_add (pe_op op_add (pe_op op_add (pe_op op_mul (pv 3) pe_int) (pe_op op_mul pe_int (pv 1))) (pe_op op_mul pe_int (pe_callTy call_int1 (by rfl) T.b_int bt_int (pa_cons (pe_cmpR op_lt (pv 2) pe_int (by first | rfl | exact nomark _)) pa_nil)))) pe_int) pa_nil)) pe_int) pa_nil))))))), ?_⟩
    have hc : ∃ c : Int, (∃ b, b = decide (((k : Nat) : Int) < (ns.length : Nat)) ∧ (b = true → atI (ns.map PyData.int) ((k : Nat) : Int) = some (.int c)) ∧ (b = false → 271 * ((k : Nat) : Int) + 97 = c)) := by
      by_cases hk : k < ns.length
      · refine ⟨ns[k], _, rfl, fun _ => at_map (List.getElem?_eq_getElem hk), fun z => ?_⟩
        rw [decide_eq_true (by omega)] at z
        cases z
      · refine ⟨271 * ((k : Nat) : Int) + 97, _, rfl, fun z => ?_, fun _ => rfl⟩
        rw [decide_eq_false (by omega)] at z
        cases z
    obtain ⟨c, b, eb, c1, c2⟩ := hc
    refine seq_set (K := K) (G := G) (ρ := [some (.list (ns.map .int)), some (.int (k : Nat)), none, none]) (d := .int c) (ev_ifE (b := b) (et_eqb (ev_test (ev_op (ev_var rfl) (ev_cb (ev_cons (ev_var rfl) ev_nil) rc_lenL) rd_lt)) (by rw [List.length_map, eb])) (fun h => ev_cb (ev_cons (ev_op (ev_var rfl) (ev_var rfl) (rd_ixL (c1 h))) ev_nil) rc_int) (fun h => ev_eqd (ev_op (ev_op ev_int (ev_var rfl) (rd_mul (cmul_l (by decide) (by decide)))) ev_int rd_add) (congrArg PyData.int (c2 h)))) hs (sd_start hd (Nat.le_of_ble_eq_true rfl)) fun σ1 G1 H1 s1 hd1 => ?_
    have hab : 0 ≤ (if c < 0 then -c else c) := by split <;> omega
    obtain ⟨wv, hw⟩ : ∃ wv : Int, wv = (if c < 0 then -c else c) % big := ⟨_, rfl⟩
    have w0 : 0 ≤ wv := by rw [hw]; exact Int.emod_nonneg _ (Int.ne_of_gt big_pos)
    have w1 : wv < big := by rw [hw]; exact Int.emod_lt_of_pos _ big_pos
    refine seq_set (K := K) (d := .int wv) (ev_eqd (ev_op (ev_cb (ev_cons (ev_cb (ev_cons (ev_var rfl) ev_nil) rc_abs) ev_nil) rc_int) (ev_op (ev_op ev_int ev_int (rd_powB (by decide +kernel))) ev_int (rd_powB (by decide +kernel))) (rd_modN big_pos)) (by rw [hw])) s1.sub hd1 fun σ2 G2 H2 s2 hd2 => ?_
    refine ret_two (K := K) (ev_cb (ev_cons ev_int (ev_cons (ev_op (ev_var rfl) (ev_op ev_int ev_int (rd_powB (by decide +kernel))) rd_sub) ev_nil)) rc_max2) (ev_op (ev_cb (ev_cons (ev_op (ev_op (ev_op (ev_op (ev_var rfl) ev_int (rd_mul (.inr ⟨by decide, by decide⟩))) (ev_op ev_int (ev_var rfl) (rd_mul (cmul_l (by decide) (by decide)))) rd_add) (ev_op ev_int (ev_cb (ev_cons (ev_op (ev_var rfl) ev_int rd_lt) ev_nil) rc_intB) (rd_mul (cmul_l (by decide) (by decide)))) rd_add) ev_int rd_add) ev_nil) rc_int) ev_int (rd_modN (by decide))) s2.sub hd2 fun p G3 H3 s3 hp => ?_
    have st := (s1.trans s2).trans s3
    have gp : G3 p = none := by
      cases e : G3 p with
      | none => rfl
      | some o => rw [st.sub p o e] at hp; cases hp
    refine q p G3 _ ⟨fun x o e => ?_, fun x o e => ?_, st.old⟩ ?_ gp ⟨_, _, ⟨?_, ?_, Int.emod_nonneg _ (by decide), Int.emod_lt_of_pos _ (by decide)⟩, upd_same⟩
    · rw [upd_ne fun z => by rw [z, gp] at e; cases e]
      exact st.sub x o e
    · have e2 := st.ext x o e
      rw [upd_ne fun z => by rw [z, hp] at e2; cases e2]
      exact e2
    · cases e : H p with
      | none => rfl
      | some o => rw [st.ext p o e] at hp; cases hp
    · split <;> omega
    · have p17 : (0 : Int) < (10 : Int) ^ (17 : Int).toNat := by decide +kernel
      have := big_lt
      split <;> omega
section
variable {K : PySem.W.Frag}
theorem sd_gone {σ : L2.St} {G : Hp} {ρ : En} {i : Nat} {x : Option V} (h : SD K σ G ρ) : SD K (σ.set i x) G (ρ.set i none) := by
  refine ⟨by rw [List.length_set, List.length_set]; exact h.1, fun k d e => ?_⟩
  by_cases z : i = k
  · subst z
    by_cases c : i < ρ.length
    · rw [List.getElem?_set_self c] at e
      cases e
    · rw [List.getElem?_eq_none (by rw [List.length_set]; omega)] at e
      cases e
  · rw [List.getElem?_set_ne z] at e
    obtain ⟨v, h1, h2⟩ := h.2 k d e
    exact ⟨v, by rw [List.getElem?_set_ne z]; exact h1, h2⟩
theorem ms_newJug {i : Nat} {u : TS} {tr : TA} {E : XK} {ρ : En} {N : En → Own → Prop} {R : PyData → Prop} {ns : List Int} {k : Nat} (ha : EvA K tr ρ [.list (ns.map .int), .int (k : Nat)]) (hn : ns.length ≤ 63) (hi : i < ρ.length) (hu : MS K (some i) u (ρ.set i none) [] N R) (hN : ∀ ρ' μ', N ρ' μ' → μ' = []) :
    MS K none (tSeq (tAsg (tCall (spN K) [] E tr) (gName i)) u) ρ [] N R := fun D j0 G0 H0 σ G H m n r =>
  ha σ G H m.sub m.sd _ fun vs G2 H2 s dvs => by
    refine ⟨G2, ns, k, s.sub, by rw [List.append_nil]; exact dvs, hn, fun a G3 H3 s3 h2 hg hj => ?_⟩
    have m2 := m.stp s
    have m3 := m2.stp s3
    have e0 : ∀ b o, H0 b = some o → H3 b = some o := fun b o e => m3.ext b o (fun z => absurd rfl z) e
    have a0 : ∀ b o, H0 b = some o → b ≠ a := fun b o e z => by
      have := m2.ext b o (fun z => absurd rfl z) e
      rw [z, h2] at this
      cases this
    have md : MD K (some i) a G3 H3 (σ.set i (some (.ref a))) G3 H3 (ρ.set i none) [] := ⟨m3.sub, sd_gone m3.sd, fun _ _ _ e => e, fun _ _ => rfl, ⟨[], trivial⟩, fun x hx => by
      cases hx
      refine ⟨List.getElem?_set_self (by rw [m.sd.1]; exact hi), hj, hg, ?_⟩
      obtain ⟨_, _, _, e⟩ := hj
      rw [e]
      simp⟩
    have back : ∀ {σ' : L2.St} {G4 H4 : Hp} {ρ' : En} {μ' : Own}, MD K (some i) a G3 H3 σ' G4 H4 ρ' μ' → MD K none j0 G0 H0 σ' G4 H4 ρ' [] := fun {σ' G4 H4 ρ' μ'} mm =>
      ⟨mm.sub, mm.sd, fun b o _ e => mm.ext b o (fun _ => a0 b o e) (e0 b o e), fun b hb => by
        have : H3 b ≠ none := by
          obtain ⟨o, ho⟩ := Option.ne_none_iff_exists'.mp hb
          rw [e0 b o ho]
          simp
        rw [mm.old b this, m3.old b hb], ⟨[], trivial⟩, fun _ z => nomatch z⟩
    refine hu D a G3 H3 _ G3 H3 md (fun σ' G4 H4 ρ' μ' mm sm hn' => ?_) (fun v σ' G4 H4 ρ' μ' d mm dv hR => r v σ' G4 H4 ρ' [] d (back mm) dv hR)
    have := hN ρ' μ' hn'
    subst this
    exact n σ' G4 H4 ρ' [] (back mm) (((s.up m.sub).trans (s3.up s.sub)).trans sm) hn'
end
abbrev s_law : Stmt := top 57
abbrev N_law : List Str := ["script", "spot", "jug", "turn", "events", "one"]
theorem sc_law : FnScope N_law ["script"] (defScope s_law) := ⟨rfl, rfl, rfl, by decide +kernel, rfl, by decide +kernel, by decide +kernel⟩

theorem R_law {P : Program} {w : World} {K : PySem.W.Frag} {mg : Str → Option Value} {base : Heap} (T : Tx mg) {f : Addr} {fd : FuncData} (hf : Fun K "law" "law" s_law f fd) (R__law_right : RdyG P w K mg base 8 "_law_right" ["jug", "events"] (spJ K F__law_right)) (R__law_sip : Rdy P w K mg base 1 "_law_sip" ["jug", "total"] (spJ K F__law_sip)) (R__law_jug : Rdy P w K mg base 1 "_law_jug" ["script", "spot"] (spN K)) : FnG P w K mg base 9 f fd ["script"] (spLaw K) := by
  refine fnG_of hf sc_law (fun vs H Q E h => ?_) (fun cdv A outer s H vs Q E hr gs h => ?_)
  · obtain ⟨a, ns, rfl, _⟩ := h
    rfl
  · obtain ⟨a, ns, rfl, hS, hn, q⟩ := h
    have hd : DpAll K H [.ref a] [.list (ns.map .int)] := .cons (.lst hS (ints_dpa ns)) .nil
    refine ⟨_, (pss_cons (ps_for PassesOwn.never rfl (pi_range1 (by rfl) T.b_range (pa_cons (pe_callB (call_max2 rfl) (by rfl) T.b_max bt_max (pa_cons pe_int (pa_cons (pe_callB (call_min2 rfl) (by rfl) T.b_min bt_min (pa_cons pe_int (pa_cons (pe_callB call_len_seq (by rfl) T.b_len bt_len (pa_cons (pv 0) pa_nil)) pa_nil))) pa_nil))) pa_nil)) (pg_name (i := 1) sc_law.nd rfl (by first | exact Or.inl rfl | exact Or.inr rfl)) (pss_cons (ps_set (i := 2) sc_law.nd rfl (by first | exact Or.inl rfl | exact Or.inr rfl) (pe_fn R__law_jug (hr.mono (by decide)) (by rfl) (pa_cons (pv 0) (pa_cons (pv 1) pa_nil)))) (pss_one (ps_for PassesOwn.never rfl (pi_range1 (by rfl) T.b_range (pa_cons pe_int pa_nil)) (pg_name (i := 3) sc_law.nd rfl (by first | exact Or.inl rfl | exact Or.inr rfl)) (pss_cons (ps_set (i := 4) sc_law.nd rfl (by first | exact Or.inl rfl | exact Or.inr rfl) (pe_op op_catS (pe_lc (own := [("one", 5)]) (g := (gName 5)) (tt := tYes) (te := (tTup (tCons (tC (.str "answer")) (tCons (tTup (tCons (tCall (spJ K F__law_sip) [] E0 (tCons (tVar 2) (tCons (tC (.int 3)) tNil))) (tCons (tCall (spJ K F__law_sip) [] E0 (tCons (tVar 2) (tCons (tC (.int 3)) tNil))) tNil))) (tCons (tOp (rEqD K) (tCall (spJ K F__law_sip) [] E0 (tCons (tVar 2) (tCons (tC (.int 2)) tNil))) (tC (.int 0))) (tCons (tCall (spJ K F__law_sip) [] E0 (tCons (tVar 2) (tCons (tC (.int 9)) tNil))) tNil)))))) rfl sc_law.nd (pi_range1 (by rfl) T.b_range (pa_cons pe_int pa_nil)) (blkOk_by (N := N_law) (sc := defScope s_law) (by decide +kernel)) (fun _ _ _ _ _ => by exact (pg_name (i := 5) sc_law.nd rfl (by first | exact Or.inl rfl | exact Or.inr rfl))) (fun _ _ _ _ _ => by exact pts_nil) (fun _ _ _ _ _ => by exact (pe_tup (pa_cons pe_str (pa_cons (pe_tup (pa_cons (pe_fn R__law_sip (hr.mono (by decide)) (by rfl) (pa_cons (pv 2) (pa_cons pe_int pa_nil))) (pa_cons (pe_fn R__law_sip (hr.mono (by decide)) (by rfl) (pa_cons (pv 2) (pa_cons pe_int pa_nil))) pa_nil))) (pa_cons (pe_cmpR (op_eqD hr.units) (pe_fn R__law_sip (hr.mono (by decide)) (by rfl) (pa_cons (pv 2) (pa_cons pe_int pa_nil))) pe_int (by first | rfl | exact nomark _)) (pa_cons (pe_fn R__law_sip (hr.mono (by decide)) (by rfl) (pa_cons (pv 2) (pa_cons pe_int pa_nil))) pa_nil))))))) (pe_lst (pa_cons (pe_tup (pa_cons pe_str pa_nil)) pa_nil)))) (pss_one (ps_if (pt_not (pt_val (pe_fnG R__law_right (hr.mono (by decide)) gs (by rfl) (pa_cons (pv 2) (pa_cons (pv 4) pa_nil))))) (pss_one (ps_ret pe_bl)) pss_nil))))))) (pss_one (ps_ret pe_bl))), ?_⟩
    refine (?_ : MS K none _ [some (.list (ns.map .int)), none, none, none, none, none] [] (fun _ _ => False) (· = .bool true)) _ 0 H H _ H H ⟨Same.refl _, sd_start hd (Nat.le_of_ble_eq_true rfl), fun _ _ _ e => e, fun _ _ => rfl, ⟨[], trivial⟩, fun _ z => nomatch z⟩ (fun _ _ _ _ _ _ _ z => z.elim) (fun v σ' G2 H2 ρ' μ' d m dv e => by subst e; rw [dp_bool dv]; exact q _)
    have sip : ∀ {ρ : En} (t : Nat) (x : Int), x = (t : Nat) → 1 ≤ t → t ≤ 100000 → MX K (some 2) (tCall (spJ K F__law_sip) [] E0 (tCons (tVar 2) (tCons (tC (.int x)) tNil))) ρ [] (fun d => ∃ n : Nat, n < t ∧ d = .int (n : Nat)) := fun t x e h1 h2 => by
      subst e
      exact mx_callJ (PL := (· = [.int (t : Nat)])) (ma_of (ev_cons ev_int ev_nil)) (by rintro l rfl; exact ⟨_, I__law_sip h1 h2, fun z h => h⟩)
    have hlen : (ns.map PyData.int).length = ns.length := List.length_map ..
    refine ms_seq (N1 := fun ρ' μ' => μ' = [] ∧ True) (ms_for (js := none) (ei_range1 (ev_cons (ev_cb (ev_cons ev_int (ev_cons (ev_cb (ev_cons ev_int (ev_cons (ev_cb (ev_cons (ev_var rfl) ev_nil) rc_lenL) ev_nil)) rc_min2) ev_nil)) rc_max2) ev_nil) ?_ ?_) (fun r ρ' μ' => (∀ x ∈ r, ∃ k : Nat, x = .int (k : Nat)) ∧ μ' = [] ∧ ∃ o1 o3 o4, ρ' = [some (.list (ns.map .int)), o1, none, o3, o4, none]) ⟨?_, rfl, _, _, _, rfl⟩ ?_ (fun _ _ h => ⟨h.2.1, trivial⟩)) ?_
    · repeat' split
      all_goals omega
    · repeat' split
      all_goals omega
    · intro x hx
      obtain ⟨k, hk, rfl⟩ := List.mem_map.mp hx
      exact ⟨k, rfl⟩
    · rintro x r ρ' μ' ⟨hx, rfl, o1, o3, o4, rfl⟩
      obtain ⟨k, rfl⟩ := hx x List.mem_cons_self
      refine ⟨_, _, eg_name, by simp, by simp, ?_⟩
      refine ms_newJug (ns := ns) (k := k) (ev_cons (ev_var rfl) (ev_cons (ev_var rfl) ev_nil)) hn (by simp) ?_ (fun ρ' μ' h => h.2.1)
      refine ms_for (ds := (List.range ((2 : Int)).toNat).map fun i => .int (i : Nat)) (ei_range1 (ev_cons ev_int ev_nil) (by omega) (by omega)) (fun _ ρ' μ' => μ' = [] ∧ ∃ o1 o3 o4, ρ' = [some (.list (ns.map .int)), o1, none, o3, o4, none]) ⟨rfl, _, _, _, rfl⟩ ?_ (fun ρ μ h => ⟨fun z hz => hx z (List.mem_cons_of_mem _ hz), h.1, h.2⟩)
      rintro y r' ρ' μ' ⟨rfl, o1, o3, o4, rfl⟩
      refine ⟨_, _, eg_name, by simp, by simp, ?_⟩
      refine ms_seq (N1 := fun ρ' μ' => μ' = [] ∧ ∃ evs : List Ev, evs ≠ [] ∧ evs.length ≤ 1000 ∧ (∀ e ∈ evs, evOk e = true) ∧ ρ' = [some (.list (ns.map .int)), o1, none, some y, some (.list (evs.map encEv)), none]) (ms_set (P := fun d => ∃ evs : List Ev, evs ≠ [] ∧ evs.length ≤ 1000 ∧ (∀ e ∈ evs, evOk e = true) ∧ d = .list (evs.map encEv)) (mx_op (P1 := fun d => ∃ evs : List Ev, evs.length ≤ 4 ∧ (∀ e ∈ evs, evOk e = true) ∧ d = .list (evs.map encEv)) (P2 := (· = .list [encEv .off])) (mx_fx (C := fun c => ∃ evs : List Ev, evs.length ≤ 4 ∧ (∀ e ∈ evs, evOk e = true) ∧ c = evs.map encEv) (fx_lc (ds := (List.range ((4 : Int)).toNat).map fun i => .int (i : Nat)) (ei_range1 (ev_cons ev_int ev_nil) (by omega) (by omega)) (by simp) (by simp) (fun r acc => ∃ evs : List Ev, evs.length + r.length ≤ 4 ∧ (∀ e ∈ evs, evOk e = true) ∧ acc = evs.map encEv) ⟨[], Nat.le_refl 4, by simp, rfl⟩ ?_ ?_ (Nat.le_of_ble_eq_true rfl)) (by rintro c ⟨evs, h1, h2, rfl⟩; exact ⟨evs, h1, h2, rfl⟩)) (mx_of (ev_lst (ev_cons (ev_tup (ev_cons ev_str ev_nil) (Nat.le_of_ble_eq_true rfl)) ev_nil) (Nat.le_of_ble_eq_true rfl))) ?_) (by simp) (by simp) (by rintro d ⟨evs, h1, h2, h3, rfl⟩; exact ⟨rfl, evs, h1, h2, h3, rfl⟩)) ?_
      · rintro z r acc ⟨evs, h1, h2, rfl⟩
        refine ⟨_, _, eg_name, by simp, (· = true), fun d => ∃ e : Ev, evOk e = true ∧ d = encEv e, mt_of et_yes, fun _ => mx_tup (ma_cons (P := (· = .str "answer")) (mx_of ev_str) (ma_cons (P := fun d => ∃ a b : Nat, a < 3 ∧ b < 3 ∧ d = .tuple [.int (a : Nat), .int (b : Nat)]) (mx_tup (ma_cons (sip 3 3 rfl (by decide) (by decide)) (ma_cons (sip 3 3 rfl (by decide) (by decide)) ma_nil)) ?_) (ma_cons (P := fun d => ∃ b : Bool, d = .bool b) (mx_op (P1 := fun d => ∃ n : Nat, n < 2 ∧ d = .int (n : Nat)) (P2 := (· = .int 0)) (sip 2 2 rfl (by decide) (by decide)) (mx_of ev_int) ?_) (ma_cons (sip 9 9 rfl (by decide) (by decide)) ma_nil)))) ?_, fun e _ he => ?_, fun h => nomatch h⟩
        · rintro l ⟨d, ds, rfl, ⟨n, hn, rfl⟩, d', ds', rfl, ⟨n', hn', rfl⟩, rfl⟩
          exact ⟨Nat.le_of_ble_eq_true rfl, n, n', hn, hn', rfl⟩
        · rintro u v ⟨n, hn, rfl⟩ rfl
          exact ⟨_, rd_eq rfl rfl, _, rfl⟩
        · rintro l ⟨d, ds, rfl, rfl, d2, ds2, rfl, ⟨a, b, ha, hb, rfl⟩, d3, ds3, rfl, ⟨g, rfl⟩, d4, ds4, rfl, ⟨n, hn, rfl⟩, rfl⟩
          refine ⟨Nat.le_of_ble_eq_true rfl, .ans a b g n, ?_, rfl⟩
          simp only [evOk, Bool.and_eq_true, decide_eq_true_eq]
          omega
        · obtain ⟨ev, hev, rfl⟩ := he
          refine ⟨evs ++ [ev], by rw [List.length_cons] at h1; rw [List.length_append, List.length_singleton]; omega, fun e he => ?_, by simp⟩
          rcases List.mem_append.mp he with z | z
          · exact h2 e z
          · rw [List.mem_singleton.mp z]; exact hev
      · rintro acc ⟨evs, h1, h2, rfl⟩
        exact ⟨evs, by simpa using h1, h2, rfl⟩
      · rintro u v ⟨evs, h1, h2, rfl⟩ rfl
        refine ⟨_, rd_catL (Nat.le_trans (m := 5) (by rw [List.length_map, List.length_singleton]; omega) (by decide)), evs ++ [.off], by simp, by rw [List.length_append, List.length_singleton]; omega, fun e he => ?_, by simp⟩
        rcases List.mem_append.mp he with z | z
        · exact h2 e z
        · rw [List.mem_singleton.mp z]; rfl
      rintro ρ' μ' ⟨rfl, evs, h1, h2, h3, rfl⟩
      refine ms_if (PB := (· = false)) (mt_not (PB := (· = true)) (mt_tB (mx_callJ (PL := (· = [.list (evs.map encEv)])) (ma_of (ev_cons (ev_var rfl) ev_nil)) (by rintro l rfl; exact ⟨_, I__law_right h1 h2 h3, fun z h => ⟨true, h, rfl⟩⟩))) (by rintro b rfl; rfl)) (fun h => nomatch h) (fun _ => ms_next ⟨rfl, _, _, _, rfl⟩)
    rintro ρ' μ' ⟨rfl, _⟩
    exact ms_ret (mx_of ev_bl)
end KD

/-! KZZ: what the top has written; the statement. -/
namespace KD
open PySem L2 PySem.Spec PyProof.Rows K27
section
variable {K : PySem.W.Frag} {h : Heap} {mg : Str → Option Value}
theorem kn_mk {x : Str} {st : Stmt} {ps : List Str} {f : Addr} {oc : Value} {od an : Option Addr} {sl : Array (Option Value)} {kV dc pm cd ct : Value}
    (hb : ∀ (kV doc pm : Value) (an : Option Addr) (cdv ct : Value) (us : List Value), us.length = ps.length → bindArgs (PySem.W.fnOf x x (defArgs st) (defBody st) (defScope st) .none kV doc pm an cdv ct) ⟨us, []⟩ = pure (ps.zip us))
    (X : K.In h) (G : h.Ns mainGlobals mg) (a : PySem.W.nsIn K mainGlobals x = some (some (.ref f))) (l : K.lookup f = some ⟨oc, od, .func (PySem.W.fnOf x x (defArgs st) (defBody st) (defScope st) .none kV dc pm an cd ct), sl⟩) (c : PySem.W.codeIn K cd x = true) (k : PySem.W.keepIn K (.ref f) = true) : Kn K mg x st ps :=
  ⟨f, _, fun_mk (st := st) l c k, PySem.W.mg_of X G a, (fun_mk (st := st) l c k).binds hb⟩
theorem law_fun {fa f : Addr} {oc : Value} {od an : Option Addr} {sl : Array (Option Value)} {kV dc pm cd ct : Value} (X : K.In h) (G : h.Ns mainGlobals mg) (hfa : mg "law" = some (.ref fa)) (a : PySem.W.nsIn K mainGlobals "law" = some (some (.ref f)))
    (l : K.lookup f = some ⟨oc, od, .func (PySem.W.fnOf "law" "law" (defArgs s_law) (defBody s_law) (defScope s_law) .none kV dc pm an cd ct), sl⟩) (c : PySem.W.codeIn K cd "law" = true) (k : PySem.W.keepIn K (.ref f) = true) : ∃ fd : FuncData, Fun K "law" "law" s_law fa fd ∧ ∀ (s : Shared) (v : Value), BindsTo s fd ⟨[v], []⟩ [("script", v)] := by
  have e := hfa.symm.trans (PySem.W.mg_of X G a)
  cases e
  exact ⟨_, fun_mk (st := s_law) l c k, fun s v => .of_eq rfl⟩
theorem tx_mk (X : K.In h) (G : h.Ns mainGlobals mg) (z_len : PySem.W.nsIn K mainGlobals "len" = some none) (z_isinstance : PySem.W.nsIn K mainGlobals "isinstance" = some none) (z_all : PySem.W.nsIn K mainGlobals "all" = some none) (z_repr : PySem.W.nsIn K mainGlobals "repr" = some none) (z_abs : PySem.W.nsIn K mainGlobals "abs" = some none) (z_max : PySem.W.nsIn K mainGlobals "max" = some none) (z_min : PySem.W.nsIn K mainGlobals "min" = some none) (z_sorted : PySem.W.nsIn K mainGlobals "sorted" = some none) (z_int : PySem.W.nsIn K mainGlobals "int" = some none) (z_str : PySem.W.nsIn K mainGlobals "str" = some none) (z_bool : PySem.W.nsIn K mainGlobals "bool" = some none) (z_tuple : PySem.W.nsIn K mainGlobals "tuple" = some none) (z_list : PySem.W.nsIn K mainGlobals "list" = some none) (z_set : PySem.W.nsIn K mainGlobals "set" = some none) (z_range : PySem.W.nsIn K mainGlobals "range" = some none) (z_zip : PySem.W.nsIn K mainGlobals "zip" = some none) (z_enumerate : PySem.W.nsIn K mainGlobals "enumerate" = some none) {t1 t2 t3 t4 t5 : Tok}
    (c_LAST : PySem.W.nsIn K mainGlobals "LAST" = some (some (.int 1000000006 t1))) (c_MOST_DEEDS : PySem.W.nsIn K mainGlobals "MOST_DEEDS" = some (some (.int 400 t2))) (c_LAST_COPY : PySem.W.nsIn K mainGlobals "LAST_COPY" = some (some (.int 4 t3))) (c_PLAY : PySem.W.nsIn K mainGlobals "PLAY" = some (some (.str "play" t4))) (c_WRONG : PySem.W.nsIn K mainGlobals "WRONG" = some (some (.str "wrong" t5))) : Tx mg :=
  ⟨PySem.W.mg_none_of X G z_len, PySem.W.mg_none_of X G z_isinstance, PySem.W.mg_none_of X G z_all, PySem.W.mg_none_of X G z_repr, PySem.W.mg_none_of X G z_abs, PySem.W.mg_none_of X G z_max, PySem.W.mg_none_of X G z_min, PySem.W.mg_none_of X G z_sorted, PySem.W.mg_none_of X G z_int, PySem.W.mg_none_of X G z_str, PySem.W.mg_none_of X G z_bool, PySem.W.mg_none_of X G z_tuple, PySem.W.mg_none_of X G z_list, PySem.W.mg_none_of X G z_set, PySem.W.mg_none_of X G z_range, PySem.W.mg_none_of X G z_zip, PySem.W.mg_none_of X G z_enumerate, ⟨_, PySem.W.mg_of X G c_LAST⟩, ⟨_, PySem.W.mg_of X G c_MOST_DEEDS⟩, ⟨_, PySem.W.mg_of X G c_LAST_COPY⟩, ⟨_, PySem.W.mg_of X G c_PLAY⟩, ⟨_, PySem.W.mg_of X G c_WRONG⟩⟩
theorem kb_is_between : ∀ (kV doc pm : Value) (an : Option Addr) (cdv ct : Value) (us : List Value), us.length = (["value", "low", "high"] : List Str).length → bindArgs (PySem.W.fnOf "is_between" "is_between" (defArgs s_is_between) (defBody s_is_between) (defScope s_is_between) .none kV doc pm an cdv ct) ⟨us, []⟩ = pure ((["value", "low", "high"] : List Str).zip us) := fun _ _ _ _ _ _ us hl => match us, hl with | [_, _, _], _ => rfl
theorem kb_is_from_to : ∀ (kV doc pm : Value) (an : Option Addr) (cdv ct : Value) (us : List Value), us.length = (["value", "low", "high"] : List Str).length → bindArgs (PySem.W.fnOf "is_from_to" "is_from_to" (defArgs s_is_from_to) (defBody s_is_from_to) (defScope s_is_from_to) .none kV doc pm an cdv ct) ⟨us, []⟩ = pure ((["value", "low", "high"] : List Str).zip us) := fun _ _ _ _ _ _ us hl => match us, hl with | [_, _, _], _ => rfl
theorem kb_last_term : ∀ (kV doc pm : Value) (an : Option Addr) (cdv ct : Value) (us : List Value), us.length = (["rows"] : List Str).length → bindArgs (PySem.W.fnOf "last_term" "last_term" (defArgs s_last_term) (defBody s_last_term) (defScope s_last_term) .none kV doc pm an cdv ct) ⟨us, []⟩ = pure ((["rows"] : List Str).zip us) := fun _ _ _ _ _ _ us hl => match us, hl with | [_], _ => rfl
theorem kb_are_newer : ∀ (kV doc pm : Value) (an : Option Addr) (cdv ct : Value) (us : List Value), us.length = (["rows", "other"] : List Str).length → bindArgs (PySem.W.fnOf "are_newer" "are_newer" (defArgs s_are_newer) (defBody s_are_newer) (defScope s_are_newer) .none kV doc pm an cdv ct) ⟨us, []⟩ = pure ((["rows", "other"] : List Str).zip us) := fun _ _ _ _ _ _ us hl => match us, hl with | [_, _], _ => rfl
theorem kb_begun_state : ∀ (kV doc pm : Value) (an : Option Addr) (cdv ct : Value) (us : List Value), us.length = (["many"] : List Str).length → bindArgs (PySem.W.fnOf "begun_state" "begun_state" (defArgs s_begun_state) (defBody s_begun_state) (defScope s_begun_state) .none kV doc pm an cdv ct) ⟨us, []⟩ = pure ((["many"] : List Str).zip us) := fun _ _ _ _ _ _ us hl => match us, hl with | [_], _ => rfl
theorem kb_with_copy : ∀ (kV doc pm : Value) (an : Option Addr) (cdv ct : Value) (us : List Value), us.length = (["copies", "number", "fresh"] : List Str).length → bindArgs (PySem.W.fnOf "with_copy" "with_copy" (defArgs s_with_copy) (defBody s_with_copy) (defScope s_with_copy) .none kV doc pm an cdv ct) ⟨us, []⟩ = pure ((["copies", "number", "fresh"] : List Str).zip us) := fun _ _ _ _ _ _ us hl => match us, hl with | [_, _, _], _ => rfl
theorem kb_is_event : ∀ (kV doc pm : Value) (an : Option Addr) (cdv ct : Value) (us : List Value), us.length = (["value"] : List Str).length → bindArgs (PySem.W.fnOf "is_event" "is_event" (defArgs s_is_event) (defBody s_is_event) (defScope s_is_event) .none kV doc pm an cdv ct) ⟨us, []⟩ = pure ((["value"] : List Str).zip us) := fun _ _ _ _ _ _ us hl => match us, hl with | [_], _ => rfl
theorem kb_is_rising_numbers : ∀ (kV doc pm : Value) (an : Option Addr) (cdv ct : Value) (us : List Value), us.length = (["value", "high"] : List Str).length → bindArgs (PySem.W.fnOf "is_rising_numbers" "is_rising_numbers" (defArgs s_is_rising_numbers) (defBody s_is_rising_numbers) (defScope s_is_rising_numbers) .none kV doc pm an cdv ct) ⟨us, []⟩ = pure ((["value", "high"] : List Str).zip us) := fun _ _ _ _ _ _ us hl => match us, hl with | [_, _], _ => rfl
theorem kb_is_deed_form : ∀ (kV doc pm : Value) (an : Option Addr) (cdv ct : Value) (us : List Value), us.length = (["value"] : List Str).length → bindArgs (PySem.W.fnOf "is_deed_form" "is_deed_form" (defArgs s_is_deed_form) (defBody s_is_deed_form) (defScope s_is_deed_form) .none kV doc pm an cdv ct) ⟨us, []⟩ = pure ((["value"] : List Str).zip us) := fun _ _ _ _ _ _ us hl => match us, hl with | [_], _ => rfl
theorem kb_are_copy_rows : ∀ (kV doc pm : Value) (an : Option Addr) (cdv ct : Value) (us : List Value), us.length = (["value"] : List Str).length → bindArgs (PySem.W.fnOf "are_copy_rows" "are_copy_rows" (defArgs s_are_copy_rows) (defBody s_are_copy_rows) (defScope s_are_copy_rows) .none kV doc pm an cdv ct) ⟨us, []⟩ = pure ((["value"] : List Str).zip us) := fun _ _ _ _ _ _ us hl => match us, hl with | [_], _ => rfl
theorem kb_is_newer : ∀ (kV doc pm : Value) (an : Option Addr) (cdv ct : Value) (us : List Value), us.length = (["rows", "other"] : List Str).length → bindArgs (PySem.W.fnOf "is_newer" "is_newer" (defArgs s_is_newer) (defBody s_is_newer) (defScope s_is_newer) .none kV doc pm an cdv ct) ⟨us, []⟩ = pure ((["rows", "other"] : List Str).zip us) := fun _ _ _ _ _ _ us hl => match us, hl with | [_, _], _ => rfl
theorem kb_appended : ∀ (kV doc pm : Value) (an : Option Addr) (cdv ct : Value) (us : List Value), us.length = (["state", "event"] : List Str).length → bindArgs (PySem.W.fnOf "appended" "appended" (defArgs s_appended) (defBody s_appended) (defScope s_appended) .none kV doc pm an cdv ct) ⟨us, []⟩ = pure ((["state", "event"] : List Str).zip us) := fun _ _ _ _ _ _ us hl => match us, hl with | [_, _], _ => rfl
theorem kb_copied : ∀ (kV doc pm : Value) (an : Option Addr) (cdv ct : Value) (us : List Value), us.length = (["state", "number"] : List Str).length → bindArgs (PySem.W.fnOf "copied" "copied" (defArgs s_copied) (defBody s_copied) (defScope s_copied) .none kV doc pm an cdv ct) ⟨us, []⟩ = pure ((["state", "number"] : List Str).zip us) := fun _ _ _ _ _ _ us hl => match us, hl with | [_, _], _ => rfl
theorem kb_turned_state : ∀ (kV doc pm : Value) (an : Option Addr) (cdv ct : Value) (us : List Value), us.length = (["state", "number", "up"] : List Str).length → bindArgs (PySem.W.fnOf "turned_state" "turned_state" (defArgs s_turned_state) (defBody s_turned_state) (defScope s_turned_state) .none kV doc pm an cdv ct) ⟨us, []⟩ = pure ((["state", "number", "up"] : List Str).zip us) := fun _ _ _ _ _ _ us hl => match us, hl with | [_, _, _], _ => rfl
theorem kb_committed_state : ∀ (kV doc pm : Value) (an : Option Addr) (cdv ct : Value) (us : List Value), us.length = (["state", "fresh"] : List Str).length → bindArgs (PySem.W.fnOf "committed_state" "committed_state" (defArgs s_committed_state) (defBody s_committed_state) (defScope s_committed_state) .none kV doc pm an cdv ct) ⟨us, []⟩ = pure ((["state", "fresh"] : List Str).zip us) := fun _ _ _ _ _ _ us hl => match us, hl with | [_, _], _ => rfl
theorem kb_elected : ∀ (kV doc pm : Value) (an : Option Addr) (cdv ct : Value) (us : List Value), us.length = (["state", "number", "voters"] : List Str).length → bindArgs (PySem.W.fnOf "elected" "elected" (defArgs s_elected) (defBody s_elected) (defScope s_elected) .none kV doc pm an cdv ct) ⟨us, []⟩ = pure ((["state", "number", "voters"] : List Str).zip us) := fun _ _ _ _ _ _ us hl => match us, hl with | [_, _, _], _ => rfl
theorem kb_behind_deed : ∀ (kV doc pm : Value) (an : Option Addr) (cdv ct : Value) (us : List Value), us.length = (["state", "deed"] : List Str).length → bindArgs (PySem.W.fnOf "behind_deed" "behind_deed" (defArgs s_behind_deed) (defBody s_behind_deed) (defScope s_behind_deed) .none kV doc pm an cdv ct) ⟨us, []⟩ = pure ((["state", "deed"] : List Str).zip us) := fun _ _ _ _ _ _ us hl => match us, hl with | [_, _], _ => rfl
theorem kb_events_in : ∀ (kV doc pm : Value) (an : Option Addr) (cdv ct : Value) (us : List Value), us.length = (["state"] : List Str).length → bindArgs (PySem.W.fnOf "events_in" "events_in" (defArgs s_events_in) (defBody s_events_in) (defScope s_events_in) .none kV doc pm an cdv ct) ⟨us, []⟩ = pure ((["state"] : List Str).zip us) := fun _ _ _ _ _ _ us hl => match us, hl with | [_], _ => rfl
theorem kb_state_or_wrong : ∀ (kV doc pm : Value) (an : Option Addr) (cdv ct : Value) (us : List Value), us.length = (["many", "value"] : List Str).length → bindArgs (PySem.W.fnOf "state_or_wrong" "state_or_wrong" (defArgs s_state_or_wrong) (defBody s_state_or_wrong) (defScope s_state_or_wrong) .none kV doc pm an cdv ct) ⟨us, []⟩ = pure ((["many", "value"] : List Str).zip us) := fun _ _ _ _ _ _ us hl => match us, hl with | [_, _], _ => rfl
theorem kb_need_many : ∀ (kV doc pm : Value) (an : Option Addr) (cdv ct : Value) (us : List Value), us.length = (["many"] : List Str).length → bindArgs (PySem.W.fnOf "need_many" "need_many" (defArgs s_need_many) (defBody s_need_many) (defScope s_need_many) .none kV doc pm an cdv ct) ⟨us, []⟩ = pure ((["many"] : List Str).zip us) := fun _ _ _ _ _ _ us hl => match us, hl with | [_], _ => rfl
theorem kb_need_play : ∀ (kV doc pm : Value) (an : Option Addr) (cdv ct : Value) (us : List Value), us.length = (["many", "deeds"] : List Str).length → bindArgs (PySem.W.fnOf "need_play" "need_play" (defArgs s_need_play) (defBody s_need_play) (defScope s_need_play) .none kV doc pm an cdv ct) ⟨us, []⟩ = pure ((["many", "deeds"] : List Str).zip us) := fun _ _ _ _ _ _ us hl => match us, hl with | [_, _], _ => rfl
theorem kb_play_paper : ∀ (kV doc pm : Value) (an : Option Addr) (cdv ct : Value) (us : List Value), us.length = (["many", "value"] : List Str).length → bindArgs (PySem.W.fnOf "play_paper" "play_paper" (defArgs s_play_paper) (defBody s_play_paper) (defScope s_play_paper) .none kV doc pm an cdv ct) ⟨us, []⟩ = pure ((["many", "value"] : List Str).zip us) := fun _ _ _ _ _ _ us hl => match us, hl with | [_, _], _ => rfl
theorem kb_state_behind : ∀ (kV doc pm : Value) (an : Option Addr) (cdv ct : Value) (us : List Value), us.length = (["many", "deeds"] : List Str).length → bindArgs (PySem.W.fnOf "state_behind" "state_behind" (defArgs s_state_behind) (defBody s_state_behind) (defScope s_state_behind) .none kV doc pm an cdv ct) ⟨us, []⟩ = pure ((["many", "deeds"] : List Str).zip us) := fun _ _ _ _ _ _ us hl => match us, hl with | [_, _], _ => rfl
theorem kb_committed : ∀ (kV doc pm : Value) (an : Option Addr) (cdv ct : Value) (us : List Value), us.length = (["many", "deeds"] : List Str).length → bindArgs (PySem.W.fnOf "committed" "committed" (defArgs s_committed) (defBody s_committed) (defScope s_committed) .none kV doc pm an cdv ct) ⟨us, []⟩ = pure ((["many", "deeds"] : List Str).zip us) := fun _ _ _ _ _ _ us hl => match us, hl with | [_, _], _ => rfl
theorem kb__law_is_count : ∀ (kV doc pm : Value) (an : Option Addr) (cdv ct : Value) (us : List Value), us.length = (["value"] : List Str).length → bindArgs (PySem.W.fnOf "_law_is_count" "_law_is_count" (defArgs s__law_is_count) (defBody s__law_is_count) (defScope s__law_is_count) .none kV doc pm an cdv ct) ⟨us, []⟩ = pure ((["value"] : List Str).zip us) := fun _ _ _ _ _ _ us hl => match us, hl with | [_], _ => rfl
theorem kb__law_last : ∀ (kV doc pm : Value) (an : Option Addr) (cdv ct : Value) (us : List Value), us.length = (["rows"] : List Str).length → bindArgs (PySem.W.fnOf "_law_last" "_law_last" (defArgs s__law_last) (defBody s__law_last) (defScope s__law_last) .none kV doc pm an cdv ct) ⟨us, []⟩ = pure ((["rows"] : List Str).zip us) := fun _ _ _ _ _ _ us hl => match us, hl with | [_], _ => rfl
theorem kb__law_state : ∀ (kV doc pm : Value) (an : Option Addr) (cdv ct : Value) (us : List Value), us.length = (["many"] : List Str).length → bindArgs (PySem.W.fnOf "_law_state" "_law_state" (defArgs s__law_state) (defBody s__law_state) (defScope s__law_state) .none kV doc pm an cdv ct) ⟨us, []⟩ = pure ((["many"] : List Str).zip us) := fun _ _ _ _ _ _ us hl => match us, hl with | [_], _ => rfl
theorem kb__law_told_state : ∀ (kV doc pm : Value) (an : Option Addr) (cdv ct : Value) (us : List Value), us.length = (["state"] : List Str).length → bindArgs (PySem.W.fnOf "_law_told_state" "_law_told_state" (defArgs s__law_told_state) (defBody s__law_told_state) (defScope s__law_told_state) .none kV doc pm an cdv ct) ⟨us, []⟩ = pure ((["state"] : List Str).zip us) := fun _ _ _ _ _ _ us hl => match us, hl with | [_], _ => rfl
theorem kb__law_are_events : ∀ (kV doc pm : Value) (an : Option Addr) (cdv ct : Value) (us : List Value), us.length = (["value"] : List Str).length → bindArgs (PySem.W.fnOf "_law_are_events" "_law_are_events" (defArgs s__law_are_events) (defBody s__law_are_events) (defScope s__law_are_events) .none kV doc pm an cdv ct) ⟨us, []⟩ = pure ((["value"] : List Str).zip us) := fun _ _ _ _ _ _ us hl => match us, hl with | [_], _ => rfl
theorem kb__law_is_event : ∀ (kV doc pm : Value) (an : Option Addr) (cdv ct : Value) (us : List Value), us.length = (["value"] : List Str).length → bindArgs (PySem.W.fnOf "_law_is_event" "_law_is_event" (defArgs s__law_is_event) (defBody s__law_is_event) (defScope s__law_is_event) .none kV doc pm an cdv ct) ⟨us, []⟩ = pure ((["value"] : List Str).zip us) := fun _ _ _ _ _ _ us hl => match us, hl with | [_], _ => rfl
theorem kb__law_is_deed : ∀ (kV doc pm : Value) (an : Option Addr) (cdv ct : Value) (us : List Value), us.length = (["value"] : List Str).length → bindArgs (PySem.W.fnOf "_law_is_deed" "_law_is_deed" (defArgs s__law_is_deed) (defBody s__law_is_deed) (defScope s__law_is_deed) .none kV doc pm an cdv ct) ⟨us, []⟩ = pure ((["value"] : List Str).zip us) := fun _ _ _ _ _ _ us hl => match us, hl with | [_], _ => rfl
theorem kb__law_can : ∀ (kV doc pm : Value) (an : Option Addr) (cdv ct : Value) (us : List Value), us.length = (["state", "deed"] : List Str).length → bindArgs (PySem.W.fnOf "_law_can" "_law_can" (defArgs s__law_can) (defBody s__law_can) (defScope s__law_can) .none kV doc pm an cdv ct) ⟨us, []⟩ = pure ((["state", "deed"] : List Str).zip us) := fun _ _ _ _ _ _ us hl => match us, hl with | [_, _], _ => rfl
theorem kb__law_committed : ∀ (kV doc pm : Value) (an : Option Addr) (cdv ct : Value) (us : List Value), us.length = (["state"] : List Str).length → bindArgs (PySem.W.fnOf "_law_committed" "_law_committed" (defArgs s__law_committed) (defBody s__law_committed) (defScope s__law_committed) .none kV doc pm an cdv ct) ⟨us, []⟩ = pure ((["state"] : List Str).zip us) := fun _ _ _ _ _ _ us hl => match us, hl with | [_], _ => rfl
theorem kb__law_facts_right : ∀ (kV doc pm : Value) (an : Option Addr) (cdv ct : Value) (us : List Value), us.length = (["state", "before"] : List Str).length → bindArgs (PySem.W.fnOf "_law_facts_right" "_law_facts_right" (defArgs s__law_facts_right) (defBody s__law_facts_right) (defScope s__law_facts_right) .none kV doc pm an cdv ct) ⟨us, []⟩ = pure ((["state", "before"] : List Str).zip us) := fun _ _ _ _ _ _ us hl => match us, hl with | [_, _], _ => rfl
theorem kb__law_sip : ∀ (kV doc pm : Value) (an : Option Addr) (cdv ct : Value) (us : List Value), us.length = (["jug", "total"] : List Str).length → bindArgs (PySem.W.fnOf "_law_sip" "_law_sip" (defArgs s__law_sip) (defBody s__law_sip) (defScope s__law_sip) .none kV doc pm an cdv ct) ⟨us, []⟩ = pure ((["jug", "total"] : List Str).zip us) := fun _ _ _ _ _ _ us hl => match us, hl with | [_, _], _ => rfl
theorem kb__law_pick : ∀ (kV doc pm : Value) (an : Option Addr) (cdv ct : Value) (us : List Value), us.length = (["jug", "items"] : List Str).length → bindArgs (PySem.W.fnOf "_law_pick" "_law_pick" (defArgs s__law_pick) (defBody s__law_pick) (defScope s__law_pick) .none kV doc pm an cdv ct) ⟨us, []⟩ = pure ((["jug", "items"] : List Str).zip us) := fun _ _ _ _ _ _ us hl => match us, hl with | [_, _], _ => rfl
theorem kb_electable : ∀ (kV doc pm : Value) (an : Option Addr) (cdv ct : Value) (us : List Value), us.length = (["many", "deeds"] : List Str).length → bindArgs (PySem.W.fnOf "electable" "electable" (defArgs s_electable) (defBody s_electable) (defScope s_electable) .none kV doc pm an cdv ct) ⟨us, []⟩ = pure ((["many", "deeds"] : List Str).zip us) := fun _ _ _ _ _ _ us hl => match us, hl with | [_, _], _ => rfl
theorem kb__law_behind : ∀ (kV doc pm : Value) (an : Option Addr) (cdv ct : Value) (us : List Value), us.length = (["state", "deed"] : List Str).length → bindArgs (PySem.W.fnOf "_law_behind" "_law_behind" (defArgs s__law_behind) (defBody s__law_behind) (defScope s__law_behind) .none kV doc pm an cdv ct) ⟨us, []⟩ = pure ((["state", "deed"] : List Str).zip us) := fun _ _ _ _ _ _ us hl => match us, hl with | [_, _], _ => rfl
theorem kb__law_paper : ∀ (kV doc pm : Value) (an : Option Addr) (cdv ct : Value) (us : List Value), us.length = (["many", "deeds"] : List Str).length → bindArgs (PySem.W.fnOf "_law_paper" "_law_paper" (defArgs s__law_paper) (defBody s__law_paper) (defScope s__law_paper) .none kV doc pm an cdv ct) ⟨us, []⟩ = pure ((["many", "deeds"] : List Str).zip us) := fun _ _ _ _ _ _ us hl => match us, hl with | [_, _], _ => rfl
theorem kb__law_drawn_deed : ∀ (kV doc pm : Value) (an : Option Addr) (cdv ct : Value) (us : List Value), us.length = (["jug", "state", "events"] : List Str).length → bindArgs (PySem.W.fnOf "_law_drawn_deed" "_law_drawn_deed" (defArgs s__law_drawn_deed) (defBody s__law_drawn_deed) (defScope s__law_drawn_deed) .none kV doc pm an cdv ct) ⟨us, []⟩ = pure ((["jug", "state", "events"] : List Str).zip us) := fun _ _ _ _ _ _ us hl => match us, hl with | [_, _, _], _ => rfl
theorem kb__law_drawn_play : ∀ (kV doc pm : Value) (an : Option Addr) (cdv ct : Value) (us : List Value), us.length = (["jug", "many", "total", "events"] : List Str).length → bindArgs (PySem.W.fnOf "_law_drawn_play" "_law_drawn_play" (defArgs s__law_drawn_play) (defBody s__law_drawn_play) (defScope s__law_drawn_play) .none kV doc pm an cdv ct) ⟨us, []⟩ = pure ((["jug", "many", "total", "events"] : List Str).zip us) := fun _ _ _ _ _ _ us hl => match us, hl with | [_, _, _, _], _ => rfl
theorem kb__law_wrong_deed : ∀ (kV doc pm : Value) (an : Option Addr) (cdv ct : Value) (us : List Value), us.length = (["jug", "state", "events"] : List Str).length → bindArgs (PySem.W.fnOf "_law_wrong_deed" "_law_wrong_deed" (defArgs s__law_wrong_deed) (defBody s__law_wrong_deed) (defScope s__law_wrong_deed) .none kV doc pm an cdv ct) ⟨us, []⟩ = pure ((["jug", "state", "events"] : List Str).zip us) := fun _ _ _ _ _ _ us hl => match us, hl with | [_, _, _], _ => rfl
theorem kb__law_jug : ∀ (kV doc pm : Value) (an : Option Addr) (cdv ct : Value) (us : List Value), us.length = (["script", "spot"] : List Str).length → bindArgs (PySem.W.fnOf "_law_jug" "_law_jug" (defArgs s__law_jug) (defBody s__law_jug) (defScope s__law_jug) .none kV doc pm an cdv ct) ⟨us, []⟩ = pure ((["script", "spot"] : List Str).zip us) := fun _ _ _ _ _ _ us hl => match us, hl with | [_, _], _ => rfl
theorem kb__law_right : ∀ (kV doc pm : Value) (an : Option Addr) (cdv ct : Value) (us : List Value), us.length = (["jug", "events"] : List Str).length → bindArgs (PySem.W.fnOf "_law_right" "_law_right" (defArgs s__law_right) (defBody s__law_right) (defScope s__law_right) .none kV doc pm an cdv ct) ⟨us, []⟩ = pure ((["jug", "events"] : List Str).zip us) := fun _ _ _ _ _ _ us hl => match us, hl with | [_, _], _ => rfl
end
theorem all_R {P : Program} {w : World} {K : PySem.W.Frag} {mg : Str → Option Value} {base : Heap} {f : Addr} {fd : FuncData} (T : Tx mg) (kn_is_between : Kn K mg "is_between" s_is_between ["value", "low", "high"]) (kn_is_from_to : Kn K mg "is_from_to" s_is_from_to ["value", "low", "high"]) (kn_last_term : Kn K mg "last_term" s_last_term ["rows"]) (kn_are_newer : Kn K mg "are_newer" s_are_newer ["rows", "other"]) (kn_begun_state : Kn K mg "begun_state" s_begun_state ["many"]) (kn_with_copy : Kn K mg "with_copy" s_with_copy ["copies", "number", "fresh"]) (kn_is_event : Kn K mg "is_event" s_is_event ["value"]) (kn_is_rising_numbers : Kn K mg "is_rising_numbers" s_is_rising_numbers ["value", "high"]) (kn_is_deed_form : Kn K mg "is_deed_form" s_is_deed_form ["value"]) (kn_are_copy_rows : Kn K mg "are_copy_rows" s_are_copy_rows ["value"]) (kn_is_newer : Kn K mg "is_newer" s_is_newer ["rows", "other"]) (kn_appended : Kn K mg "appended" s_appended ["state", "event"]) (kn_copied : Kn K mg "copied" s_copied ["state", "number"]) (kn_turned_state : Kn K mg "turned_state" s_turned_state ["state", "number", "up"]) (kn_committed_state : Kn K mg "committed_state" s_committed_state ["state", "fresh"]) (kn_elected : Kn K mg "elected" s_elected ["state", "number", "voters"]) (kn_behind_deed : Kn K mg "behind_deed" s_behind_deed ["state", "deed"]) (kn_events_in : Kn K mg "events_in" s_events_in ["state"]) (kn_state_or_wrong : Kn K mg "state_or_wrong" s_state_or_wrong ["many", "value"]) (kn_need_many : Kn K mg "need_many" s_need_many ["many"]) (kn_need_play : Kn K mg "need_play" s_need_play ["many", "deeds"]) (kn_play_paper : Kn K mg "play_paper" s_play_paper ["many", "value"]) (kn_state_behind : Kn K mg "state_behind" s_state_behind ["many", "deeds"]) (kn_committed : Kn K mg "committed" s_committed ["many", "deeds"]) (kn__law_is_count : Kn K mg "_law_is_count" s__law_is_count ["value"]) (kn__law_last : Kn K mg "_law_last" s__law_last ["rows"]) (kn__law_state : Kn K mg "_law_state" s__law_state ["many"]) (kn__law_told_state : Kn K mg "_law_told_state" s__law_told_state ["state"]) (kn__law_are_events : Kn K mg "_law_are_events" s__law_are_events ["value"]) (kn__law_is_event : Kn K mg "_law_is_event" s__law_is_event ["value"]) (kn__law_is_deed : Kn K mg "_law_is_deed" s__law_is_deed ["value"]) (kn__law_can : Kn K mg "_law_can" s__law_can ["state", "deed"]) (kn__law_committed : Kn K mg "_law_committed" s__law_committed ["state"]) (kn__law_facts_right : Kn K mg "_law_facts_right" s__law_facts_right ["state", "before"]) (kn__law_sip : Kn K mg "_law_sip" s__law_sip ["jug", "total"]) (kn__law_pick : Kn K mg "_law_pick" s__law_pick ["jug", "items"]) (kn_electable : Kn K mg "electable" s_electable ["many", "deeds"]) (kn__law_behind : Kn K mg "_law_behind" s__law_behind ["state", "deed"]) (kn__law_paper : Kn K mg "_law_paper" s__law_paper ["many", "deeds"]) (kn__law_drawn_deed : Kn K mg "_law_drawn_deed" s__law_drawn_deed ["jug", "state", "events"]) (kn__law_drawn_play : Kn K mg "_law_drawn_play" s__law_drawn_play ["jug", "many", "total", "events"]) (kn__law_wrong_deed : Kn K mg "_law_wrong_deed" s__law_wrong_deed ["jug", "state", "events"]) (kn__law_jug : Kn K mg "_law_jug" s__law_jug ["script", "spot"]) (kn__law_right : Kn K mg "_law_right" s__law_right ["jug", "events"]) (hf : Fun K "law" "law" s_law f fd) : FnG P w K mg base 9 f fd ["script"] (spLaw K) := by
  have r_is_between := R_is_between (P := P) (w := w) (base := base) T kn_is_between
  have r_is_from_to := R_is_from_to (P := P) (w := w) (base := base) T kn_is_from_to
  have r_last_term := R_last_term (P := P) (w := w) (base := base) T kn_last_term
  have r_are_newer := R_are_newer (P := P) (w := w) (base := base) T kn_are_newer r_last_term
  have r_begun_state := R_begun_state (P := P) (w := w) (base := base) T kn_begun_state
  have r_with_copy := R_with_copy (P := P) (w := w) (base := base) T kn_with_copy
  have r_is_event := R_is_event (P := P) (w := w) (base := base) T kn_is_event r_is_between
  have r_is_rising_numbers := R_is_rising_numbers (P := P) (w := w) (base := base) T kn_is_rising_numbers r_is_from_to
  have r_is_deed_form := R_is_deed_form (P := P) (w := w) (base := base) T kn_is_deed_form r_is_from_to r_is_event r_is_rising_numbers
  have r_are_copy_rows := R_are_copy_rows (P := P) (w := w) (base := base) T kn_are_copy_rows r_is_event
  have r_is_newer := R_is_newer (P := P) (w := w) (base := base) T kn_is_newer r_are_newer r_are_copy_rows
  have r_appended := R_appended (P := P) (w := w) (base := base) T kn_appended r_with_copy
  have r_copied := R_copied (P := P) (w := w) (base := base) T kn_copied r_with_copy
  have r_turned_state := R_turned_state (P := P) (w := w) (base := base) T kn_turned_state r_with_copy
  have r_committed_state := R_committed_state (P := P) (w := w) (base := base) T kn_committed_state
  have r_elected := R_elected (P := P) (w := w) (base := base) T kn_elected r_with_copy r_are_newer
  have r_behind_deed := R_behind_deed (P := P) (w := w) (base := base) T kn_behind_deed r_turned_state r_committed_state r_copied r_appended r_elected r_is_deed_form
  have r_events_in := R_events_in (P := P) (w := w) (base := base) T kn_events_in
  have r_state_or_wrong := R_state_or_wrong (P := P) (w := w) (base := base) T kn_state_or_wrong r_behind_deed r_begun_state
  have r_need_many := R_need_many (P := P) (w := w) (base := base) T kn_need_many r_is_from_to
  have r_need_play := R_need_play (P := P) (w := w) (base := base) T kn_need_play r_state_or_wrong r_need_many
  have r_play_paper := R_play_paper (P := P) (w := w) (base := base) T kn_play_paper r_events_in r_state_or_wrong r_need_many
  have r_state_behind := R_state_behind (P := P) (w := w) (base := base) T kn_state_behind r_need_play
  have r_committed := R_committed (P := P) (w := w) (base := base) T kn_committed r_events_in r_need_play
  have r__law_is_count := R__law_is_count (P := P) (w := w) (base := base) T kn__law_is_count
  have r__law_last := R__law_last (P := P) (w := w) (base := base) T kn__law_last
  have r__law_state := R__law_state (P := P) (w := w) (base := base) T kn__law_state
  have r__law_told_state := R__law_told_state (P := P) (w := w) (base := base) T kn__law_told_state
  have r__law_are_events := R__law_are_events (P := P) (w := w) (base := base) T kn__law_are_events r__law_is_count
  have r__law_is_event := R__law_is_event (P := P) (w := w) (base := base) T kn__law_is_event r__law_are_events
  have r__law_is_deed := R__law_is_deed (P := P) (w := w) (base := base) T kn__law_is_deed r__law_is_count r__law_is_event
  have r__law_can := R__law_can (P := P) (w := w) (base := base) T kn__law_can r__law_last
  have r__law_committed := R__law_committed (P := P) (w := w) (base := base) T kn__law_committed
  have r__law_facts_right := R__law_facts_right (P := P) (w := w) (base := base) T kn__law_facts_right r__law_committed
  have r__law_sip := R__law_sip (P := P) (w := w) (base := base) T kn__law_sip
  have r__law_pick := R__law_pick (P := P) (w := w) (base := base) T kn__law_pick r__law_sip
  have r_electable := R_electable (P := P) (w := w) (base := base) T kn_electable r_are_newer r_need_play
  have r__law_behind := R__law_behind (P := P) (w := w) (base := base) T kn__law_behind
  have r__law_paper := R__law_paper (P := P) (w := w) (base := base) T kn__law_paper r__law_committed r__law_told_state r__law_behind r__law_can r__law_is_deed r__law_state
  have r__law_drawn_deed := R__law_drawn_deed (P := P) (w := w) (base := base) T kn__law_drawn_deed r__law_pick r__law_sip
  have r__law_drawn_play := R__law_drawn_play (P := P) (w := w) (base := base) T kn__law_drawn_play r__law_can r__law_behind r__law_drawn_deed r__law_state
  have r__law_wrong_deed := R__law_wrong_deed (P := P) (w := w) (base := base) T kn__law_wrong_deed r__law_pick r__law_can r__law_is_deed
  have r__law_jug := R__law_jug (P := P) (w := w) (base := base) T kn__law_jug
  have r__law_right := R__law_right (P := P) (w := w) (base := base) T kn__law_right r_play_paper r__law_paper r__law_sip r__law_wrong_deed r_is_newer r__law_last r__law_pick r__law_committed r_electable r__law_facts_right r__law_told_state r_committed r_state_behind r__law_drawn_play
  exact R_law T hf r__law_right r__law_sip r__law_jug
end KD

open PySem PySem.W PyProof.Rows in
set_option maxRecDepth 100000 in
set_option maxHeartbeats 0 in
theorem PySem.Challenge.cw_errandwide_k27_whole_plays_of_five_copie_holds : PySem.Challenge.rw_errandwide_k27_whole_plays_of_five_copie.Holds := by
  w_on; o_law; k_head; (case hw => w_witness2)
  k_fill
  refine KD.walkG (l := PySem.Challenge.rw_errandwide_k27_whole_plays_of_five_copie) (k := 9) (x := "script") rfl rfl ⟨rfl, by decide, by decide⟩ (fun w h Y => PySem.W.kIn_of Y) ?F
  case F =>
    intro w mg fa h KX G hmg
    have T : KD.Tx mg := by
      refine' KD.tx_mk KX G ?z_len ?z_isinstance ?z_all ?z_repr ?z_abs ?z_max ?z_min ?z_sorted ?z_int ?z_str ?z_bool ?z_tuple ?z_list ?z_set ?z_range ?z_zip ?z_enumerate ?c_LAST ?c_MOST_DEEDS ?c_LAST_COPY ?c_PLAY ?c_WRONG
      (case z_len => k_is)
      (case z_isinstance => k_is)
      (case z_all => k_is)
      (case z_repr => k_is)
      (case z_abs => k_is)
      (case z_max => k_is)
      (case z_min => k_is)
      (case z_sorted => k_is)
      (case z_int => k_is)
      (case z_str => k_is)
      (case z_bool => k_is)
      (case z_tuple => k_is)
      (case z_list => k_is)
      (case z_set => k_is)
      (case z_range => k_is)
      (case z_zip => k_is)
      (case z_enumerate => k_is)
      (case c_LAST => k_is)
      (case c_MOST_DEEDS => k_is)
      (case c_LAST_COPY => k_is)
      (case c_PLAY => k_is)
      (case c_WRONG => k_is)
    have kn_is_between := by
      refine' KD.kn_mk KD.kb_is_between KX G ?a ?l ?c ?k
      (case a => k_is)
      (case l => k_is)
      (case c => k_is)
      (case k => k_is)
    have kn_is_from_to := by
      refine' KD.kn_mk KD.kb_is_from_to KX G ?a ?l ?c ?k
      (case a => k_is)
      (case l => k_is)
      (case c => k_is)
      (case k => k_is)
    have kn_last_term := by
      refine' KD.kn_mk KD.kb_last_term KX G ?a ?l ?c ?k
      (case a => k_is)
      (case l => k_is)
      (case c => k_is)
      (case k => k_is)
    have kn_are_newer := by
      refine' KD.kn_mk KD.kb_are_newer KX G ?a ?l ?c ?k
      (case a => k_is)
      (case l => k_is)
      (case c => k_is)
      (case k => k_is)
    have kn_begun_state := by
      refine' KD.kn_mk KD.kb_begun_state KX G ?a ?l ?c ?k
      (case a => k_is)
      (case l => k_is)
      (case c => k_is)
      (case k => k_is)
    have kn_with_copy := by
      refine' KD.kn_mk KD.kb_with_copy KX G ?a ?l ?c ?k
      (case a => k_is)
      (case l => k_is)
      (case c => k_is)
      (case k => k_is)
    have kn_is_event := by
      refine' KD.kn_mk KD.kb_is_event KX G ?a ?l ?c ?k
      (case a => k_is)
      (case l => k_is)
      (case c => k_is)
      (case k => k_is)
    have kn_is_rising_numbers := by
      refine' KD.kn_mk KD.kb_is_rising_numbers KX G ?a ?l ?c ?k
      (case a => k_is)
      (case l => k_is)
      (case c => k_is)
      (case k => k_is)
    have kn_is_deed_form := by
      refine' KD.kn_mk KD.kb_is_deed_form KX G ?a ?l ?c ?k
      (case a => k_is)
      (case l => k_is)
      (case c => k_is)
      (case k => k_is)
    have kn_are_copy_rows := by
      refine' KD.kn_mk KD.kb_are_copy_rows KX G ?a ?l ?c ?k
      (case a => k_is)
      (case l => k_is)
      (case c => k_is)
      (case k => k_is)
    have kn_is_newer := by
      refine' KD.kn_mk KD.kb_is_newer KX G ?a ?l ?c ?k
      (case a => k_is)
      (case l => k_is)
      (case c => k_is)
      (case k => k_is)
    have kn_appended := by
      refine' KD.kn_mk KD.kb_appended KX G ?a ?l ?c ?k
      (case a => k_is)
      (case l => k_is)
      (case c => k_is)
      (case k => k_is)
    have kn_copied := by
      refine' KD.kn_mk KD.kb_copied KX G ?a ?l ?c ?k
      (case a => k_is)
      (case l => k_is)
      (case c => k_is)
      (case k => k_is)
    have kn_turned_state := by
      refine' KD.kn_mk KD.kb_turned_state KX G ?a ?l ?c ?k
      (case a => k_is)
      (case l => k_is)
      (case c => k_is)
      (case k => k_is)
    have kn_committed_state := by
      refine' KD.kn_mk KD.kb_committed_state KX G ?a ?l ?c ?k
      (case a => k_is)
      (case l => k_is)
      (case c => k_is)
      (case k => k_is)
    have kn_elected := by
      refine' KD.kn_mk KD.kb_elected KX G ?a ?l ?c ?k
      (case a => k_is)
      (case l => k_is)
      (case c => k_is)
      (case k => k_is)
    have kn_behind_deed := by
      refine' KD.kn_mk KD.kb_behind_deed KX G ?a ?l ?c ?k
      (case a => k_is)
      (case l => k_is)
      (case c => k_is)
      (case k => k_is)
    have kn_events_in := by
      refine' KD.kn_mk KD.kb_events_in KX G ?a ?l ?c ?k
      (case a => k_is)
      (case l => k_is)
      (case c => k_is)
      (case k => k_is)
    have kn_state_or_wrong := by
      refine' KD.kn_mk KD.kb_state_or_wrong KX G ?a ?l ?c ?k
      (case a => k_is)
      (case l => k_is)
      (case c => k_is)
      (case k => k_is)
    have kn_need_many := by
      refine' KD.kn_mk KD.kb_need_many KX G ?a ?l ?c ?k
      (case a => k_is)
      (case l => k_is)
      (case c => k_is)
      (case k => k_is)
    have kn_need_play := by
      refine' KD.kn_mk KD.kb_need_play KX G ?a ?l ?c ?k
      (case a => k_is)
      (case l => k_is)
      (case c => k_is)
      (case k => k_is)
    have kn_play_paper := by
      refine' KD.kn_mk KD.kb_play_paper KX G ?a ?l ?c ?k
      (case a => k_is)
      (case l => k_is)
      (case c => k_is)
      (case k => k_is)
    have kn_state_behind := by
      refine' KD.kn_mk KD.kb_state_behind KX G ?a ?l ?c ?k
      (case a => k_is)
      (case l => k_is)
      (case c => k_is)
      (case k => k_is)
    have kn_committed := by
      refine' KD.kn_mk KD.kb_committed KX G ?a ?l ?c ?k
      (case a => k_is)
      (case l => k_is)
      (case c => k_is)
      (case k => k_is)
    have kn__law_is_count := by
      refine' KD.kn_mk KD.kb__law_is_count KX G ?a ?l ?c ?k
      (case a => k_is)
      (case l => k_is)
      (case c => k_is)
      (case k => k_is)
    have kn__law_last := by
      refine' KD.kn_mk KD.kb__law_last KX G ?a ?l ?c ?k
      (case a => k_is)
      (case l => k_is)
      (case c => k_is)
      (case k => k_is)
    have kn__law_state := by
      refine' KD.kn_mk KD.kb__law_state KX G ?a ?l ?c ?k
      (case a => k_is)
      (case l => k_is)
      (case c => k_is)
      (case k => k_is)
    have kn__law_told_state := by
      refine' KD.kn_mk KD.kb__law_told_state KX G ?a ?l ?c ?k
      (case a => k_is)
      (case l => k_is)
      (case c => k_is)
      (case k => k_is)
    have kn__law_are_events := by
      refine' KD.kn_mk KD.kb__law_are_events KX G ?a ?l ?c ?k
      (case a => k_is)
      (case l => k_is)
      (case c => k_is)
      (case k => k_is)
    have kn__law_is_event := by
      refine' KD.kn_mk KD.kb__law_is_event KX G ?a ?l ?c ?k
      (case a => k_is)
      (case l => k_is)
      (case c => k_is)
      (case k => k_is)
    have kn__law_is_deed := by
      refine' KD.kn_mk KD.kb__law_is_deed KX G ?a ?l ?c ?k
      (case a => k_is)
      (case l => k_is)
      (case c => k_is)
      (case k => k_is)
    have kn__law_can := by
      refine' KD.kn_mk KD.kb__law_can KX G ?a ?l ?c ?k
      (case a => k_is)
      (case l => k_is)
      (case c => k_is)
      (case k => k_is)
    have kn__law_committed := by
      refine' KD.kn_mk KD.kb__law_committed KX G ?a ?l ?c ?k
      (case a => k_is)
      (case l => k_is)
      (case c => k_is)
      (case k => k_is)
    have kn__law_facts_right := by
      refine' KD.kn_mk KD.kb__law_facts_right KX G ?a ?l ?c ?k
      (case a => k_is)
      (case l => k_is)
      (case c => k_is)
      (case k => k_is)
    have kn__law_sip := by
      refine' KD.kn_mk KD.kb__law_sip KX G ?a ?l ?c ?k
      (case a => k_is)
      (case l => k_is)
      (case c => k_is)
      (case k => k_is)
    have kn__law_pick := by
      refine' KD.kn_mk KD.kb__law_pick KX G ?a ?l ?c ?k
      (case a => k_is)
      (case l => k_is)
      (case c => k_is)
      (case k => k_is)
    have kn_electable := by
      refine' KD.kn_mk KD.kb_electable KX G ?a ?l ?c ?k
      (case a => k_is)
      (case l => k_is)
      (case c => k_is)
      (case k => k_is)
    have kn__law_behind := by
      refine' KD.kn_mk KD.kb__law_behind KX G ?a ?l ?c ?k
      (case a => k_is)
      (case l => k_is)
      (case c => k_is)
      (case k => k_is)
    have kn__law_paper := by
      refine' KD.kn_mk KD.kb__law_paper KX G ?a ?l ?c ?k
      (case a => k_is)
      (case l => k_is)
      (case c => k_is)
      (case k => k_is)
    have kn__law_drawn_deed := by
      refine' KD.kn_mk KD.kb__law_drawn_deed KX G ?a ?l ?c ?k
      (case a => k_is)
      (case l => k_is)
      (case c => k_is)
      (case k => k_is)
    have kn__law_drawn_play := by
      refine' KD.kn_mk KD.kb__law_drawn_play KX G ?a ?l ?c ?k
      (case a => k_is)
      (case l => k_is)
      (case c => k_is)
      (case k => k_is)
    have kn__law_wrong_deed := by
      refine' KD.kn_mk KD.kb__law_wrong_deed KX G ?a ?l ?c ?k
      (case a => k_is)
      (case l => k_is)
      (case c => k_is)
      (case k => k_is)
    have kn__law_jug := by
      refine' KD.kn_mk KD.kb__law_jug KX G ?a ?l ?c ?k
      (case a => k_is)
      (case l => k_is)
      (case c => k_is)
      (case k => k_is)
    have kn__law_right := by
      refine' KD.kn_mk KD.kb__law_right KX G ?a ?l ?c ?k
      (case a => k_is)
      (case l => k_is)
      (case c => k_is)
      (case k => k_is)
    have lw := by
      refine' KD.law_fun KX G hmg ?a ?l ?c ?k
      (case a => k_is)
      (case l => k_is)
      (case c => k_is)
      (case k => k_is)
    obtain ⟨fd, hf, hb⟩ := lw
    exact ⟨fd, hb, fun base _ _ => KD.all_R T kn_is_between kn_is_from_to kn_last_term kn_are_newer kn_begun_state kn_with_copy kn_is_event kn_is_rising_numbers kn_is_deed_form kn_are_copy_rows kn_is_newer kn_appended kn_copied kn_turned_state kn_committed_state kn_elected kn_behind_deed kn_events_in kn_state_or_wrong kn_need_many kn_need_play kn_play_paper kn_state_behind kn_committed kn__law_is_count kn__law_last kn__law_state kn__law_told_state kn__law_are_events kn__law_is_event kn__law_is_deed kn__law_can kn__law_committed kn__law_facts_right kn__law_sip kn__law_pick kn_electable kn__law_behind kn__law_paper kn__law_drawn_deed kn__law_drawn_play kn__law_wrong_deed kn__law_jug kn__law_right hf⟩

