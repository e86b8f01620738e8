import PyProof.Rows.All
import Wide.All
import OpenK.AllK
import Wide.FinOn
import KE.KStateDown
import HandS.ForMost
import HandS.IsInst
import HandS.CallLocal
import HandS.Defaults
import HandS.Wide
import HandS.Walk
import HandS.Flow
import HandS.Head0
import HandS.Head1
import HandS.Head2
import HandS.HeadEnd
import HandS.HeadHook1
import HandS.HeadHook2
import PySem.Challenge.RW_forkhaul_k01_words
set_option Elab.async false
set_option linter.all false
set_option maxRecDepth 100000
set_option maxHeartbeats 0
namespace Fk
open PySem PySem.Spec PyProof.Rows L2 TL
/-! ### heaps: all stands as it was, but at w -/
def Kp (w : Addr) (H H' : Hp) : Prop := ∀ b o, H b = some o → b ≠ w → H' b = some o
theorem Kp.refl (w : Addr) (H : Hp) : Kp w H H := fun _ _ h _ => h
theorem Kp.trans {w : Addr} {H H1 H2 : Hp} (a : Kp w H H1) (b : Kp w H1 H2) : Kp w H H2 := fun c o h n => b c o (a c o h n) n
theorem Kp.of {w : Addr} {H H' : Hp} (s : Same H H') : Kp w H H' := fun c o h _ => s c o h
theorem same_new {H : Hp} {p : Addr} {o : HO} (h : H p = none) : Same H (upd H p o) := fun b u e => by
  rw [upd_ne (ne_of_none e h)]
  exact e
theorem Kp.new {w p : Addr} {H H' : Hp} {o : HO} (k : Kp w H H') (h : H' p = none) : Kp w H (upd H' p o) := k.trans (.of (same_new h))
theorem Kp.put {w : Addr} {H H' : Hp} {o : HO} (k : Kp w H H') : Kp w H (upd H' w o) := fun c u h n => by
  rw [upd_ne n]
  exact k c u h n
/-- an object that H does not know may change -/
theorem Kp.mut {w p : Addr} {H H' : Hp} {o : HO} (k : Kp w H H') (h : H p = none) : Kp w H (upd H' p o) := fun c u e n => by
  rw [upd_ne (ne_of_none e h)]
  exact k c u e n
theorem same_mut {p : Addr} {H H' : Hp} {o : HO} (k : Same H H') (h : H p = none) : Same H (upd H' p o) := fun c u e => by
  rw [upd_ne (ne_of_none e h)]
  exact k c u e
theorem Kp.free {w p : Addr} {H H' : Hp} (k : Kp w H H') (n : p ≠ w) (h : H' p = none) : H p = none := by
  cases q : H p with
  | none => rfl
  | some o =>
    rw [k p o q n] at h
    cases h
/-! ### a source of draws at w: three numbers; n draws are left -/
def Wl (H : Hp) (w : Addr) (n : Nat) : Prop := ∃ a b c : Int, H w = some (.lst [.int a, .int b, .int c]) ∧ 0 ≤ a ∧ 0 ≤ c ∧ c + n ≤ 1000000
theorem Wl.le {H : Hp} {w : Addr} {n m : Nat} (h : Wl H w n) (e : m ≤ n) : Wl H w m := by
  obtain ⟨a, b, c, h1, h2, h3, h4⟩ := h
  exact ⟨a, b, c, h1, h2, h3, by omega⟩
theorem Wl.new {H : Hp} {w p : Addr} {n : Nat} {o : HO} (h : Wl H w n) (hp : H p = none) : Wl (upd H p o) w n := by
  obtain ⟨a, b, c, h1, h2⟩ := h
  exact ⟨a, b, c, by rw [upd_ne (ne_of_none h1 hp)]; exact h1, h2⟩
theorem Wl.mut {H : Hp} {w p : Addr} {n : Nat} {o : HO} (h : Wl H w n) (hp : w ≠ p) : Wl (upd H p o) w n := by
  obtain ⟨a, b, c, h1, h2⟩ := h
  exact ⟨a, b, c, by rw [upd_ne hp]; exact h1, h2⟩
theorem Wl.same {H H' : Hp} {w : Addr} {n : Nat} (h : Wl H w n) (s : Same H H') : Wl H' w n := by
  obtain ⟨a, b, c, h1, h2⟩ := h
  exact ⟨a, b, c, s _ _ h1, h2⟩
theorem Wl.ne {H : Hp} {w p : Addr} {n : Nat} (h : Wl H w n) (hp : H p = none) : p ≠ w := by
  obtain ⟨a, b, c, h1, _⟩ := h
  exact (ne_of_none h1 hp).symm
/-! ### a def of the module by its name -/
structure Ok (P : Program) (w : World) (K : PySem.W.Frag) (mg : Str → Option Value) (base : Heap) (k : Nat) (x : Str) (ps : List Str) (sp : Sp) : Prop where
  ex : ∃ fd, FnOk P w K mg base CX0 k (He.ga K x) fd ps sp ∧ Binds K fd ps []
  kp : PySem.W.keepIn K (.ref (He.ga K x)) = true
  m : mg x = some (.ref (He.ga K x))
section
variable {X : Cx} {j : Nat} {x : Str} {ps : List Str} {sp : Sp} {p pos : Pos} {e : Expr} {es : List Expr} {t : TA}
theorem pe_own (O : Ok X.prog X.w X.K X.mg X.base j x ps sp) (hr : Room j X.A) (hg : Gl X x) (ha : PA X (e :: es) t) (hdb : (x == ("__debug__" : Str)) = false := by decide)
    (he : starEach (e :: es) X.env = (false, eval e X.env) :: starEach es X.env := by rfl) (hpl : (backTo pos (starEach es X.env)).any (·.1) = false := by rfl) :
    PE X (.Call (.Name x p) (e :: es) [] pos) (tCall sp [] E0 t) := by
  obtain ⟨⟨fd, F, b⟩, kp, m⟩ := O
  exact pe_call F hr hg m kp b .nil pass0 ha hdb he hpl
theorem pe_own0 (O : Ok X.prog X.w X.K X.mg X.base j x ps sp) (hr : Room j X.A) (hg : Gl X x) (hdb : (x == ("__debug__" : Str)) = false := by decide) :
    PE X (.Call (.Name x p) [] [] pos) (tCall sp [] E0 tNil) := by
  obtain ⟨⟨fd, F, b⟩, kp, m⟩ := O
  exact pe_call0 F hr hg m kp b .nil pass0 hdb
theorem pe_gref {a : Addr} (m : X.mg x = some (.ref a)) (hg : Gl X x) (hd : (x == ("__debug__" : Str)) = false := by decide) : PE X (.Name x pos) (tC (.ref a)) := pe_glob hg m rfl hd
/-- a text, many times -/
theorem op_mul_str : OpR X (binaryOp .Mult) (fun x y H Q => ∃ z i, x = .str z ∧ y = .int i ∧ (0 ≤ i ∧ i ≤ 1000000 ∧ z.length ≤ 1000 ∧ z.length * i.toNat ≤ 1000000) ∧ Q (.str (Txt.mul z i)) H) := by
  intro pins s σ H x y v u Q I rx ry h
  obtain ⟨z, i, rfl, rfl, ⟨h0, h1, h2, h3⟩, q⟩ := h
  obtain ⟨t, rfl⟩ := rx
  obtain ⟨t', rfl⟩ := ry
  refine SB.mul ⟨?_, fun g _ => ?_, fun _ _ => ?_⟩ fun t' k => ⟨.str (Txt.mul z i), H, I.tok _, ⟨_, rfl⟩, q⟩
  · rw [Bool.or_eq_false_iff]
    exact ⟨decide_eq_false (by omega), decide_eq_false (by omega)⟩
  · have hi : 1 ≤ i := by omega
    have : (1000 : Int) ≤ (2 ^ 63 - 1) / i := by
      rw [Int.le_ediv_iff_mul_le (by omega)]
      omega
    omega
  · show decide (z.length * i.toNat > sizeLine) = false
    have e := sizeLine_eq
    exact decide_eq_false (by omega)
end
/-! ### comprehensions -/
theorem wipe1 (σ : L2.St) (i : Nat) (v : Option V) : wipe ((wipe σ [i]).set i v) [i] = wipe σ [i] := by
  show ((σ.set i none).set i v).set i none = σ.set i none
  rw [List.set_set, List.set_set]
section
variable {J : It} {G : Hp → Prop} {xs : List V} {tt : TT} {te : TE} {i : Nat} {σ : L2.St} {H1 : Hp} {D : Addr} {Qd : Hp → Prop}
/-- a comprehension that leaves all as it was: the items that pass p, by f -/
theorem lc_same (w : Walk J xs.length G (YAt xs)) (p : V → Bool) (f : V → V) (hG : ∀ H, Same H1 H → G H) (hz : xs.length < sizeLine) (hD : H1 D = none)
    (ht : ∀ x H (Q : Bool → Hp → Prop), x ∈ xs → Same H1 H → (∀ H3, Same H H3 → Q (p x) H3) → tt ((wipe σ [i]).set i (some x)) H Q)
    (he : ∀ x H (Q : VK), x ∈ xs → p x = true → Same H1 H → (∀ H3, Same H H3 → Q (f x) H3) → te ((wipe σ [i]).set i (some x)) H Q)
    (hd : ∀ H, Same H1 H → H D = some (.lst ((xs.filter p).map f)) → Qd H) :
    ∃ W : Nat → Nat → Hp → Prop, (∃ m, W 0 m (upd H1 D (.lst []))) ∧ ∀ i' m H, W i' m H →
      (J.stop i' H ∧ Qd H) ∨ (J.go i' H ∧ ∃ Nx : Hp → Prop, (∀ H', Nx H' → ∃ m', m' < m ∧ W (i' + 1) m' H') ∧ ∀ x H', J.yld i' H x H' → gName i x (wipe σ [i]) H' fun σ2 H2 => wipe σ2 [i] = wipe σ [i] ∧ tt σ2 H2 fun b H3 =>
        if b = true then te σ2 H3 fun y H4 => ∃ acc, H4 D = some (.lst acc) ∧ acc.length < sizeLine ∧ Nx (upd H4 D (.lst (acc ++ [y]))) else Nx H3) := by
  refine lc_it w (fun n H => Same H1 H ∧ H D = some (.lst (((xs.take n).filter p).map f))) ⟨same_new hD, upd_same⟩ (fun n H _ h => hG H h.1) (fun n x H H' hn h hy => ?_) fun H h => ?_
  · obtain ⟨rfl, hx⟩ := hy
    obtain ⟨s1, h1⟩ := h
    refine ⟨wipe1 σ i (some x), ?_⟩
    have hm : x ∈ xs := List.mem_of_getElem? hx
    have et : xs.take (n + 1) = xs.take n ++ [x] := by
      rw [List.take_succ, hx]
      rfl
    refine ht x _ _ hm s1 fun H3 s3 => ?_
    cases q : p x with
    | true =>
      refine he x H3 _ hm q (s1.trans s3) fun H4 s4 => ⟨_, s4 _ _ (s3 _ _ h1), ?_, same_mut (s1.trans (s3.trans s4)) hD, ?_⟩
      · rw [List.length_map]
        refine Nat.lt_of_le_of_lt (Nat.le_trans (List.length_filter_le _ _) ?_) hz
        rw [List.length_take]
        omega
      · rw [et, List.filter_append, List.map_append, upd_same]
        have e : [x].filter p = [x] := by simp [q]
        rw [e]
        rfl
    | false =>
      refine ⟨s1.trans s3, ?_⟩
      rw [et, List.filter_append, List.map_append]
      have e : [x].filter p = [] := by simp [q]
      rw [e, List.map_nil, List.append_nil]
      exact s3 _ _ h1
  · obtain ⟨s1, h1⟩ := h
    rw [List.take_length] at h1
    exact hd H s1 h1
/-- a comprehension without a test whose items draw from u, k draws an item; each item is a P -/
theorem lc_wl {N : Nat} {Y : Nat → Hp → V → Hp → Prop} (w : Walk J N (fun _ => True) Y) (hY : ∀ i H x H', Y i H x H' → H' = H) (P : V → Prop) {u : Addr} {n k : Nat} (hu : Wl H1 u (n + N * k)) (hz : N < sizeLine) (hD : H1 D = none)
    (he : ∀ x H (m : Nat) (Q : VK), Wl H u (m + k) → Kp u H1 H → (∀ y H', P y → Wl H' u m → Kp u H H' → Q y H') → te ((wipe σ [i]).set i (some x)) H Q)
    (hd : ∀ H ys, Kp u H1 H → Wl H u n → H D = some (.lst ys) → ys.length = N → (∀ y ∈ ys, P y) → Qd H) :
    ∃ W : Nat → Nat → Hp → Prop, (∃ m, W 0 m (upd H1 D (.lst []))) ∧ ∀ i' m H, W i' m H →
      (J.stop i' H ∧ Qd H) ∨ (J.go i' H ∧ ∃ Nx : Hp → Prop, (∀ H', Nx H' → ∃ m', m' < m ∧ W (i' + 1) m' H') ∧ ∀ x H', J.yld i' H x H' → gName i x (wipe σ [i]) H' fun σ2 H2 => wipe σ2 [i] = wipe σ [i] ∧ tYes σ2 H2 fun b H3 =>
        if b = true then te σ2 H3 fun y H4 => ∃ acc, H4 D = some (.lst acc) ∧ acc.length < sizeLine ∧ Nx (upd H4 D (.lst (acc ++ [y]))) else Nx H3) := by
  have hDu : D ≠ u := hu.ne hD
  refine lc_it w (fun j H => Kp u H1 H ∧ Wl H u (n + (N - j) * k) ∧ ∃ ys, H D = some (.lst ys) ∧ ys.length = j ∧ ∀ y ∈ ys, P y) ⟨(Kp.refl _ _).new hD, hu.new hD, [], upd_same, rfl, fun y h => by cases h⟩ (fun _ _ _ _ => trivial) (fun j x H H' hj h hy => ?_) fun H h => ?_
  · have e := hY _ _ _ _ hy
    subst e
    obtain ⟨k1, hw, ys, h1, hl, hP⟩ := h
    refine ⟨wipe1 σ i (some x), ?_⟩
    show te ((wipe σ [i]).set i (some x)) _ _
    have e1 : N - j = (N - (j + 1)) + 1 := by omega
    rw [e1, Nat.succ_mul, ← Nat.add_assoc] at hw
    refine he x _ _ _ hw k1 fun y H4 py hw4 k4 => ⟨ys, k4 _ _ h1 hDu, by omega, ((k1.trans k4).mut hD), hw4.mut hDu.symm, _, upd_same, by rw [List.length_append, hl]; rfl, fun z hz => ?_⟩
    rcases List.mem_append.mp hz with hz | hz
    · exact hP z hz
    · rw [List.mem_singleton.mp hz]
      exact py
  · obtain ⟨k1, hw, ys, h1, hl, hP⟩ := h
    rw [Nat.sub_self, Nat.zero_mul] at hw
    exact hd H ys k1 hw h1 hl hP
end
/-- a text, sign by sign, as a list of texts -/
def sg (c : Nat) : V := .str ⟨#[c]⟩
theorem walk_text {z : Str} : Walk (Its z) ((tl z).map sg).length (fun _ => True) (YAt ((tl z).map sg)) := by
  have e : ((tl z).map sg).length = z.cps.size := by rw [List.length_map]; rfl
  rw [e]
  refine (walk_str (z := z)).mono (fun _ h => h) fun i H x H' hi _ y => ?_
  obtain ⟨e, c, h1, h2⟩ := y
  refine ⟨e, ?_⟩
  rw [List.getElem?_map, h2]
  have h3 : (tl z)[i]? = some c := by
    show z.cps.toList[i]? = some c
    rw [Array.getElem?_toList]
    exact h1
  rw [h3]
  rfl
end Fk
namespace K01
open PySem PySem.Spec PyProof.Rows L2
def top (i : Nat) : Stmt := PySem.Challenge.pw_forkhaul_k01_words.main.body.getD i (.Pass ⟨0, 0, 0, 0⟩)
abbrev s_has_only : Stmt := top 11
abbrev s_is_id : Stmt := top 12
abbrev s_is_segment : Stmt := top 13
abbrev s_is_path : Stmt := top 14
abbrev s_is_ref_segment : Stmt := top 15
abbrev s_is_ref : Stmt := top 16
abbrev s_is_author : Stmt := top 17
abbrev s_is_text : Stmt := top 18
abbrev s__law_cell_at : Stmt := top 20
abbrev s__law_well : Stmt := top 21
abbrev s__law_draw : Stmt := top 22
abbrev s__law_pick : Stmt := top 23
abbrev s__law_signs : Stmt := top 24
abbrev s__law_all_signs : Stmt := top 25
abbrev s__law_segment : Stmt := top 26
abbrev s__law_path : Stmt := top 27
abbrev s__law_text : Stmt := top 28
abbrev s__law_id : Stmt := top 29
abbrev s__law_only : Stmt := top 30
abbrev s__law_due : Stmt := top 31
abbrev s__law_good : Stmt := top 32
abbrev s__law_bent : Stmt := top 33
abbrev s_law : Stmt := top 34
def d_has_only : He.DefD := ⟨("has_only", none), "has_only", "has_only", defArgs s_has_only, defBody s_has_only, defScope s_has_only, [], []⟩
def d_is_id : He.DefD := ⟨("is_id", none), "is_id", "is_id", defArgs s_is_id, defBody s_is_id, defScope s_is_id, [], []⟩
def d_is_segment : He.DefD := ⟨("is_segment", none), "is_segment", "is_segment", defArgs s_is_segment, defBody s_is_segment, defScope s_is_segment, [], []⟩
def d_is_path : He.DefD := ⟨("is_path", none), "is_path", "is_path", defArgs s_is_path, defBody s_is_path, defScope s_is_path, [], []⟩
def d_is_ref_segment : He.DefD := ⟨("is_ref_segment", none), "is_ref_segment", "is_ref_segment", defArgs s_is_ref_segment, defBody s_is_ref_segment, defScope s_is_ref_segment, [], []⟩
def d_is_ref : He.DefD := ⟨("is_ref", none), "is_ref", "is_ref", defArgs s_is_ref, defBody s_is_ref, defScope s_is_ref, [], []⟩
def d_is_author : He.DefD := ⟨("is_author", none), "is_author", "is_author", defArgs s_is_author, defBody s_is_author, defScope s_is_author, [], []⟩
def d_is_text : He.DefD := ⟨("is_text", none), "is_text", "is_text", defArgs s_is_text, defBody s_is_text, defScope s_is_text, [.int 2000], []⟩
def d__law_cell_at : He.DefD := ⟨("_law_cell_at", none), "_law_cell_at", "_law_cell_at", defArgs s__law_cell_at, defBody s__law_cell_at, defScope s__law_cell_at, [], []⟩
def d__law_well : He.DefD := ⟨("_law_well", none), "_law_well", "_law_well", defArgs s__law_well, defBody s__law_well, defScope s__law_well, [], []⟩
def d__law_draw : He.DefD := ⟨("_law_draw", none), "_law_draw", "_law_draw", defArgs s__law_draw, defBody s__law_draw, defScope s__law_draw, [], []⟩
def d__law_pick : He.DefD := ⟨("_law_pick", none), "_law_pick", "_law_pick", defArgs s__law_pick, defBody s__law_pick, defScope s__law_pick, [], []⟩
def d__law_signs : He.DefD := ⟨("_law_signs", none), "_law_signs", "_law_signs", defArgs s__law_signs, defBody s__law_signs, defScope s__law_signs, [], []⟩
def d__law_all_signs : He.DefD := ⟨("_law_all_signs", none), "_law_all_signs", "_law_all_signs", defArgs s__law_all_signs, defBody s__law_all_signs, defScope s__law_all_signs, [], []⟩
def d__law_segment : He.DefD := ⟨("_law_segment", none), "_law_segment", "_law_segment", defArgs s__law_segment, defBody s__law_segment, defScope s__law_segment, [], []⟩
def d__law_path : He.DefD := ⟨("_law_path", none), "_law_path", "_law_path", defArgs s__law_path, defBody s__law_path, defScope s__law_path, [], []⟩
def d__law_text : He.DefD := ⟨("_law_text", none), "_law_text", "_law_text", defArgs s__law_text, defBody s__law_text, defScope s__law_text, [], []⟩
def d__law_id : He.DefD := ⟨("_law_id", none), "_law_id", "_law_id", defArgs s__law_id, defBody s__law_id, defScope s__law_id, [], []⟩
def d__law_only : He.DefD := ⟨("_law_only", none), "_law_only", "_law_only", defArgs s__law_only, defBody s__law_only, defScope s__law_only, [], []⟩
def d__law_due : He.DefD := ⟨("_law_due", none), "_law_due", "_law_due", defArgs s__law_due, defBody s__law_due, defScope s__law_due, [], []⟩
def d__law_good : He.DefD := ⟨("_law_good", none), "_law_good", "_law_good", defArgs s__law_good, defBody s__law_good, defScope s__law_good, [], []⟩
def d__law_bent : He.DefD := ⟨("_law_bent", none), "_law_bent", "_law_bent", defArgs s__law_bent, defBody s__law_bent, defScope s__law_bent, [], []⟩
def d_law : He.DefD := ⟨("law", none), "law", "law", defArgs s_law, defBody s_law, defScope s_law, [], []⟩
def fn : List He.DefD := [d_has_only, d_is_id, d_is_segment, d_is_path, d_is_ref_segment, d_is_ref, d_is_author, d_is_text, d__law_cell_at, d__law_well, d__law_draw, d__law_pick, d__law_signs, d__law_all_signs, d__law_segment, d__law_path, d__law_text, d__law_id, d__law_only, d__law_due, d__law_good, d__law_bent, d_law]
def fa0 : List He.Fa := [.str "SMALL" "abcdefghijklmnopqrstuvwxyz", .str "DIGITS" "0123456789", .str "HEX" "0123456789abcdef", .int "ID_LENGTH" 16, .int "MOST_SEGMENTS" 6, .int "MOST_REF_SEGMENTS" 5, .int "MOST_FAR_SEGMENTS" 7, .str "FAR" "far", .int "MOST_SEGMENT" 12, .int "MOST_TEXT" 2000, .glo "has_only", .glo "is_id", .glo "is_segment", .glo "is_path", .glo "is_ref_segment", .glo "is_ref", .glo "is_author", .glo "is_text", .glo "_law_cell_at", .glo "_law_well", .glo "_law_draw", .glo "_law_pick", .glo "_law_signs", .glo "_law_all_signs", .glo "_law_segment", .glo "_law_path", .glo "_law_text", .glo "_law_id", .glo "_law_only", .glo "_law_due"]
def fa1 : List He.Fa := [.glo "_law_good", .glo "_law_bent", .glo "law", .free "all", .free "isinstance", .free "len", .free "range", .free "int", .free "min", .free "str", .free "bool"]
def fa : List He.Fa := fa0 ++ fa1
def loose0 : List PySem.Str := ["SMALL", "DIGITS", "HEX", "ID_LENGTH", "MOST_SEGMENTS", "MOST_REF_SEGMENTS", "MOST_FAR_SEGMENTS", "FAR", "MOST_SEGMENT", "MOST_TEXT", "has_only", "is_id", "is_segment", "is_path", "is_ref_segment", "is_ref", "is_author", "is_text", "_law_cell_at", "_law_well", "_law_draw", "_law_pick", "_law_signs", "_law_all_signs", "_law_segment", "_law_path", "_law_text", "_law_id", "_law_only", "_law_due", "_law_good", "_law_bent"]
def loose : List PySem.Str := loose0
structure Ctx (K : PySem.W.Frag) (mg : Str → Option Value) : Prop where
  ex : ∃ h : Heap, K.In h ∧ h.Ns mainGlobals mg
  c : He.SaysD fa fn K
section
variable {K : PySem.W.Frag} {mg : Str → Option Value}
theorem Ctx.glo (T : Ctx K mg) (i : Nat) {x : Str} (h : fa[i]? = some (.glo x) := by rfl) : mg x = some (.ref (He.ga K x)) := by
  obtain ⟨h0, X, G⟩ := T.ex
  exact He.glo_ok X G (T.c.fact i h)
theorem Ctx.fre (T : Ctx K mg) (i : Nat) {x : Str} (h : fa[i]? = some (.free x) := by rfl) : mg x = none := by
  obtain ⟨h0, X, G⟩ := T.ex
  exact He.free_ok X G (T.c.fact i h)
theorem Ctx.int (T : Ctx K mg) (i : Nat) {x : Str} {n : Int} (h : fa[i]? = some (.int x n) := by rfl) : ∃ t, mg x = some (.int n t) := by
  obtain ⟨h0, X, G⟩ := T.ex
  exact He.int_ok X G (T.c.fact i h)
theorem Ctx.str (T : Ctx K mg) (i : Nat) {x z : Str} (h : fa[i]? = some (.str x z) := by rfl) : ∃ t, mg x = some (.str z t) := by
  obtain ⟨h0, X, G⟩ := T.ex
  exact He.str_ok X G (T.c.fact i h)
theorem Ctx.c_SMALL {X : Cx} {pos : Pos} (T : Ctx X.K X.mg) (hg : Gl X "SMALL") : PE X (.Name "SMALL" pos) (tC (.str "abcdefghijklmnopqrstuvwxyz")) := by
  obtain ⟨t, e⟩ := T.str 0 (x := "SMALL") (z := "abcdefghijklmnopqrstuvwxyz")
  exact pe_glob hg e ⟨t, rfl⟩
theorem Ctx.c_DIGITS {X : Cx} {pos : Pos} (T : Ctx X.K X.mg) (hg : Gl X "DIGITS") : PE X (.Name "DIGITS" pos) (tC (.str "0123456789")) := by
  obtain ⟨t, e⟩ := T.str 1 (x := "DIGITS") (z := "0123456789")
  exact pe_glob hg e ⟨t, rfl⟩
theorem Ctx.c_HEX {X : Cx} {pos : Pos} (T : Ctx X.K X.mg) (hg : Gl X "HEX") : PE X (.Name "HEX" pos) (tC (.str "0123456789abcdef")) := by
  obtain ⟨t, e⟩ := T.str 2 (x := "HEX") (z := "0123456789abcdef")
  exact pe_glob hg e ⟨t, rfl⟩
theorem Ctx.c_ID_LENGTH {X : Cx} {pos : Pos} (T : Ctx X.K X.mg) (hg : Gl X "ID_LENGTH") : PE X (.Name "ID_LENGTH" pos) (tC (.int 16)) := by
  obtain ⟨t, e⟩ := T.int 3 (x := "ID_LENGTH") (n := 16)
  exact pe_glob hg e ⟨t, rfl⟩
theorem Ctx.c_MOST_SEGMENTS {X : Cx} {pos : Pos} (T : Ctx X.K X.mg) (hg : Gl X "MOST_SEGMENTS") : PE X (.Name "MOST_SEGMENTS" pos) (tC (.int 6)) := by
  obtain ⟨t, e⟩ := T.int 4 (x := "MOST_SEGMENTS") (n := 6)
  exact pe_glob hg e ⟨t, rfl⟩
theorem Ctx.c_MOST_REF_SEGMENTS {X : Cx} {pos : Pos} (T : Ctx X.K X.mg) (hg : Gl X "MOST_REF_SEGMENTS") : PE X (.Name "MOST_REF_SEGMENTS" pos) (tC (.int 5)) := by
  obtain ⟨t, e⟩ := T.int 5 (x := "MOST_REF_SEGMENTS") (n := 5)
  exact pe_glob hg e ⟨t, rfl⟩
theorem Ctx.c_MOST_FAR_SEGMENTS {X : Cx} {pos : Pos} (T : Ctx X.K X.mg) (hg : Gl X "MOST_FAR_SEGMENTS") : PE X (.Name "MOST_FAR_SEGMENTS" pos) (tC (.int 7)) := by
  obtain ⟨t, e⟩ := T.int 6 (x := "MOST_FAR_SEGMENTS") (n := 7)
  exact pe_glob hg e ⟨t, rfl⟩
theorem Ctx.c_FAR {X : Cx} {pos : Pos} (T : Ctx X.K X.mg) (hg : Gl X "FAR") : PE X (.Name "FAR" pos) (tC (.str "far")) := by
  obtain ⟨t, e⟩ := T.str 7 (x := "FAR") (z := "far")
  exact pe_glob hg e ⟨t, rfl⟩
theorem Ctx.c_MOST_SEGMENT {X : Cx} {pos : Pos} (T : Ctx X.K X.mg) (hg : Gl X "MOST_SEGMENT") : PE X (.Name "MOST_SEGMENT" pos) (tC (.int 12)) := by
  obtain ⟨t, e⟩ := T.int 8 (x := "MOST_SEGMENT") (n := 12)
  exact pe_glob hg e ⟨t, rfl⟩
theorem Ctx.c_MOST_TEXT {X : Cx} {pos : Pos} (T : Ctx X.K X.mg) (hg : Gl X "MOST_TEXT") : PE X (.Name "MOST_TEXT" pos) (tC (.int 2000)) := by
  obtain ⟨t, e⟩ := T.int 9 (x := "MOST_TEXT") (n := 2000)
  exact pe_glob hg e ⟨t, rfl⟩
theorem Ctx.g_has_only (T : Ctx K mg) : mg "has_only" = some (.ref (He.ga K "has_only")) := T.glo 10
theorem Ctx.g_is_id (T : Ctx K mg) : mg "is_id" = some (.ref (He.ga K "is_id")) := T.glo 11
theorem Ctx.g_is_segment (T : Ctx K mg) : mg "is_segment" = some (.ref (He.ga K "is_segment")) := T.glo 12
theorem Ctx.g_is_path (T : Ctx K mg) : mg "is_path" = some (.ref (He.ga K "is_path")) := T.glo 13
theorem Ctx.g_is_ref_segment (T : Ctx K mg) : mg "is_ref_segment" = some (.ref (He.ga K "is_ref_segment")) := T.glo 14
theorem Ctx.g_is_ref (T : Ctx K mg) : mg "is_ref" = some (.ref (He.ga K "is_ref")) := T.glo 15
theorem Ctx.g_is_author (T : Ctx K mg) : mg "is_author" = some (.ref (He.ga K "is_author")) := T.glo 16
theorem Ctx.g_is_text (T : Ctx K mg) : mg "is_text" = some (.ref (He.ga K "is_text")) := T.glo 17
theorem Ctx.g__law_cell_at (T : Ctx K mg) : mg "_law_cell_at" = some (.ref (He.ga K "_law_cell_at")) := T.glo 18
theorem Ctx.g__law_well (T : Ctx K mg) : mg "_law_well" = some (.ref (He.ga K "_law_well")) := T.glo 19
theorem Ctx.g__law_draw (T : Ctx K mg) : mg "_law_draw" = some (.ref (He.ga K "_law_draw")) := T.glo 20
theorem Ctx.g__law_pick (T : Ctx K mg) : mg "_law_pick" = some (.ref (He.ga K "_law_pick")) := T.glo 21
theorem Ctx.g__law_signs (T : Ctx K mg) : mg "_law_signs" = some (.ref (He.ga K "_law_signs")) := T.glo 22
theorem Ctx.g__law_all_signs (T : Ctx K mg) : mg "_law_all_signs" = some (.ref (He.ga K "_law_all_signs")) := T.glo 23
theorem Ctx.g__law_segment (T : Ctx K mg) : mg "_law_segment" = some (.ref (He.ga K "_law_segment")) := T.glo 24
theorem Ctx.g__law_path (T : Ctx K mg) : mg "_law_path" = some (.ref (He.ga K "_law_path")) := T.glo 25
theorem Ctx.g__law_text (T : Ctx K mg) : mg "_law_text" = some (.ref (He.ga K "_law_text")) := T.glo 26
theorem Ctx.g__law_id (T : Ctx K mg) : mg "_law_id" = some (.ref (He.ga K "_law_id")) := T.glo 27
theorem Ctx.g__law_only (T : Ctx K mg) : mg "_law_only" = some (.ref (He.ga K "_law_only")) := T.glo 28
theorem Ctx.g__law_due (T : Ctx K mg) : mg "_law_due" = some (.ref (He.ga K "_law_due")) := T.glo 29
theorem Ctx.g__law_good (T : Ctx K mg) : mg "_law_good" = some (.ref (He.ga K "_law_good")) := T.glo 30
theorem Ctx.g__law_bent (T : Ctx K mg) : mg "_law_bent" = some (.ref (He.ga K "_law_bent")) := T.glo 31
theorem Ctx.g_law (T : Ctx K mg) : mg "law" = some (.ref (He.ga K "law")) := T.glo 32
theorem Ctx.f_all (T : Ctx K mg) : mg "all" = none := T.fre 33
theorem Ctx.f_isinstance (T : Ctx K mg) : mg "isinstance" = none := T.fre 34
theorem Ctx.f_len (T : Ctx K mg) : mg "len" = none := T.fre 35
theorem Ctx.f_range (T : Ctx K mg) : mg "range" = none := T.fre 36
theorem Ctx.f_int (T : Ctx K mg) : mg "int" = none := T.fre 37
theorem Ctx.f_min (T : Ctx K mg) : mg "min" = none := T.fre 38
theorem Ctx.f_str (T : Ctx K mg) : mg "str" = none := T.fre 39
theorem Ctx.f_bool (T : Ctx K mg) : mg "bool" = none := T.fre 40
end
abbrev R : PySem.W.OpenRow := PySem.W.OpenLaw.row PySem.Challenge.rw_forkhaul_k01_words
abbrev hk : PySem.W.Hook := He.hookD 4 fa fn
def ob (s : PySem.W.SharedT) : He.AlD := He.obsDG 4 fa fn (HandSHeadRun.getT s)
theorem ob_eq (s : PySem.W.SharedT) : ob s = hk.obs s.abs := He.obsDG_eq (HandSHeadRun.getT_eq s)
theorem run (w : World) : HandSHeadRun.RunEq R (PySem.W.view R.prog [34]) hk ob 4000 loose w := by
  intro os
  kernel_rfl
end K01
namespace K01
open PySem PySem.Spec PyProof.Rows L2 Fk
section
variable {P : Program} {w : World} {K : PySem.W.Frag} {mg : Str → Option Value} {base : Heap}
/-! ### draws -/
def spDraw : Sp := fun vs H Q _ => ∃ (u : Addr) (n : Nat) (m : Int), vs = [.ref u, .int m] ∧ Wl H u (n + 1) ∧ 0 < m ∧ m ≤ 1000000 ∧
  ∀ (r : Int) (H' : Hp), 0 ≤ r → r < m → Wl H' u n → Kp u H H' → Q (.int r) H'
def N__law_draw : List Str := ["_law_well_here", "_law_size", "_law_found", "_law_seed", "_law_mixed"]
theorem sc__law_draw : FnScope N__law_draw ["_law_well_here", "_law_size"] (defScope s__law_draw) := ⟨rfl, rfl, rfl, by decide +kernel, rfl, by decide +kernel, by decide +kernel⟩
theorem ok__law_draw (T : Ctx K mg) : Ok P w K mg base 1 "_law_draw" ["_law_well_here", "_law_size"] spDraw := by
  obtain ⟨fd, F⟩ := T.c.def_ 10 (d := d__law_draw) rfl
  refine ⟨⟨fd, F.ok sc__law_draw (fun vs H Q E h => ?_) (fun cdv A outer s H vs Q E hr h => ?_), F.bindsN fun _ _ _ _ _ _ us hl => match us, hl with | [_, _], _ => rfl⟩, F.kp, T.g__law_draw⟩
  · obtain ⟨u, n, m, rfl, _⟩ := h
    rfl
  · obtain ⟨u, n, m, rfl, ⟨a, b, c, h1, ha, hc, hn⟩, hm, hm2, k⟩ := h
    have m0 : m ≠ 0 := by omega
    have ms : m.natAbs < 1073741824 := by omega
    refine ⟨_, PSs.nox (pss_cons (ps_if (pt_cmpR op_gt (pe_ix ix_list (pv 0) pe_int (fun _ _ => rfl)) pe_int (nomark _))
        (pss_cons (ps_set (i := 2) sc__law_draw.nd rfl (Or.inl rfl) (pe_op op_modN (pe_callTy call_int1 (by rfl) T.f_int (by decide +kernel) (pa_cons (pe_ix ix_list (pv 0) pe_int (fun _ _ => rfl)) pa_nil)) (pv 1)))
        (pss_cons (ps_asg (pe_op op_fdivN (pe_ix ix_list (pv 0) pe_int (fun _ _ => rfl)) (pv 1)) (pg_sub (pv 0) pe_int set_list))
        (pss_one (ps_ret (pv 2)))))
        pss_nil)
      (pss_cons (ps_asg (pe_op op_add (pe_ix ix_list (pv 0) pe_int (fun _ _ => rfl)) pe_int) (pg_sub (pv 0) pe_int set_list))
      (pss_cons (ps_set (i := 3) sc__law_draw.nd rfl (Or.inl rfl) (pe_op op_add (pe_op op_modN (pe_callTy call_int1 (by rfl) T.f_int (by decide +kernel) (pa_cons (pe_ix ix_list (pv 0) pe_int (fun _ _ => rfl)) pa_nil)) pe_int) (pe_op op_mul (pe_op op_modN (pe_callTy call_int1 (by rfl) T.f_int (by decide +kernel) (pa_cons (pe_op op_fdivW (pe_ix ix_list (pv 0) pe_int (fun _ _ => rfl)) pe_int) pa_nil)) pe_int) pe_int)))
      (pss_cons (ps_set (i := 4) sc__law_draw.nd rfl (Or.inl rfl) (pe_op op_modN (pe_callTy call_int1 (by rfl) T.f_int (by decide +kernel) (pa_cons (pe_op op_pow (pe_op op_add (pe_op op_add (pv 3) (pe_op op_mul pe_int (pe_ix ix_list (pv 0) pe_int (fun _ _ => rfl)))) pe_int) pe_int) pa_nil)) pe_int))
      (pss_cons (ps_set (i := 4) sc__law_draw.nd rfl (Or.inl rfl) (pe_op op_modN (pe_callTy call_int1 (by rfl) T.f_int (by decide +kernel) (pa_cons (pe_op op_mul (pv 4) (pe_op op_add (pe_op op_add (pe_op op_fdivN (pv 4) pe_int) pe_int) (pe_ix ix_list (pv 0) pe_int (fun _ _ => rfl)))) pa_nil)) pe_int))
      (pss_one (ps_ret (pe_op op_modN (pe_callTy call_int1 (by rfl) T.f_int (by decide +kernel) (pa_cons (pe_op op_modN (pe_callTy call_int1 (by rfl) T.f_int (by decide +kernel) (pa_cons (pe_op op_mul (pv 4) (pe_op op_add (pe_op op_fdivN (pv 4) pe_int) pe_int)) pa_nil)) pe_int) pa_nil)) (pv 1))))))))), ?_⟩
    refine ⟨_, rfl, u, _, _, .int a, rfl, rfl, SqL.of h1, rfl, _, _, rfl, rfl, _, rfl, ?_⟩
    refine ite2 (fun g => ?_) (fun g => ?_)
    · refine ⟨_, rfl, u, _, _, .int a, rfl, rfl, SqL.of h1, rfl, .inl ⟨_, rfl, _, rfl, _, _, rfl, rfl, m0, ?_⟩⟩
      refine ⟨_, rfl, u, _, _, .int a, rfl, rfl, SqL.of h1, rfl, _, rfl, _, _, rfl, rfl, ⟨m0, ms⟩, _, rfl, u, _, _, 0, rfl, rfl, h1, rfl, ?_⟩
      refine ⟨_, rfl, ?_⟩
      refine k _ _ (Int.fmod_nonneg_of_pos _ hm) (Int.fmod_lt_of_pos _ hm) ⟨_, _, _, upd_same, ?_, hc, by omega⟩ (Kp.refl _ _).put
      exact Int.fdiv_nonneg ha (by omega)
    · refine ⟨_, rfl, u, _, _, .int c, rfl, rfl, SqL.of h1, rfl, _, _, rfl, rfl, _, rfl, u, _, _, 2, rfl, rfl, h1, rfl, ?_⟩
      have h2 : upd H u (.lst ([V.int a, V.int b, V.int c].set 2 (V.int (c + 1)))) u = some (.lst [.int a, .int b, .int (c + 1)]) := upd_same
      generalize eH : upd H u (.lst ([V.int a, V.int b, V.int c].set 2 (V.int (c + 1)))) = H1 at h2
      have kp : Kp u H H1 := by
        rw [← eH]
        exact (Kp.refl _ _).put
      refine ⟨_, rfl, u, _, _, .int b, rfl, rfl, SqL.of h2, rfl, .inl ⟨_, rfl, _, _, rfl, rfl, (show (2147483549 : Int) ≠ 0 by decide), _, rfl, u, _, _, .int b, rfl, rfl, SqL.of h2, rfl, _, _, rfl, rfl, ⟨by decide, by decide +kernel⟩, .inl ⟨_, rfl, _, _, rfl, rfl, (show (80021 : Int) ≠ 0 by decide), _, _, rfl, rfl, .inr ⟨by decide, by decide⟩, _, _, rfl, rfl, ?_⟩⟩⟩
      have f1 := Int.fmod_nonneg_of_pos b (show (0 : Int) < 2147483549 by decide)
      have f2 := Int.fmod_lt_of_pos b (show (0 : Int) < 2147483549 by decide)
      have f3 := Int.fmod_nonneg_of_pos (b / 2147483549) (show (0 : Int) < 80021 by decide)
      have f4 := Int.fmod_lt_of_pos (b / 2147483549) (show (0 : Int) < 80021 by decide)
      generalize b.fmod 2147483549 = r1 at f1 f2 ⊢
      generalize (b / 2147483549).fmod 80021 = r2 at f3 f4 ⊢
      refine ⟨_, rfl, _, rfl, u, _, _, .int (c + 1), rfl, rfl, SqL.of h2, rfl, _, _, rfl, rfl, .inl ⟨by decide, by decide⟩, _, _, rfl, rfl, _, _, rfl, rfl, _, _, rfl, rfl, ⟨by decide, by decide, ?_⟩, .inl ⟨_, rfl, _, _, rfl, rfl, (show (2147483647 : Int) ≠ 0 by decide), ?_⟩⟩
      · omega
      have f5 := Int.fmod_nonneg_of_pos ((r1 + r2 * 37 + 5843 * (c + 1) + 17) ^ (5 : Int).toNat) (show (0 : Int) < 2147483647 by decide)
      have f6 := Int.fmod_lt_of_pos ((r1 + r2 * 37 + 5843 * (c + 1) + 17) ^ (5 : Int).toNat) (show (0 : Int) < 2147483647 by decide)
      dsimp only
      generalize ((r1 + r2 * 37 + 5843 * (c + 1) + 17) ^ (5 : Int).toNat).fmod 2147483647 = m1 at f5 f6 ⊢
      refine ⟨_, rfl, _, rfl, _, _, rfl, rfl, (show CDivN _ 953 from ⟨by decide, by decide⟩), _, _, rfl, rfl, _, rfl, u, _, _, .int (c + 1), rfl, rfl, SqL.of h2, rfl, _, _, rfl, rfl, _, _, rfl, rfl, .inl ⟨by omega, by omega⟩, .inl ⟨_, rfl, _, _, rfl, rfl, (show (2147483629 : Int) ≠ 0 by decide), ?_⟩⟩
      have f7 := Int.fmod_nonneg_of_pos (m1 * (m1.fdiv 953 + 40993 + (c + 1))) (show (0 : Int) < 2147483629 by decide)
      have f8 := Int.fmod_lt_of_pos (m1 * (m1.fdiv 953 + 40993 + (c + 1))) (show (0 : Int) < 2147483629 by decide)
      dsimp only
      generalize (m1 * (m1.fdiv 953 + 40993 + (c + 1))).fmod 2147483629 = m2 at f7 f8 ⊢
      refine ⟨_, rfl, _, rfl, _, _, rfl, rfl, (show CDivN _ 2011 from ⟨by decide, by decide⟩), _, _, rfl, rfl, _, _, rfl, rfl, .inl ⟨by omega, by omega⟩, .inl ⟨_, rfl, _, _, rfl, rfl, (show (2147483587 : Int) ≠ 0 by decide), .inl ⟨_, rfl, _, rfl, _, _, rfl, rfl, m0, ?_⟩⟩⟩
      exact k _ _ (Int.fmod_nonneg_of_pos _ hm) (Int.fmod_lt_of_pos _ hm) ⟨_, _, _, h2, ha, by omega, by omega⟩ kp
/-- one of some things -/
def spPick : Sp := fun vs H Q _ => ∃ (u p : Addr) (n : Nat) (xs : List V), vs = [.ref u, .ref p] ∧ Wl H u (n + 1) ∧ p ≠ u ∧ H p = some (.lst xs) ∧ xs ≠ [] ∧ xs.length ≤ 1000 ∧
  ∀ (x : V) (H' : Hp), x ∈ xs → Wl H' u n → Kp u H H' → Q x H'
theorem atI_mem {xs : List V} {r : Int} (h0 : 0 ≤ r) (h1 : r < xs.length) : ∃ x, x ∈ xs ∧ atI xs r = some x := by
  have hl : r.toNat < xs.length := by omega
  refine ⟨xs[r.toNat], List.getElem_mem hl, ?_⟩
  have e := atI_nat (xs := xs) (j := r.toNat) (v := xs[r.toNat]) (List.getElem?_eq_getElem hl)
  rw [Int.toNat_of_nonneg h0] at e
  exact e
def N__law_pick : List Str := ["_law_well_here", "_law_some"]
theorem sc__law_pick : FnScope N__law_pick ["_law_well_here", "_law_some"] (defScope s__law_pick) := ⟨rfl, rfl, rfl, by decide +kernel, rfl, by decide +kernel, by decide +kernel⟩
theorem ok__law_pick (T : Ctx K mg) : Ok P w K mg base 2 "_law_pick" ["_law_well_here", "_law_some"] spPick := by
  obtain ⟨fd, F⟩ := T.c.def_ 11 (d := d__law_pick) rfl
  refine ⟨⟨fd, F.ok sc__law_pick (fun vs H Q E h => ?_) (fun cdv A outer s H vs Q E hr h => ?_), F.bindsN fun _ _ _ _ _ _ us hl => match us, hl with | [_, _], _ => rfl⟩, F.kp, T.g__law_pick⟩
  · obtain ⟨u, p, n, xs, rfl, _⟩ := h
    rfl
  · obtain ⟨u, p, n, xs, rfl, hw, np, hp, ne, hl, k⟩ := h
    refine ⟨_, PSs.nox (pss_one (ps_ret (pe_ix ix_list (pv 1) (pe_own (ok__law_draw T) (hr.mono (by decide)) (by rfl) (pa_cons (pv 0) (pa_cons (pe_callB call_len_seq (by rfl) T.f_len PySem.boot_len (pa_cons (pv 1) pa_nil)) pa_nil))) (fun _ _ => rfl)))), ?_⟩
    have pos : 0 < xs.length := List.length_pos_iff.mpr ne
    refine ⟨_, rfl, _, rfl, _, rfl, p, _, rfl, .inl (SqL.of hp), u, n, _, rfl, hw, by omega, by omega, fun r H' h0 h1 hw' kp => ?_⟩
    obtain ⟨x, hx, ex⟩ := atI_mem h0 h1
    exact ⟨p, xs, r, x, rfl, rfl, SqL.of (kp p _ hp np), ex, k x H' hx hw' kp⟩
end
end K01
namespace K01
open PySem PySem.Spec PyProof.Rows L2 Fk TL
/-! ### texts -/
def only (t g : Str) : Bool := (tl t).all fun c => decide (c ∈ tl g)
def rng (t : Str) (a b : Int) : Bool := decide (a ≤ (t.length : Int)) && decide ((t.length : Int) ≤ b)
def occ (t s : Str) : Bool := !(Builtin.Str.occurrences t s 0 t.length 1).isEmpty
abbrev SMALL : Str := "abcdefghijklmnopqrstuvwxyz"
abbrev FIGS : Str := "0123456789"
def SEGS : Str := SMALL ++ FIGS ++ ("._-" : Str)
def REFS : Str := SMALL ++ FIGS ++ ("-" : Str)
def okc (c : Nat) : Bool := ((!decide ([c] < tl (" " : Str))) && !decide (tl ("~" : Str) < [c])) || decide (sg c = V.str "\n")
def parts (t : Str) : List Str := Txt.split t "/"
def fId : Option Str → Bool
  | none => false
  | some t => decide (V.int (t.length : Int) = V.int 16) && only t "0123456789abcdef"
def fSeg : Option Str → Bool
  | none => false
  | some t => rng t 1 12 && (only t SEGS && (!decide (V.str t = V.str ".") && !(occ t "..")))
def fPath : Option Str → Bool
  | none => false
  | some t => decide ((((parts t).map V.str).length : Int) ≤ 6) && (parts t).all fun s => fSeg (some s)
def fRseg (t : Str) : Bool := rng t 1 12 && only t REFS
def fRef : Option Str → Bool
  | none => false
  | some t => decide ((((parts t).map V.str).length : Int) ≤ if decide (V.str ((parts t).headD "") = V.str "far") = true then 7 else 5) && (parts t).all fRseg
def fAuth : Option Str → Bool
  | none => false
  | some t => rng t 1 12 && only t SMALL
def fText (most : Int) : Option Str → Bool
  | none => false
  | some t => !decide ((t.length : Int) > most) && (tl t).all okc
theorem fSeg_some (t : Str) : fSeg (some t) = (rng t 1 12 && (only t SEGS && (!decide (V.str t = V.str ".") && !(occ t "..")))) := rfl
theorem fPath_some (t : Str) : fPath (some t) = (decide ((((parts t).map V.str).length : Int) ≤ 6) && (parts t).all fun s => fSeg (some s)) := rfl
theorem fRef_some (t : Str) : fRef (some t) = (decide ((((parts t).map V.str).length : Int) ≤ if decide (V.str ((parts t).headD "") = V.str "far") = true then 7 else 5) && (parts t).all fRseg) := rfl
theorem fAuth_some (t : Str) : fAuth (some t) = (rng t 1 12 && only t SMALL) := rfl
theorem fText_some (m : Int) (t : Str) : fText m (some t) = (!decide ((t.length : Int) > m) && (tl t).all okc) := rfl
/-! ### things: texts, and others -/
def Asc (t : Str) : Prop := ∀ c ∈ tl t, c < 128
inductive Thg (K : PySem.W.Frag) (H : Hp) : V → Option Str → Prop where
  | str (t : Str) (h : t.length ≤ 100000) (a : Asc t) : Thg K H (.str t) (some t)
  | oth {x : V} {n : String} (h : TyX K H x (.type n)) (e : kitB n "str" = some false) : Thg K H x none
theorem Thg.isi {K : PySem.W.Frag} {H : Hp} {x : V} {o : Option Str} (h : Thg K H x o) : ∃ t, TyX K H x t ∧ PySem.W.kitOne K t (.type "str") = some o.isSome := by
  cases h with
  | str t h a => exact ⟨_, .base (.str t), kit_ty (show kitB "str" "str" = some true by decide +kernel)⟩
  | oth h e => exact ⟨_, h, kit_ty e⟩
def spIs (K : PySem.W.Frag) (f : Option Str → Bool) : Sp := fun vs H Q _ => ∃ (x : V) (o : Option Str), vs = [x] ∧ Thg K H x o ∧ ∀ H', Same H H' → Q (.bl (f o)) H'
theorem sz5 {n : Nat} (h : n ≤ 100000) : n ≤ sizeLine := Nat.le_trans h (by decide)
theorem joinL_le {S : List Nat} : ∀ {ps : List (List Nat)} {p : List Nat}, p ∈ ps → p.length ≤ (joinL S ps).length
  | [], _, h => by cases h
  | [q], p, h => by
    rw [List.mem_singleton.mp h]
    exact Nat.le_refl _
  | q :: r :: l, p, h => by
    show p.length ≤ (q ++ (S ++ joinL S (r :: l))).length
    rw [List.length_append, List.length_append]
    rcases List.mem_cons.mp h with e | h
    · rw [e]
      omega
    · have := joinL_le (S := S) h
      omega
theorem joinL_len {S : List Nat} : ∀ {ps : List (List Nat)}, 0 < S.length → ps.length ≤ (joinL S ps).length + 1
  | [], _ => Nat.zero_le _
  | [q], _ => by
    show 1 ≤ _
    omega
  | q :: r :: l, h => by
    show (r :: l).length + 1 ≤ (q ++ (S ++ joinL S (r :: l))).length + 1
    rw [List.length_append, List.length_append]
    have := joinL_len (S := S) (ps := r :: l) h
    omega
theorem parts_join (t : Str) : joinL (tl ("/" : Str)) ((parts t).map tl) = tl t := by
  rw [← tl_join]
  exact congrArg tl (StrLaws.join_split t "/")
theorem parts_le {t p : Str} (h : p ∈ parts t) : p.length ≤ t.length := by
  have := joinL_le (S := tl ("/" : Str)) (List.mem_map_of_mem (f := tl) h)
  rw [parts_join] at this
  exact this
theorem joinL_mem {S : List Nat} {c : Nat} : ∀ {ps : List (List Nat)} {p : List Nat}, p ∈ ps → c ∈ p → c ∈ joinL S ps
  | [], _, h, _ => by cases h
  | [q], p, h, hc => by
    rw [List.mem_singleton.mp h] at hc
    exact hc
  | q :: r :: l, p, h, hc => by
    show c ∈ q ++ (S ++ joinL S (r :: l))
    rw [List.mem_append, List.mem_append]
    rcases List.mem_cons.mp h with e | h
    · rw [e] at hc
      exact .inl hc
    · exact .inr (.inr (joinL_mem h hc))
theorem parts_mem {t p : Str} (h : p ∈ parts t) {c : Nat} (hc : c ∈ tl p) : c ∈ tl t := by
  have := joinL_mem (S := tl ("/" : Str)) (List.mem_map_of_mem (f := tl) h) hc
  rw [parts_join] at this
  exact this
theorem parts_asc {t p : Str} (h : p ∈ parts t) (a : Asc t) : Asc p := fun c hc => a c (parts_mem h hc)
theorem parts_len (t : Str) : (parts t).length ≤ t.length + 1 := by
  have := joinL_len (S := tl ("/" : Str)) (ps := (parts t).map tl) (by decide)
  rw [parts_join, List.length_map] at this
  exact this
section
variable {P : Program} {w : World} {K : PySem.W.Frag} {mg : Str → Option Value} {base : Heap}
def spOnly : Sp := fun vs H Q _ => ∃ t g : Str, vs = [.str t, .str g] ∧ t.length ≤ 100000 ∧ ∀ H', Same H H' → Q (.bl (only t g)) H'
theorem filter_yes {α : Type} (l : List α) : l.filter (fun _ => true) = l := by simp
def N_has_only : List Str := ["text", "signs", "sign"]
theorem sc_has_only : FnScope N_has_only ["text", "signs"] (defScope s_has_only) := ⟨rfl, rfl, rfl, by decide +kernel, rfl, by decide +kernel, by decide +kernel⟩
theorem ok_has_only (T : Ctx K mg) : Ok P w K mg base 1 "has_only" ["text", "signs"] spOnly := by
  obtain ⟨fd, F⟩ := T.c.def_ 0 (d := d_has_only) rfl
  refine ⟨⟨fd, F.ok sc_has_only (fun vs H Q E h => ?_) (fun cdv A outer s H vs Q E hr h => ?_), F.bindsN fun _ _ _ _ _ _ us hl => match us, hl with | [_, _], _ => rfl⟩, F.kp, T.g_has_only⟩
  · obtain ⟨t, g, rfl, _⟩ := h
    rfl
  · obtain ⟨t, g, rfl, ht, k⟩ := h
    refine ⟨_, PSs.nox (pss_one (ps_ret (pe_callB (cr_all rfl) (by rfl) T.f_all (by decide +kernel) (pa_cons (pe_lc (own := [("sign", 2)]) (g := gName 2) rfl sc_has_only.nd (pi_str (pv 0)) (blkOk_by (N := N_has_only) (sc := defScope s_has_only) (by decide +kernel)) (fun _ _ _ _ _ => pg_name (i := 2) sc_has_only.nd rfl (Or.inl rfl)) (fun _ _ _ _ _ => pts_nil) (fun _ _ _ _ _ => (pe_cmpR op_in_sign (pv 2) (pv 1) (by rfl)))) pa_nil)))), ?_⟩
    refine ⟨_, rfl, t, rfl, fun D hD => ?_⟩
    refine lc_same (i := 2) (walk_text (z := t)) (fun _ => true) (fun v => match v with | .str z => .bl (decide (z.cps.toList.all fun c => decide (c ∈ tl g))) | v => v) (fun _ _ => trivial) ?_ hD (fun x H1 Q1 hx s1 q1 => q1 H1 (Same.refl _)) (fun x H1 Q1 hx _ s1 q1 => ?_) fun H1 s1 h1 => ?_
    · rw [List.length_map]
      exact Nat.lt_of_le_of_lt ht (by decide)
    · obtain ⟨c, hc, rfl⟩ := List.mem_map.mp hx
      refine ⟨_, rfl, _, rfl, c, g, rfl, rfl, ?_⟩
      have e : decide (c ∈ g.cps.toList) = decide (((⟨#[c]⟩ : Str).cps.toList.all fun c => decide (c ∈ tl g)) = true) := by
        show decide (c ∈ tl g) = decide (([c].all fun c => decide (c ∈ tl g)) = true)
        simp
      rw [e]
      exact q1 H1 (Same.refl _)
    · refine ⟨D, (tl t).map fun c => decide (c ∈ tl g), rfl, ?_, ?_⟩
      · rw [filter_yes, List.map_map] at h1
        refine SqL.of (h1.trans ?_)
        rw [List.map_map]
        refine congrArg (fun l => some (HO.lst l)) (List.map_congr_left fun c _ => ?_)
        show V.bl (decide (([c].all fun c => decide (c ∈ tl g)) = true)) = V.bl (decide (c ∈ tl g))
        simp
      · have e : ((tl t).map fun c => decide (c ∈ tl g)).all id = only t g := by
          unfold only
          rw [List.all_map]
          rfl
        rw [e]
        exact k H1 s1
theorem fin {f v : Bool} {H H' : Hp} {Q : VK} (k : ∀ H', Same H H' → Q (.bl f) H') (s : Same H H') (e : f = v) : Q (.bl v) H' := by
  rw [← e]
  exact k H' s
theorem nb2 {b : Bool} (h : (!b) = true) : b = false := by
  cases b with
  | false => rfl
  | true => cases h
theorem nn2 {b : Bool} (h : ¬ (!b) = true) : b = true := by
  cases b with
  | true => rfl
  | false => exact absurd rfl h
def liftS (f : Str → Bool) : V → V
  | .str s => .bl (f s)
  | v => v
theorem lift_eq (f : Str → Bool) (l : List Str) : some (HO.lst (((l.map V.str).filter fun _ => true).map (liftS f))) = some (HO.lst ((l.map f).map V.bl)) := by
  rw [filter_yes, List.map_map, List.map_map]
  rfl
theorem sz7 {n : Nat} (h : n ≤ 100000) : n + 2 ≤ sizeLine := Nat.le_trans (Nat.add_le_add_right h 2) (by decide)
theorem parts_sz {t : Str} (h : t.length ≤ 100000) : ((parts t).map V.str).length < sizeLine := by
  rw [List.length_map]
  exact Nat.lt_of_le_of_lt (Nat.le_trans (parts_len t) (Nat.add_le_add_right h 1)) (by decide)
theorem parts_ne (t : Str) : parts t ≠ [] := fun e => by
  have h := parts_join t
  rw [e] at h
  have h2 : t = (⟨#[]⟩ : Str) := by
    obtain ⟨c⟩ := t
    have h3 : c.toList = [] := h.symm
    rw [Array.toList_eq_nil_iff.mp h3]
  rw [h2] at e
  exact absurd e (by decide +kernel)
theorem parts_hd (t : Str) : atI ((parts t).map V.str) 0 = some (V.str ((parts t).headD "")) := by
  cases e : parts t with
  | nil => exact absurd e (parts_ne t)
  | cons a l => exact atI_nat (j := 0) rfl
def N_is_id : List Str := ["thing"]
theorem sc_is_id : FnScope N_is_id ["thing"] (defScope s_is_id) := ⟨rfl, rfl, rfl, by decide +kernel, rfl, by decide +kernel, by decide +kernel⟩
theorem ok_is_id (T : Ctx K mg) : Ok P w K mg base 2 "is_id" ["thing"] (spIs K fId) := by
  obtain ⟨fd, F⟩ := T.c.def_ 1 (d := d_is_id) rfl
  refine ⟨⟨fd, F.ok sc_is_id (fun vs H Q E h => ?_) (fun cdv A outer s H vs Q E hr h => ?_), F.bindsN fun _ _ _ _ _ _ us hl => match us, hl with | [_], _ => rfl⟩, F.kp, T.g_is_id⟩
  · obtain ⟨x, o, rfl, _⟩ := h
    rfl
  · obtain ⟨x, o, rfl, hx, k⟩ := h
    refine ⟨_, PSs.nox (pss_one (ps_ret (pe_and (pe_callB call_isi (by rfl) T.f_isinstance (by decide +kernel) (pa_cons (pv 0) (pa_cons (pe_bltn (v := .ty "str") (u := .type "str") (by rfl) T.f_str (by decide +kernel) rfl) pa_nil))) (pe_and (pe_cmpR op_eq (pe_callB call_len_str (by rfl) T.f_len PySem.boot_len (pa_cons (pv 0) pa_nil)) (T.c_ID_LENGTH (by rfl)) (nomark _)) (pe_one (pe_own (ok_has_only T) (hr.mono (by decide)) (by rfl) (pa_cons (pv 0) (pa_cons (T.c_HEX (by rfl)) pa_nil)))))))), ?_⟩
    obtain ⟨ty, h1, h2⟩ := hx.isi
    refine ⟨_, rfl, x, _, ty, _, _, rfl, .ty "str", h1, h2, _, rfl, ?_⟩
    cases hx with
    | oth h e => exact iteF (k H (Same.refl H))
    | str t ht hasc =>
      refine iteT ⟨_, rfl, t, rfl, sz5 ht, rfl, _, rfl, ?_⟩
      refine ite2 (fun g => ?_) (fun g => ?_)
      · have e : fId (some t) = only t "0123456789abcdef" := by
          show (decide _ && _) = _
          rw [g, Bool.true_and]
        rw [e] at k
        exact ⟨_, rfl, t, _, rfl, ht, k⟩
      · have e : fId (some t) = false := by
          show (decide _ && _) = _
          rw [Bool.eq_false_iff.mpr g, Bool.false_and]
        rw [e] at k
        exact k H (Same.refl H)
def N_is_segment : List Str := ["thing"]
theorem sc_is_segment : FnScope N_is_segment ["thing"] (defScope s_is_segment) := ⟨rfl, rfl, rfl, by decide +kernel, rfl, by decide +kernel, by decide +kernel⟩
theorem ok_is_segment (T : Ctx K mg) : Ok P w K mg base 2 "is_segment" ["thing"] (spIs K fSeg) := by
  obtain ⟨fd, F⟩ := T.c.def_ 2 (d := d_is_segment) rfl
  refine ⟨⟨fd, F.ok sc_is_segment (fun vs H Q E h => ?_) (fun cdv A outer s H vs Q E hr h => ?_), F.bindsN fun _ _ _ _ _ _ us hl => match us, hl with | [_], _ => rfl⟩, F.kp, T.g_is_segment⟩
  · obtain ⟨x, o, rfl, _⟩ := h
    rfl
  · obtain ⟨x, o, rfl, hx, k⟩ := h
    refine ⟨_, PSs.nox (pss_cons (ps_if (PW.pt (pw_or (pt_not (pt_val (pe_callB call_isi (by rfl) T.f_isinstance (by decide +kernel) (pa_cons (pv 0) (pa_cons (pe_bltn (v := .ty "str") (u := .type "str") (by rfl) T.f_str (by decide +kernel) rfl) pa_nil))))) (pw_or1 (pt_not (pt_chain op_le op_le pe_int (pe_callB call_len_str (by rfl) T.f_len PySem.boot_len (pa_cons (pv 0) pa_nil)) (T.c_MOST_SEGMENT (by rfl)))))))
        (pss_one (ps_ret pe_bl))
        pss_nil)
      (pss_one (ps_ret (pe_and (pe_own (ok_has_only T) (hr.mono (by decide)) (by rfl) (pa_cons (pv 0) (pa_cons (pe_op op_add_str (pe_op op_add_str (T.c_SMALL (by rfl)) (T.c_DIGITS (by rfl))) pe_str) pa_nil))) (pe_and (pe_cmpR op_ne (pv 0) pe_str (nomark _)) (pe_one (pe_cmpR op_notin_str pe_str (pv 0) (by rfl)))))))), ?_⟩
    obtain ⟨ty, h1, h2⟩ := hx.isi
    refine ⟨_, rfl, x, _, ty, _, _, rfl, .ty "str", h1, h2, _, rfl, ?_⟩
    cases hx with
    | oth h e => exact iteT (k H (Same.refl H))
    | str t ht hasc =>
      refine iteF ⟨_, rfl, t, rfl, sz5 ht, _, _, rfl, rfl, _, rfl, ?_⟩
      refine ite2 (fun g1 => ?_) (fun g1 => ?_)
      · refine ⟨_, _, rfl, rfl, _, rfl, ?_⟩
        refine ite2 (fun g2 => ?_) (fun g2 => ?_)
        · refine fin k (Same.refl H) ?_
          rw [fSeg_some]
          unfold rng
          rw [g1, nb2 g2]
          rfl
        · refine ⟨_, rfl, _, _, rfl, rfl, (by decide +kernel), _, _, rfl, rfl, (by decide +kernel), t, _, rfl, ht, fun H' s' => ⟨_, rfl, ?_⟩⟩
          have g2' := nn2 g2
          refine ite2 (fun g3 => ?_) (fun g3 => ?_)
          · refine ⟨_, rfl, rfl, _, rfl, ?_⟩
            refine ite2 (fun g4 => ?_) (fun g4 => ?_)
            · refine ⟨_, rfl, _, _, rfl, rfl, ?_⟩
              refine fin k s' ?_
              rw [fSeg_some]
              unfold rng
              rw [g1, g2', show only t SEGS = true from g3, g4]
              rfl
            · refine fin k s' ?_
              rw [fSeg_some]
              unfold rng
              rw [g1, g2', show only t SEGS = true from g3, Bool.eq_false_iff.mpr g4]
              rfl
          · refine fin k s' ?_
            rw [fSeg_some]
            unfold rng
            rw [g1, g2', show only t SEGS = false from Bool.eq_false_iff.mpr g3]
            rfl
      · refine ⟨_, rfl, iteT (fin k (Same.refl H) ?_)⟩
        rw [fSeg_some]
        unfold rng
        rw [Bool.eq_false_iff.mpr g1]
        rfl
def N_is_path : List Str := ["thing", "segments", "one"]
theorem sc_is_path : FnScope N_is_path ["thing"] (defScope s_is_path) := ⟨rfl, rfl, rfl, by decide +kernel, rfl, by decide +kernel, by decide +kernel⟩
theorem ok_is_path (T : Ctx K mg) : Ok P w K mg base 3 "is_path" ["thing"] (spIs K fPath) := by
  obtain ⟨fd, F⟩ := T.c.def_ 3 (d := d_is_path) rfl
  refine ⟨⟨fd, F.ok sc_is_path (fun vs H Q E h => ?_) (fun cdv A outer s H vs Q E hr h => ?_), F.bindsN fun _ _ _ _ _ _ us hl => match us, hl with | [_], _ => rfl⟩, F.kp, T.g_is_path⟩
  · obtain ⟨x, o, rfl, _⟩ := h
    rfl
  · obtain ⟨x, o, rfl, hx, k⟩ := h
    refine ⟨_, PSs.nox (pss_cons (ps_if (pt_not (pt_val (pe_callB call_isi (by rfl) T.f_isinstance (by decide +kernel) (pa_cons (pv 0) (pa_cons (pe_bltn (v := .ty "str") (u := .type "str") (by rfl) T.f_str (by decide +kernel) rfl) pa_nil)))))
        (pss_one (ps_ret pe_bl))
        pss_nil)
      (pss_cons (ps_set (i := 1) sc_is_path.nd rfl (Or.inl rfl) (pe_split (pv 0) pe_str))
      (pss_one (ps_ret (pe_and (pe_cmpR op_le (pe_callB call_len_seq (by rfl) T.f_len PySem.boot_len (pa_cons (pv 1) pa_nil)) (T.c_MOST_SEGMENTS (by rfl)) (nomark _)) (pe_one (pe_callB (cr_all rfl) (by rfl) T.f_all (by decide +kernel) (pa_cons (pe_lc (own := [("one", 2)]) (g := gName 2) rfl sc_is_path.nd (pi_list (pv 1)) (blkOk_by (N := N_is_path) (sc := defScope s_is_path) (by decide +kernel)) (fun _ _ _ _ _ => pg_name (i := 2) sc_is_path.nd rfl (Or.inl rfl)) (fun _ _ _ _ _ => pts_nil) (fun _ _ _ _ _ => (pe_own (ok_is_segment T) (hr.mono (by decide)) (by rfl) (pa_cons (pv 2) pa_nil)))) pa_nil)))))))), ?_⟩
    obtain ⟨ty, h1, h2⟩ := hx.isi
    refine ⟨_, rfl, x, _, ty, _, _, rfl, .ty "str", h1, h2, _, rfl, ?_⟩
    cases hx with
    | oth h e => exact iteT (k H (Same.refl H))
    | str t ht hasc =>
      refine iteF ⟨_, rfl, ⟨_, rfl⟩, t, _, rfl, rfl, rfl, sz7 ht, fun p hp => ?_⟩
      have s1 : Same H (upd H p (.lst ((Txt.split t "/").map V.str))) := same_new hp
      have hp1 : upd H p (.lst ((Txt.split t "/").map V.str)) p = some (.lst ((parts t).map V.str)) := upd_same
      generalize upd H p (.lst ((Txt.split t "/").map V.str)) = H1 at s1 hp1 ⊢
      refine ⟨_, rfl, p, _, rfl, .inl (SqL.of hp1), _, _, rfl, rfl, _, rfl, ?_⟩
      refine ite2 (fun g1 => ?_) (fun g1 => ?_)
      · refine ⟨_, rfl, p, rfl, ⟨_, SqL.of hp1⟩, fun D hD => ?_⟩
        refine lc_same (i := 2) (walk_list (K := K) (a := p) (xs := (parts t).map V.str)) (fun _ => true) (liftS fun s => fSeg (some s)) (fun H2 s2 => SqL.of (s2 _ _ hp1)) (parts_sz ht) hD (fun x H2 Q2 hx s2 q2 => q2 H2 (Same.refl _)) (fun x H2 Q2 hx _ s2 q2 => ?_) fun H2 s2 h2 => ?_
        · obtain ⟨c, hc, rfl⟩ := List.mem_map.mp hx
          exact ⟨_, rfl, _, some c, rfl, .str c (Nat.le_trans (parts_le hc) ht) (parts_asc hc hasc), q2⟩
        · refine ⟨D, (parts t).map fun s => fSeg (some s), rfl, SqL.of (h2.trans (lift_eq _ _)), ?_⟩
          refine fin k (s1.trans s2) ?_
          rw [fPath_some]
          rw [g1, Bool.true_and, List.all_map]
          rfl
      · refine fin k s1 ?_
        rw [fPath_some]
        rw [Bool.eq_false_iff.mpr g1]
        rfl
def spRseg : Sp := fun vs H Q _ => ∃ t : Str, vs = [.str t] ∧ t.length ≤ 100000 ∧ ∀ H', Same H H' → Q (.bl (fRseg t)) H'
def N_is_ref_segment : List Str := ["thing"]
theorem sc_is_ref_segment : FnScope N_is_ref_segment ["thing"] (defScope s_is_ref_segment) := ⟨rfl, rfl, rfl, by decide +kernel, rfl, by decide +kernel, by decide +kernel⟩
theorem ok_is_ref_segment (T : Ctx K mg) : Ok P w K mg base 2 "is_ref_segment" ["thing"] spRseg := by
  obtain ⟨fd, F⟩ := T.c.def_ 4 (d := d_is_ref_segment) rfl
  refine ⟨⟨fd, F.ok sc_is_ref_segment (fun vs H Q E h => ?_) (fun cdv A outer s H vs Q E hr h => ?_), F.bindsN fun _ _ _ _ _ _ us hl => match us, hl with | [_], _ => rfl⟩, F.kp, T.g_is_ref_segment⟩
  · obtain ⟨t, rfl, _⟩ := h
    rfl
  · obtain ⟨t, rfl, ht, k⟩ := h
    refine ⟨_, PSs.nox (pss_one (ps_ret (pe_and (pe_chain op_le op_le pe_int (pe_callB call_len_str (by rfl) T.f_len PySem.boot_len (pa_cons (pv 0) pa_nil)) (T.c_MOST_SEGMENT (by rfl))) (pe_one (pe_own (ok_has_only T) (hr.mono (by decide)) (by rfl) (pa_cons (pv 0) (pa_cons (pe_op op_add_str (pe_op op_add_str (T.c_SMALL (by rfl)) (T.c_DIGITS (by rfl))) pe_str) pa_nil))))))), ?_⟩
    refine ⟨_, rfl, t, rfl, sz5 ht, _, _, rfl, rfl, _, rfl, ?_⟩
    refine ite2 (fun g1 => ?_) (fun g1 => ?_)
    · refine ⟨_, _, rfl, rfl, _, rfl, ?_⟩
      refine ite2 (fun g2 => ?_) (fun g2 => ?_)
      · refine ⟨_, rfl, _, _, rfl, rfl, (by decide +kernel), _, _, rfl, rfl, (by decide +kernel), t, _, rfl, ht, fun H' s' => ?_⟩
        refine fin k s' ?_
        unfold fRseg rng
        rw [g1, g2]
        rfl
      · refine fin k (Same.refl H) ?_
        unfold fRseg rng
        rw [g1, Bool.eq_false_iff.mpr g2]
        rfl
    · refine ⟨_, rfl, iteF (fin k (Same.refl H) ?_)⟩
      unfold fRseg rng
      rw [Bool.eq_false_iff.mpr g1]
      rfl
def N_is_ref : List Str := ["thing", "segments", "most", "one"]
theorem sc_is_ref : FnScope N_is_ref ["thing"] (defScope s_is_ref) := ⟨rfl, rfl, rfl, by decide +kernel, rfl, by decide +kernel, by decide +kernel⟩
theorem ok_is_ref (T : Ctx K mg) : Ok P w K mg base 3 "is_ref" ["thing"] (spIs K fRef) := by
  obtain ⟨fd, F⟩ := T.c.def_ 5 (d := d_is_ref) rfl
  refine ⟨⟨fd, F.ok sc_is_ref (fun vs H Q E h => ?_) (fun cdv A outer s H vs Q E hr h => ?_), F.bindsN fun _ _ _ _ _ _ us hl => match us, hl with | [_], _ => rfl⟩, F.kp, T.g_is_ref⟩
  · obtain ⟨x, o, rfl, _⟩ := h
    rfl
  · obtain ⟨x, o, rfl, hx, k⟩ := h
    refine ⟨_, PSs.nox (pss_cons (ps_if (pt_not (pt_val (pe_callB call_isi (by rfl) T.f_isinstance (by decide +kernel) (pa_cons (pv 0) (pa_cons (pe_bltn (v := .ty "str") (u := .type "str") (by rfl) T.f_str (by decide +kernel) rfl) pa_nil)))))
        (pss_one (ps_ret pe_bl))
        pss_nil)
      (pss_cons (ps_set (i := 1) sc_is_ref.nd rfl (Or.inl rfl) (pe_split (pv 0) pe_str))
      (pss_cons (ps_set (i := 2) sc_is_ref.nd rfl (Or.inl rfl) (pe_ifExp (pt_cmpR op_eq (pe_ix ix_list (pv 1) pe_int (fun _ _ => rfl)) (T.c_FAR (by rfl)) (nomark _)) (T.c_MOST_FAR_SEGMENTS (by rfl)) (T.c_MOST_REF_SEGMENTS (by rfl))))
      (pss_one (ps_ret (pe_and (pe_cmpR op_le (pe_callB call_len_seq (by rfl) T.f_len PySem.boot_len (pa_cons (pv 1) pa_nil)) (pv 2) (nomark _)) (pe_one (pe_callB (cr_all rfl) (by rfl) T.f_all (by decide +kernel) (pa_cons (pe_lc (own := [("one", 3)]) (g := gName 3) rfl sc_is_ref.nd (pi_list (pv 1)) (blkOk_by (N := N_is_ref) (sc := defScope s_is_ref) (by decide +kernel)) (fun _ _ _ _ _ => pg_name (i := 3) sc_is_ref.nd rfl (Or.inl rfl)) (fun _ _ _ _ _ => pts_nil) (fun _ _ _ _ _ => (pe_own (ok_is_ref_segment T) (hr.mono (by decide)) (by rfl) (pa_cons (pv 3) pa_nil)))) pa_nil))))))))), ?_⟩
    obtain ⟨ty, h1, h2⟩ := hx.isi
    refine ⟨_, rfl, x, _, ty, _, _, rfl, .ty "str", h1, h2, _, rfl, ?_⟩
    cases hx with
    | oth h e => exact iteT (k H (Same.refl H))
    | str t ht hasc =>
      refine iteF ⟨_, rfl, ⟨_, rfl⟩, t, _, rfl, rfl, rfl, sz7 ht, fun p hp => ?_⟩
      have s1 : Same H (upd H p (.lst ((Txt.split t "/").map V.str))) := same_new hp
      have hp1 : upd H p (.lst ((Txt.split t "/").map V.str)) p = some (.lst ((parts t).map V.str)) := upd_same
      generalize upd H p (.lst ((Txt.split t "/").map V.str)) = H1 at s1 hp1 ⊢
      refine ⟨_, rfl, p, _, _, _, rfl, rfl, SqL.of hp1, parts_hd t, rfl, _, rfl, ?_⟩
      refine ite2 (fun g1 => ?_) (fun g1 => ?_)
      all_goals
        refine ⟨_, rfl, p, _, rfl, .inl (SqL.of hp1), _, rfl, _, _, rfl, rfl, _, rfl, ?_⟩
        refine ite2 (fun g2 => ?_) (fun g2 => ?_)
        · refine ⟨_, rfl, p, rfl, ⟨_, SqL.of hp1⟩, fun D hD => ?_⟩
          refine lc_same (i := 3) (walk_list (K := K) (a := p) (xs := (parts t).map V.str)) (fun _ => true) (liftS fRseg) (fun H2 s2 => SqL.of (s2 _ _ hp1)) (parts_sz ht) hD (fun x H2 Q2 hx s2 q2 => q2 H2 (Same.refl _)) (fun x H2 Q2 hx _ s2 q2 => ?_) fun H2 s2 h2 => ?_
          · obtain ⟨c, hc, rfl⟩ := List.mem_map.mp hx
            exact ⟨_, rfl, c, rfl, Nat.le_trans (parts_le hc) ht, q2⟩
          · refine ⟨D, (parts t).map fRseg, rfl, SqL.of (h2.trans (lift_eq _ _)), ?_⟩
            refine fin k (s1.trans s2) ?_
            rw [fRef_some]
            first | rw [if_pos g1, g2, Bool.true_and, List.all_map] | rw [if_neg g1, g2, Bool.true_and, List.all_map]
            rfl
        · refine fin k s1 ?_
          rw [fRef_some]
          first | rw [if_pos g1, Bool.eq_false_iff.mpr g2] | rw [if_neg g1, Bool.eq_false_iff.mpr g2]
          rfl
def N_is_author : List Str := ["thing"]
theorem sc_is_author : FnScope N_is_author ["thing"] (defScope s_is_author) := ⟨rfl, rfl, rfl, by decide +kernel, rfl, by decide +kernel, by decide +kernel⟩
theorem ok_is_author (T : Ctx K mg) : Ok P w K mg base 2 "is_author" ["thing"] (spIs K fAuth) := by
  obtain ⟨fd, F⟩ := T.c.def_ 6 (d := d_is_author) rfl
  refine ⟨⟨fd, F.ok sc_is_author (fun vs H Q E h => ?_) (fun cdv A outer s H vs Q E hr h => ?_), F.bindsN fun _ _ _ _ _ _ us hl => match us, hl with | [_], _ => rfl⟩, F.kp, T.g_is_author⟩
  · obtain ⟨x, o, rfl, _⟩ := h
    rfl
  · obtain ⟨x, o, rfl, hx, k⟩ := h
    refine ⟨_, PSs.nox (pss_one (ps_ret (pe_and (pe_callB call_isi (by rfl) T.f_isinstance (by decide +kernel) (pa_cons (pv 0) (pa_cons (pe_bltn (v := .ty "str") (u := .type "str") (by rfl) T.f_str (by decide +kernel) rfl) pa_nil))) (pe_and (pe_chain op_le op_le pe_int (pe_callB call_len_str (by rfl) T.f_len PySem.boot_len (pa_cons (pv 0) pa_nil)) (T.c_MOST_SEGMENT (by rfl))) (pe_one (pe_own (ok_has_only T) (hr.mono (by decide)) (by rfl) (pa_cons (pv 0) (pa_cons (T.c_SMALL (by rfl)) pa_nil)))))))), ?_⟩
    obtain ⟨ty, h1, h2⟩ := hx.isi
    refine ⟨_, rfl, x, _, ty, _, _, rfl, .ty "str", h1, h2, _, rfl, ?_⟩
    cases hx with
    | oth h e => exact iteF (k H (Same.refl H))
    | str t ht hasc =>
      refine iteT ⟨_, rfl, t, rfl, sz5 ht, _, _, rfl, rfl, _, rfl, ?_⟩
      refine ite2 (fun g1 => ?_) (fun g1 => ?_)
      · refine ⟨_, _, rfl, rfl, _, rfl, ?_⟩
        refine ite2 (fun g2 => ?_) (fun g2 => ?_)
        · refine ⟨_, rfl, t, _, rfl, ht, fun H' s' => ?_⟩
          refine fin k s' ?_
          rw [fAuth_some]
          unfold rng
          rw [g1, g2]
          rfl
        · refine fin k (Same.refl H) ?_
          rw [fAuth_some]
          unfold rng
          rw [g1, Bool.eq_false_iff.mpr g2]
          rfl
      · refine ⟨_, rfl, iteF (fin k (Same.refl H) ?_)⟩
        rw [fAuth_some]
        unfold rng
        rw [Bool.eq_false_iff.mpr g1]
        rfl
def spText (K : PySem.W.Frag) : Sp := fun vs H Q _ => ∃ (x : V) (m : Int) (o : Option Str), vs = [x, .int m] ∧ Thg K H x o ∧ ∀ H', Same H H' → Q (.bl (fText m o)) H'
def N_is_text : List Str := ["thing", "most", "sign"]
theorem sc_is_text : FnScope N_is_text ["thing", "most"] (defScope s_is_text) := ⟨rfl, rfl, rfl, by decide +kernel, rfl, by decide +kernel, by decide +kernel⟩
theorem ok_is_text (T : Ctx K mg) : ∃ fd, FnOk P w K mg base CX0 1 (He.ga K "is_text") fd ["thing", "most"] (spText K) ∧ (∃ ds, Vals [.int 2000] ds ∧ Binds K fd ["thing", "most"] ds) ∧ PySem.W.keepIn K (.ref (He.ga K "is_text")) = true := by
  obtain ⟨fd, F⟩ := T.c.def_ 7 (d := d_is_text) rfl
  refine ⟨fd, F.ok sc_is_text (fun vs H Q E h => ?_) (fun cdv A outer s H vs Q E hr h => ?_), FunD.binds1 (ps := ["thing", "most"]) F 1 0 (by simp [He.DefD.dvs, d_is_text]) rfl fun T kV doc pm an cdv ct us its h1 h2 => ?_, F.kp⟩
  · obtain ⟨x, m, o, rfl, _⟩ := h
    rfl
  · obtain ⟨x, m, o, rfl, hx, k⟩ := h
    refine ⟨_, PSs.nox (pss_cons (ps_if (PW.pt (pw_or (pt_not (pt_val (pe_callB call_isi (by rfl) T.f_isinstance (by decide +kernel) (pa_cons (pv 0) (pa_cons (pe_bltn (v := .ty "str") (u := .type "str") (by rfl) T.f_str (by decide +kernel) rfl) pa_nil))))) (pw_or1 (pt_cmpR op_gt (pe_callB call_len_str (by rfl) T.f_len PySem.boot_len (pa_cons (pv 0) pa_nil)) (pv 1) (nomark _)))))
        (pss_one (ps_ret pe_bl))
        pss_nil)
      (pss_one (ps_ret (pe_callB (cr_all rfl) (by rfl) T.f_all (by decide +kernel) (pa_cons (pe_lc (own := [("sign", 2)]) (g := gName 2) rfl sc_is_text.nd (pi_str (pv 0)) (blkOk_by (N := N_is_text) (sc := defScope s_is_text) (by decide +kernel)) (fun _ _ _ _ _ => pg_name (i := 2) sc_is_text.nd rfl (Or.inl rfl)) (fun _ _ _ _ _ => pts_nil) (fun _ _ _ _ _ => (pe_or (pe_chain op_le_str op_le_str pe_str (pv 2) pe_str) (pe_one (pe_cmpR op_eq (pv 2) pe_str (nomark _)))))) pa_nil))))), ?_⟩
    obtain ⟨ty, h1, h2⟩ := hx.isi
    refine ⟨_, rfl, x, _, ty, _, _, rfl, .ty "str", h1, h2, _, rfl, ?_⟩
    cases hx with
    | oth h e => exact iteT (k H (Same.refl H))
    | str t ht hasc =>
      refine iteF ⟨_, rfl, t, rfl, sz5 ht, _, rfl, _, _, rfl, rfl, _, rfl, ?_⟩
      refine ite2 (fun g1 => ?_) (fun g1 => ?_)
      · refine fin k (Same.refl H) ?_
        rw [fText_some]
        rw [g1]
        rfl
      · refine ⟨_, rfl, t, rfl, fun D hD => ?_⟩
        refine lc_same (i := 2) (walk_text (z := t)) (fun _ => true) (liftS fun s => (tl s).all okc) (fun _ _ => trivial) ?_ hD (fun x H2 Q2 hx s2 q2 => q2 H2 (Same.refl _)) (fun x H2 Q2 hx _ s2 q2 => ?_) fun H2 s2 h2 => ?_
        · rw [List.length_map]
          exact Nat.lt_of_le_of_lt ht (by decide)
        · obtain ⟨c, hc, rfl⟩ := List.mem_map.mp hx
          refine ⟨_, rfl, _, _, rfl, rfl, _, rfl, ?_⟩
          have e0 : ∀ b, okc c = b → liftS (fun s => (tl s).all okc) (sg c) = V.bl b := fun b e => by
            show V.bl ([c].all okc) = V.bl b
            simp [e]
          refine ite2 (fun g2 => ?_) (fun g2 => ?_)
          · refine ⟨_, _, rfl, rfl, _, rfl, ?_⟩
            refine ite2 (fun g3 => ?_) (fun g3 => ?_)
            · rw [e0 true (by unfold okc; rw [show (!decide ([c] < tl (" " : Str))) = true from g2, show (!decide (tl ("~" : Str) < [c])) = true from g3]; rfl)] at q2
              exact q2 H2 (Same.refl _)
            · refine ⟨_, rfl, rfl, ?_⟩
              rw [e0 (decide (sg c = V.str "\n")) (by unfold okc; rw [show (!decide ([c] < tl (" " : Str))) = true from g2, show (!decide (tl ("~" : Str) < [c])) = false from Bool.eq_false_iff.mpr g3]; rfl)] at q2
              exact q2 H2 (Same.refl _)
          · refine ⟨_, rfl, iteF ⟨_, rfl, rfl, ?_⟩⟩
            rw [e0 (decide (sg c = V.str "\n")) (by unfold okc; rw [show (!decide ([c] < tl (" " : Str))) = false from Bool.eq_false_iff.mpr g2]; rfl)] at q2
            exact q2 H2 (Same.refl _)
        · refine ⟨D, (tl t).map okc, rfl, SqL.of (h2.trans ?_), ?_⟩
          · rw [filter_yes, List.map_map, List.map_map]
            refine congrArg (fun l => some (HO.lst l)) (List.map_congr_left fun c _ => ?_)
            show V.bl ([c].all okc) = V.bl (okc c)
            simp
          · refine fin k s2 ?_
            rw [fText_some]
            rw [Bool.eq_false_iff.mpr g1, List.all_map]
            rfl
  · match us, h1, its, h2 with
    | [a], _, [b], _ => exact ⟨_, rfl, rfl⟩
end
end K01
namespace K01
open PySem PySem.Spec PyProof.Rows L2 Fk TL
/-! ### mathematics of texts -/
theorem joinL_ones (cs : List Nat) : joinL [] (cs.map fun c => [c]) = cs := by
  induction cs with
  | nil => rfl
  | cons a l ih =>
    cases l with
    | nil => rfl
    | cons b r =>
      show [a] ++ ([] ++ joinL [] ((b :: r).map fun c => [c])) = a :: b :: r
      rw [ih]
      rfl
theorem join_ones (cs : List Nat) : tl (Txt.join ("" : Str) (cs.map fun c => (⟨#[c]⟩ : Str))) = cs := by
  rw [join_eq, tl_join, List.map_map]
  exact joinL_ones cs
theorem len_tl (t : Str) : t.length = (tl t).length := rfl
def LETTERS : Str := "abcdefghijklmnopqrstuvwxyz0123456789_-"
theorem letters_in : ∀ c ∈ tl LETTERS, c ∈ tl SEGS ∧ c ≠ 46 ∧ c ≠ 47 := by decide +kernel
theorem only_of {t g : Str} (h : ∀ c ∈ tl t, c ∈ tl g) : only t g = true := by
  unfold only
  rw [List.all_eq_true]
  intro c hc
  exact decide_eq_true (h c hc)
/-- at most one dot -/
def Dot1 (l : List Nat) : Prop := 46 ∉ l ∨ ∃ a b, l = a ++ 46 :: b ∧ 46 ∉ a ∧ 46 ∉ b
theorem dot_no {l : List Nat} (h : Dot1 l) {i : Nat} (h1 : l[i]? = some 46) (h2 : l[i + 1]? = some 46) : False := by
  rcases h with h | ⟨a, b, rfl, ha, hb⟩
  · exact h (List.mem_of_getElem? h1)
  · have key : ∀ j, (a ++ 46 :: b)[j]? = some 46 → j = a.length := fun j hj => by
      rcases Nat.lt_trichotomy j a.length with hlt | heq | hgt
      · rw [List.getElem?_append_left hlt] at hj
        exact absurd (List.mem_of_getElem? hj) ha
      · exact heq
      · rw [List.getElem?_append_right (Nat.le_of_lt hgt)] at hj
        obtain ⟨m, hm⟩ : ∃ m, j - a.length = m + 1 := ⟨j - a.length - 1, by omega⟩
        rw [hm, List.getElem?_cons_succ] at hj
        exact absurd (List.mem_of_getElem? hj) hb
    have e1 := key _ h1
    have e2 := key _ h2
    omega
theorem occ_no {t : Str} (h : Dot1 (tl t)) : occ t ".." = false := by
  rw [Bool.eq_false_iff]
  intro e
  obtain ⟨i, hi, hs⟩ := (StrLaws.found_iff t "..").mp e
  have h1 : t.cps.extract i (i + 2) = #[46, 46] := eq_of_beq hs
  have h2 : ((tl t).drop i).take 2 = [46, 46] := by
    have := congrArg Array.toList h1
    rw [Array.toList_extract] at this
    simpa [List.extract] using this
  have g : ∀ k, k < 2 → (tl t)[i + k]? = [46, 46][k]? := fun k hk => by
    rw [← h2, List.getElem?_take_of_lt hk, List.getElem?_drop]
  exact dot_no h (g 0 (by decide)) (g 1 (by decide))
theorem seg_ok {t : Str} (h1 : 1 ≤ t.length) (h2 : t.length ≤ 12) (h3 : ∀ c ∈ tl t, c ∈ tl SEGS) (h4 : Dot1 (tl t)) (h5 : t ≠ ".") : fSeg (some t) = true := by
  rw [fSeg_some, only_of h3, occ_no h4]
  unfold rng
  have e : decide (V.str t = V.str ".") = false := decide_eq_false fun q => h5 (V.str.inj q)
  rw [decide_eq_true (show (1 : Int) ≤ (t.length : Int) by omega), decide_eq_true (show (t.length : Int) ≤ 12 by omega), e]
  rfl
theorem mem_ones {g : Str} : ∀ {ys : List V}, (∀ y ∈ ys, ∃ c, c ∈ tl g ∧ y = sg c) → ∃ cs : List Nat, ys = cs.map sg ∧ ∀ c ∈ cs, c ∈ tl g
  | [], _ => ⟨[], rfl, fun c h => by cases h⟩
  | y :: ys, h => by
    obtain ⟨c, hc, e⟩ := h y (List.mem_cons_self ..)
    obtain ⟨cs, e2, h2⟩ := mem_ones (ys := ys) fun z hz => h z (List.mem_cons_of_mem _ hz)
    refine ⟨c :: cs, by rw [e, e2]; rfl, fun d hd => ?_⟩
    rcases List.mem_cons.mp hd with rfl | hd
    · exact hc
    · exact h2 d hd
theorem sum_ones (cs : List Nat) : ((cs.map fun c => (⟨#[c]⟩ : Str)).map (·.length)).sum = cs.length := by
  induction cs with
  | nil => rfl
  | cons a l ih =>
    show 1 + ((l.map fun c => (⟨#[c]⟩ : Str)).map (·.length)).sum = l.length + 1
    rw [ih]
    omega
theorem cut_hi (t : Str) (j : Nat) : tl (cutS t none (some (j : Int))) = (tl t).take j := by
  show ((tl t).drop 0).take (HT.sIx t.length t.length (some (j : Int)) - 0) = _
  rw [HT.sIx_nat, List.drop_zero, Nat.sub_zero, len_tl]
  by_cases h : j ≤ (tl t).length
  · rw [Nat.min_eq_left h]
  · rw [Nat.min_eq_right (by omega), List.take_length, List.take_of_length_le (by omega)]
theorem cut_lo (t : Str) (j : Nat) : tl (cutS t (some (j : Int)) none) = (tl t).drop j := by
  show ((tl t).drop (HT.sIx t.length 0 (some (j : Int)))).take (t.length - HT.sIx t.length 0 (some (j : Int))) = _
  rw [HT.sIx_nat, len_tl]
  by_cases h : j ≤ (tl t).length
  · rw [Nat.min_eq_left h, List.take_of_length_le (by rw [List.length_drop]; omega)]
  · rw [Nat.min_eq_right (by omega), List.drop_length, List.drop_eq_nil_of_le (by omega), List.take_nil]
theorem dot_in : 46 ∈ tl SEGS := by decide +kernel
section
variable {P : Program} {w : World} {K : PySem.W.Frag} {mg : Str → Option Value} {base : Heap}
def spCell (K : PySem.W.Frag) : Sp := fun vs H Q _ => ∃ (a : Addr) (ns : List Int) (j : Int), vs = [.ref a, .int j] ∧ SqL K H a (ns.map V.int) ∧ 0 ≤ j ∧ ∀ n : Int, Q (.int n) H
def N__law_cell_at : List Str := ["_law_script", "_law_k"]
theorem sc__law_cell_at : FnScope N__law_cell_at ["_law_script", "_law_k"] (defScope s__law_cell_at) := ⟨rfl, rfl, rfl, by decide +kernel, rfl, by decide +kernel, by decide +kernel⟩
theorem ok__law_cell_at (T : Ctx K mg) : Ok P w K mg base 1 "_law_cell_at" ["_law_script", "_law_k"] (spCell K) := by
  obtain ⟨fd, F⟩ := T.c.def_ 8 (d := d__law_cell_at) rfl
  refine ⟨⟨fd, F.ok sc__law_cell_at (fun vs H Q E h => ?_) (fun cdv A outer s H vs Q E hr h => ?_), F.bindsN fun _ _ _ _ _ _ us hl => match us, hl with | [_, _], _ => rfl⟩, F.kp, T.g__law_cell_at⟩
  · obtain ⟨a, ns, j, rfl, _⟩ := h
    rfl
  · obtain ⟨a, ns, j, rfl, hS, hj, k⟩ := h
    refine ⟨_, PSs.nox (pss_cons (ps_if (pt_cmpR op_lt (pv 1) (pe_callB call_len_seq (by rfl) T.f_len PySem.boot_len (pa_cons (pv 0) pa_nil)) (nomark _))
        (pss_one (ps_ret (pe_ix ix_list (pv 0) (pv 1) (fun _ _ => rfl))))
        pss_nil)
      (pss_one (ps_ret pe_int))), ?_⟩
    refine ⟨_, rfl, _, rfl, a, _, rfl, .inl hS, _, _, rfl, rfl, _, rfl, ?_⟩
    refine ite2 (fun g => ?_) (fun g => k 0)
    have g' : j < ((ns.map V.int).length : Int) := of_decide_eq_true g
    have hl : j.toNat < ns.length := by
      rw [List.length_map] at g'
      omega
    refine ⟨_, rfl, _, rfl, a, _, _, .int ns[j.toNat], rfl, rfl, hS, ?_, k _⟩
    have e := atI_nat (xs := ns.map V.int) (j := j.toNat) (v := .int ns[j.toNat]) (by rw [List.getElem?_map, List.getElem?_eq_getElem hl]; rfl)
    rw [Int.toNat_of_nonneg hj] at e
    exact e
def spWell : Sp := fun vs H Q _ => ∃ n : Int, vs = [.int n] ∧ ∀ (p : Addr) (H' : Hp), H p = none → Same H H' → Wl H' p 1000000 → Q (.ref p) H'
def N__law_well : List Str := ["_law_cell"]
theorem sc__law_well : FnScope N__law_well ["_law_cell"] (defScope s__law_well) := ⟨rfl, rfl, rfl, by decide +kernel, rfl, by decide +kernel, by decide +kernel⟩
theorem ok__law_well (T : Ctx K mg) : Ok P w K mg base 1 "_law_well" ["_law_cell"] spWell := by
  obtain ⟨fd, F⟩ := T.c.def_ 9 (d := d__law_well) rfl
  refine ⟨⟨fd, F.ok sc__law_well (fun vs H Q E h => ?_) (fun cdv A outer s H vs Q E hr h => ?_), F.bindsN fun _ _ _ _ _ _ us hl => match us, hl with | [_], _ => rfl⟩, F.kp, T.g__law_well⟩
  · obtain ⟨n, rfl, _⟩ := h
    rfl
  · obtain ⟨n, rfl, k⟩ := h
    refine ⟨_, PSs.nox (pss_one (ps_ret (pe_lst (pa_cons (pe_op op_mul (pv 0) (pe_callTy call_int1 (by rfl) T.f_int (by decide +kernel) (pa_cons (pe_cmpR op_ge (pv 0) (pe_op op_pow pe_int pe_int) (nomark _)) pa_nil))) (pa_cons (pv 0) (pa_cons pe_int pa_nil)))))), ?_⟩
    refine ⟨_, rfl, _, rfl, _, _, rfl, rfl, ⟨by decide, by decide, by decide⟩, _, _, rfl, rfl, .inr ⟨_, rfl, _, _, rfl, rfl, .inr ?_, _, rfl, (by show 3 ≤ sizeLine; decide), fun p hp => ?_⟩⟩
    · cases decide (n ≥ 10 ^ (18 : Int).toNat) <;> exact ⟨by decide, by decide⟩
    · refine k p _ hp (same_new hp) ⟨_, _, _, upd_same, ?_, by decide, by decide⟩
      by_cases h : n ≥ 10 ^ (18 : Int).toNat
      · rw [decide_eq_true h]
        show 0 ≤ n * 1
        have : (10 : Int) ^ (18 : Int).toNat ≥ 0 := by decide
        omega
      · rw [decide_eq_false h]
        show 0 ≤ n * 0
        omega
def spSigns : Sp := fun vs H Q _ => ∃ (u : Addr) (g : Str) (lo hi : Int) (n : Nat), vs = [.ref u, .str g, .int lo, .int hi] ∧ 0 ≤ lo ∧ lo ≤ hi ∧ hi ≤ 100 ∧ 0 < g.length ∧ g.length ≤ 1000 ∧ Wl H u (n + 101) ∧
  ∀ (t : Str) (H' : Hp), lo ≤ (t.length : Int) → (t.length : Int) ≤ hi → (∀ c ∈ tl t, c ∈ tl g) → Wl H' u n → Kp u H H' → Q (.str t) H'
def N__law_signs : List Str := ["_law_well_here", "_law_signs_here", "_law_least", "_law_most", "_law_k"]
theorem sc__law_signs : FnScope N__law_signs ["_law_well_here", "_law_signs_here", "_law_least", "_law_most"] (defScope s__law_signs) := ⟨rfl, rfl, rfl, by decide +kernel, rfl, by decide +kernel, by decide +kernel⟩
theorem ok__law_signs (T : Ctx K mg) : Ok P w K mg base 2 "_law_signs" ["_law_well_here", "_law_signs_here", "_law_least", "_law_most"] spSigns := by
  obtain ⟨fd, F⟩ := T.c.def_ 12 (d := d__law_signs) rfl
  refine ⟨⟨fd, F.ok sc__law_signs (fun vs H Q E h => ?_) (fun cdv A outer s H vs Q E hr h => ?_), F.bindsN fun _ _ _ _ _ _ us hl => match us, hl with | [_, _, _, _], _ => rfl⟩, F.kp, T.g__law_signs⟩
  · obtain ⟨u, g, lo, hi, n, rfl, _⟩ := h
    rfl
  · obtain ⟨u, g, lo, hi, n, rfl, h0, h1, h2, g0, g1, hw, k⟩ := h
    refine ⟨_, PSs.nox (pss_one (ps_ret (pe_join pe_str (pe_lc (own := [("_law_k", 4)]) (g := gName 4) rfl sc__law_signs.nd (pi_range1 (by rfl) T.f_range (pa_cons (pe_op op_add (pv 2) (pe_own (ok__law_draw T) (hr.mono (by decide)) (by rfl) (pa_cons (pv 0) (pa_cons (pe_op op_add (pe_op op_sub (pv 3) (pv 2)) pe_int) pa_nil)))) pa_nil)) (blkOk_by (N := N__law_signs) (sc := defScope s__law_signs) (by decide +kernel)) (fun _ _ _ _ _ => pg_name (i := 4) sc__law_signs.nd rfl (Or.inl rfl)) (fun _ _ _ _ _ => pts_nil) (fun _ _ _ _ _ => (pe_ix ix_str (pv 1) (pe_own (ok__law_draw T) (hr.mono (by decide)) (by rfl) (pa_cons (pv 0) (pa_cons (pe_callB call_len_str (by rfl) T.f_len PySem.boot_len (pa_cons (pv 1) pa_nil)) pa_nil))) (fun _ _ => rfl))))))), ?_⟩
    have hw1 : Wl H u ((n + 100) + 1) := hw
    refine ⟨⟨_, rfl⟩, _, rfl, _, rfl, _, rfl, _, rfl, _, _, rfl, rfl, _, _, rfl, rfl, u, n + 100, _, rfl, hw1, by omega, by omega, fun r H1 r0 r1 hw2 kp1 => ?_⟩
    refine ⟨_, _, rfl, rfl, _, rfl, by omega, by omega, fun D hD => ?_⟩
    have hN : (lo + r).toNat ≤ 100 := by omega
    refine lc_wl (i := 4) (N := (lo + r).toNat) walk_range (fun _ _ _ _ y => y.1) (fun y => ∃ c, c ∈ tl g ∧ y = sg c) (u := u) (n := n) (k := 1) (hw2.le (by omega)) (Nat.lt_of_le_of_lt hN (by decide)) hD (fun x H2 m Q2 hw3 kp2 q2 => ?_) fun H2 ys kp2 hw3 hD2 hl hP => ?_
    · refine ⟨_, rfl, _, rfl, _, rfl, g, rfl, Nat.le_trans g1 (by decide), u, m, _, rfl, hw3, by omega, by omega, fun r2 H3 r20 r21 hw4 kp3 => ?_⟩
      have hr2 : r2.toNat < (tl g).length := by
        rw [← len_tl]
        omega
      have e := atI_nat (xs := tl g) (j := r2.toNat) (v := (tl g)[r2.toNat]) (List.getElem?_eq_getElem hr2)
      rw [Int.toNat_of_nonneg r20] at e
      exact ⟨g, r2, (tl g)[r2.toNat], rfl, rfl, Nat.le_trans g1 (by decide), e, q2 _ _ ⟨_, List.getElem_mem hr2, rfl⟩ hw4 kp3⟩
    · obtain ⟨cs, rfl, hcs⟩ := mem_ones hP
      rw [List.length_map] at hl
      have ej := join_ones cs
      refine ⟨_, D, cs.map fun c => (⟨#[c]⟩ : Str), rfl, rfl, .inl (SqL.of (hD2.trans (by rw [List.map_map]; rfl))), ?_, k _ _ ?_ ?_ ?_ hw3 (kp1.trans kp2)⟩
      · rw [sum_ones, List.length_map]
        show cs.length + cs.length * 0 ≤ 16777216
        omega
      · rw [len_tl, ej]
        omega
      · rw [len_tl, ej]
        omega
      · intro c hc
        rw [ej] at hc
        exact hcs c hc
def FOUND : Str := " !\"#$&'()*+,-./0123456789:;<=>?@ABCDEFGHIJKLMNOPQRSTUVWXYZ[]^_`abcdefghijklmnopqrstuvwxyz{|}~"
def ALLS : Str := FOUND ++ ("\\" : Str) ++ ("\n" : Str)
def spAll : Sp := fun vs H Q _ => vs = [] ∧ Q (.str ALLS) H
def N__law_all_signs : List Str := ["_law_found"]
theorem sc__law_all_signs : FnScope N__law_all_signs [] (defScope s__law_all_signs) := ⟨rfl, rfl, rfl, by decide +kernel, rfl, by decide +kernel, by decide +kernel⟩
theorem ok__law_all_signs (T : Ctx K mg) : Ok P w K mg base 1 "_law_all_signs" [] spAll := by
  obtain ⟨fd, F⟩ := T.c.def_ 13 (d := d__law_all_signs) rfl
  refine ⟨⟨fd, F.ok sc__law_all_signs (fun vs H Q E h => ?_) (fun cdv A outer s H vs Q E hr h => ?_), F.bindsN fun _ _ _ _ _ _ us hl => match us, hl with | [], _ => rfl⟩, F.kp, T.g__law_all_signs⟩
  · obtain ⟨rfl, _⟩ := h
    rfl
  · obtain ⟨rfl, k⟩ := h
    refine ⟨_, PSs.nox (pss_cons (ps_set (i := 0) sc__law_all_signs.nd rfl (Or.inl rfl) pe_str)
      (pss_one (ps_ret (pe_op op_add_str (pe_op op_add_str (pv 0) pe_str) pe_str)))), ?_⟩
    exact ⟨_, rfl, _, _, rfl, rfl, (by decide +kernel), _, _, rfl, rfl, (by decide +kernel), k⟩
theorem mem3 {x : V} {a b c : Int} (h : x ∈ [V.int a, V.int b, V.int c]) : x = .int a ∨ x = .int b ∨ x = .int c := by
  rcases List.mem_cons.mp h with h | h
  · exact .inl h
  · rcases List.mem_cons.mp h with h | h
    · exact .inr (.inl h)
    · exact .inr (.inr (List.mem_singleton.mp h))
def spSeg : Sp := fun vs H Q _ => ∃ (u : Addr) (n : Nat), vs = [.ref u] ∧ Wl H u (n + 104) ∧ ∀ (t : Str) (H' : Hp), fSeg (some t) = true → t.length ≤ 12 → 47 ∉ tl t → Wl H' u n → Kp u H H' → Q (.str t) H'
def N__law_segment : List Str := ["_law_well_here", "_law_letters", "_law_text_here", "_law_spot"]
theorem sc__law_segment : FnScope N__law_segment ["_law_well_here"] (defScope s__law_segment) := ⟨rfl, rfl, rfl, by decide +kernel, rfl, by decide +kernel, by decide +kernel⟩
theorem ok__law_segment (T : Ctx K mg) : Ok P w K mg base 3 "_law_segment" ["_law_well_here"] spSeg := by
  obtain ⟨fd, F⟩ := T.c.def_ 14 (d := d__law_segment) rfl
  refine ⟨⟨fd, F.ok sc__law_segment (fun vs H Q E h => ?_) (fun cdv A outer s H vs Q E hr h => ?_), F.bindsN fun _ _ _ _ _ _ us hl => match us, hl with | [_], _ => rfl⟩, F.kp, T.g__law_segment⟩
  · obtain ⟨u, n, rfl, _⟩ := h
    rfl
  · obtain ⟨u, n, rfl, hw, k⟩ := h
    refine ⟨_, PSs.nox (pss_cons (ps_set (i := 1) sc__law_segment.nd rfl (Or.inl rfl) pe_str)
      (pss_cons (ps_set (i := 2) sc__law_segment.nd rfl (Or.inl rfl) (pe_own (ok__law_signs T) (hr.mono (by decide)) (by rfl) (pa_cons (pv 0) (pa_cons (pv 1) (pa_cons pe_int (pa_cons (pe_own (ok__law_pick T) (hr.mono (by decide)) (by rfl) (pa_cons (pv 0) (pa_cons (pe_lst (pa_cons pe_int (pa_cons pe_int (pa_cons pe_int pa_nil)))) pa_nil))) pa_nil))))))
      (pss_cons (ps_if (PW.pt (pw_and (pt_cmpR op_lt (pe_callB call_len_str (by rfl) T.f_len PySem.boot_len (pa_cons (pv 2) pa_nil)) pe_int (nomark _)) (pw_and1 (pt_cmpR op_eq (pe_own (ok__law_draw T) (hr.mono (by decide)) (by rfl) (pa_cons (pv 0) (pa_cons pe_int pa_nil))) pe_int (nomark _)))))
        (pss_cons (ps_set (i := 3) sc__law_segment.nd rfl (Or.inl rfl) (pe_own (ok__law_draw T) (hr.mono (by decide)) (by rfl) (pa_cons (pv 0) (pa_cons (pe_op op_add (pe_callB call_len_str (by rfl) T.f_len PySem.boot_len (pa_cons (pv 2) pa_nil)) pe_int) pa_nil))))
        (pss_one (ps_set (i := 2) sc__law_segment.nd rfl (Or.inl rfl) (pe_op op_add_str (pe_op op_add_str (pe_slice sl_str (pv 2) po_none (po_some (pv 3))) pe_str) (pe_slice sl_str (pv 2) (po_some (pv 3)) po_none)))))
        pss_nil)
      (pss_one (ps_ret (pv 2)))))), ?_⟩
    refine ⟨_, rfl, _, rfl, _, rfl, (by show 3 ≤ sizeLine; decide), fun p hp => ?_⟩
    have hw0 : Wl H u ((n + 103) + 1) := hw
    refine ⟨u, p, n + 103, _, rfl, hw0.new hp, hw.ne hp, upd_same, (by simp), (by decide), fun x H1 hx hw1 kp1 => ?_⟩
    obtain ⟨m, rfl, m1, m2⟩ : ∃ m : Int, x = .int m ∧ 1 ≤ m ∧ m ≤ 12 := by
      rcases mem3 hx with rfl | rfl | rfl
      · exact ⟨_, rfl, by decide, by decide⟩
      · exact ⟨_, rfl, by decide, by decide⟩
      · exact ⟨_, rfl, by decide, by decide⟩
    refine ⟨u, LETTERS, 1, m, n + 2, rfl, by decide, m1, by omega, by decide, by decide, hw1.le (by omega), fun t H2 t1 t2 tc hw2 kp2 => ?_⟩
    have kp : Kp u H H2 := ((Kp.refl _ _).new hp).trans (kp1.trans kp2)
    have ok0 : fSeg (some t) = true := seg_ok (by omega) (by omega) (fun c hc => (letters_in c (tc c hc)).1) (.inl fun h => (letters_in 46 (tc 46 h)).2.1 rfl) fun e => by
      rw [e] at tc
      exact (letters_in 46 (tc 46 (by decide))).2.1 rfl
    have sl0 : 47 ∉ tl t := fun h => (letters_in 47 (tc 47 h)).2.2 rfl
    refine ⟨_, rfl, t, rfl, Nat.le_trans (show t.length ≤ 100 by omega) (by decide), _, _, rfl, rfl, _, rfl, ?_⟩
    refine ite2 (fun q1 => ?_) (fun q1 => ?_)
    · have q1' : (t.length : Int) < 12 := of_decide_eq_true q1
      refine ⟨_, rfl, u, n + 1, _, rfl, hw2, by decide, by decide, fun r H3 r0 r1 hw3 kp3 => ?_⟩
      refine ⟨rfl, _, rfl, ?_⟩
      refine ite2 (fun q2 => ?_) (fun q2 => ?_)
      · refine ⟨_, rfl, _, rfl, t, rfl, Nat.le_trans (show t.length ≤ 100 by omega) (by decide), _, _, rfl, rfl, u, n, _, rfl, hw3, by omega, by omega, fun r2 H4 s0 s1 hw4 kp4 => ?_⟩
        have z1 : t.length ≤ sizeLine := Nat.le_trans (show t.length ≤ 100 by omega) (by decide)
        obtain ⟨j, rfl⟩ : ∃ j : Nat, r2 = (j : Int) := ⟨r2.toNat, by omega⟩
        have ea : tl (cutS t none (some (j : Int))) = (tl t).take j := cut_hi t j
        have eb : tl (cutS t (some (j : Int)) none) = (tl t).drop j := cut_lo t j
        have la : (cutS t none (some (j : Int))).length ≤ 12 := Nat.le_trans (cutS_length _ _ _) (by omega)
        have lb : (cutS t (some (j : Int)) none).length ≤ 12 := Nat.le_trans (cutS_length _ _ _) (by omega)
        refine ⟨_, rfl, _, rfl, _, rfl, t, rfl, z1, _, _, rfl, rfl, Nat.le_trans (Nat.add_le_add la (show ("." : Str).length ≤ 1 by decide)) (by decide), _, rfl, _, rfl, _, rfl, t, rfl, z1, _, _, rfl, rfl, ?_, ?_⟩
        · have l2 : (cutS t none (some (j : Int)) ++ ("." : Str)).length ≤ 13 := by
            rw [len_tl, tl_append, List.length_append]
            show (cutS t none (some (j : Int))).length + 1 ≤ 13
            omega
          exact Nat.le_trans (Nat.add_le_add l2 lb) (by decide)
        · have et : tl (cutS t none (some (j : Int)) ++ ("." : Str) ++ cutS t (some (j : Int)) none) = (tl t).take j ++ 46 :: (tl t).drop j := by
            rw [tl_append, tl_append, ea, eb, List.append_assoc]
            rfl
          have el : (cutS t none (some (j : Int)) ++ ("." : Str) ++ cutS t (some (j : Int)) none).length = t.length + 1 := by
            rw [len_tl, et, List.length_append, List.length_cons, List.length_take, List.length_drop, len_tl]
            have : j ≤ (tl t).length := by
              rw [← len_tl]
              omega
            omega
          have hm : ∀ c ∈ (tl t).take j ++ 46 :: (tl t).drop j, c = 46 ∨ c ∈ tl t := fun c hc => by
            rcases List.mem_append.mp hc with h | h
            · exact .inr (List.mem_of_mem_take h)
            · rcases List.mem_cons.mp h with h | h
              · exact .inl h
              · exact .inr (List.mem_of_mem_drop h)
          refine ⟨_, rfl, k _ _ (seg_ok (by omega) (by omega) (fun c hc => ?_) ?_ fun e => ?_) (by omega) (fun h => ?_) hw4 (kp.trans (kp3.trans kp4))⟩
          · rw [et] at hc
            rcases hm c hc with rfl | h
            · exact dot_in
            · exact (letters_in c (tc c h)).1
          · rw [et]
            exact .inr ⟨_, _, rfl, fun h => (letters_in 46 (tc 46 (List.mem_of_mem_take h))).2.1 rfl, fun h => (letters_in 46 (tc 46 (List.mem_of_mem_drop h))).2.1 rfl⟩
          · have := congrArg Str.length e
            rw [el] at this
            have h1 : ("." : Str).length = 1 := by decide
            omega
          · rw [et] at h
            rcases hm 47 h with e | h
            · cases e
            · exact sl0 h
      · exact ⟨_, rfl, k t H3 ok0 (by omega) sl0 (hw3.le (by omega)) (kp.trans kp3)⟩
    · exact ⟨_, rfl, k t H2 ok0 (by omega) sl0 (hw2.le (by omega)) kp⟩
theorem mem_strs {R : Str → Prop} : ∀ {ys : List V}, (∀ y ∈ ys, ∃ s, y = .str s ∧ R s) → ∃ ss : List Str, ys = ss.map V.str ∧ ∀ s ∈ ss, R s
  | [], _ => ⟨[], rfl, fun c h => by cases h⟩
  | y :: ys, h => by
    obtain ⟨c, e, hc⟩ := h y (List.mem_cons_self ..)
    obtain ⟨cs, e2, h2⟩ := mem_strs (R := R) (ys := ys) fun z hz => h z (List.mem_cons_of_mem _ hz)
    refine ⟨c :: cs, by rw [e, e2]; rfl, fun d hd => ?_⟩
    rcases List.mem_cons.mp hd with rfl | hd
    · exact hc
    · exact h2 d hd
theorem sum_le {k : Nat} : ∀ {ss : List Str}, (∀ s ∈ ss, s.length ≤ k) → (ss.map (·.length)).sum ≤ ss.length * k
  | [], _ => Nat.zero_le _
  | s :: ss, h => by
    show s.length + (ss.map (·.length)).sum ≤ (ss.length + 1) * k
    have h1 := h s (List.mem_cons_self ..)
    have h2 := sum_le (k := k) (ss := ss) fun z hz => h z (List.mem_cons_of_mem _ hz)
    rw [Nat.succ_mul]
    omega
theorem joinL_bound {S : List Nat} {k : Nat} : ∀ {ps : List (List Nat)}, (∀ p ∈ ps, p.length ≤ k) → (joinL S ps).length ≤ ps.length * (k + S.length)
  | [], _ => Nat.zero_le _
  | [p], h => by
    show p.length ≤ 1 * (k + S.length)
    have := h p (List.mem_cons_self ..)
    omega
  | p :: q :: r, h => by
    show (p ++ (S ++ joinL S (q :: r))).length ≤ ((q :: r).length + 1) * (k + S.length)
    have h1 := h p (List.mem_cons_self ..)
    have h2 := joinL_bound (S := S) (k := k) (ps := q :: r) fun z hz => h z (List.mem_cons_of_mem _ hz)
    rw [List.length_append, List.length_append, Nat.succ_mul]
    omega
theorem join_len {y : Str} {k : Nat} {ss : List Str} (h : ∀ s ∈ ss, s.length ≤ k) : (Txt.join y ss).length ≤ ss.length * (k + y.length) := by
  rw [len_tl, join_eq, tl_join]
  have := joinL_bound (S := tl y) (k := k) (ps := ss.map tl) fun p hp => by
    obtain ⟨s, hs, rfl⟩ := List.mem_map.mp hp
    exact h s hs
  rw [List.length_map] at this
  exact this
theorem joinL_chars {S : List Nat} {R : Nat → Prop} (hS : ∀ c ∈ S, R c) : ∀ {ps : List (List Nat)}, (∀ p ∈ ps, ∀ c ∈ p, R c) → ∀ c ∈ joinL S ps, R c
  | [], _, c, h => by cases h
  | [p], h, c, hc => h p (List.mem_cons_self ..) c hc
  | p :: q :: r, h, c, hc => by
    rcases List.mem_append.mp (show c ∈ p ++ (S ++ joinL S (q :: r)) from hc) with hc | hc
    · exact h p (List.mem_cons_self ..) c hc
    · rcases List.mem_append.mp hc with hc | hc
      · exact hS c hc
      · exact joinL_chars hS (ps := q :: r) (fun z hz => h z (List.mem_cons_of_mem _ hz)) c hc
theorem join_chars {y : Str} {R : Nat → Prop} {ss : List Str} (hy : ∀ c ∈ tl y, R c) (h : ∀ s ∈ ss, ∀ c ∈ tl s, R c) : ∀ c ∈ tl (Txt.join y ss), R c := by
  rw [join_eq, tl_join]
  refine joinL_chars hy fun p hp => ?_
  obtain ⟨s, hs, rfl⟩ := List.mem_map.mp hp
  exact h s hs
theorem only_iff {t g : Str} (h : only t g = true) : ∀ c ∈ tl t, c ∈ tl g := fun c hc => of_decide_eq_true (List.all_eq_true.mp h c hc)
theorem segs_asc : ∀ c ∈ tl SEGS, c < 128 := by decide +kernel
theorem seg_asc {t : Str} (h : fSeg (some t) = true) : Asc t := fun c hc => by
  rw [fSeg_some] at h
  have h2 := (Bool.and_eq_true_iff.mp (Bool.and_eq_true_iff.mp h).2).1
  exact segs_asc c (only_iff h2 c hc)
def spPath : Sp := fun vs H Q _ => ∃ (u : Addr) (n : Nat), vs = [.ref u] ∧ Wl H u (n + 626) ∧ ∀ (t : Str) (H' : Hp), fPath (some t) = true → t.length ≤ 2000 → Asc t → Wl H' u n → Kp u H H' → Q (.str t) H'
def N__law_path : List Str := ["_law_well_here", "_law_k"]
theorem sc__law_path : FnScope N__law_path ["_law_well_here"] (defScope s__law_path) := ⟨rfl, rfl, rfl, by decide +kernel, rfl, by decide +kernel, by decide +kernel⟩
theorem ok__law_path (T : Ctx K mg) : Ok P w K mg base 4 "_law_path" ["_law_well_here"] spPath := by
  obtain ⟨fd, F⟩ := T.c.def_ 15 (d := d__law_path) rfl
  refine ⟨⟨fd, F.ok sc__law_path (fun vs H Q E h => ?_) (fun cdv A outer s H vs Q E hr h => ?_), F.bindsN fun _ _ _ _ _ _ us hl => match us, hl with | [_], _ => rfl⟩, F.kp, T.g__law_path⟩
  · obtain ⟨u, n, rfl, _⟩ := h
    rfl
  · obtain ⟨u, n, rfl, hw, k⟩ := h
    refine ⟨_, PSs.nox (pss_one (ps_ret (pe_join pe_str (pe_lc (own := [("_law_k", 1)]) (g := gName 1) rfl sc__law_path.nd (pi_range1 (by rfl) T.f_range (pa_cons (pe_op op_add pe_int (pe_own (ok__law_draw T) (hr.mono (by decide)) (by rfl) (pa_cons (pv 0) (pa_cons (pe_own (ok__law_pick T) (hr.mono (by decide)) (by rfl) (pa_cons (pv 0) (pa_cons (pe_lst (pa_cons pe_int (pa_cons pe_int (pa_cons pe_int pa_nil)))) pa_nil))) pa_nil)))) pa_nil)) (blkOk_by (N := N__law_path) (sc := defScope s__law_path) (by decide +kernel)) (fun _ _ _ _ _ => pg_name (i := 1) sc__law_path.nd rfl (Or.inl rfl)) (fun _ _ _ _ _ => pts_nil) (fun _ _ _ _ _ => (pe_own (ok__law_segment T) (hr.mono (by decide)) (by rfl) (pa_cons (pv 0) pa_nil))))))), ?_⟩
    refine ⟨⟨_, rfl⟩, _, rfl, _, rfl, (by show 3 ≤ sizeLine; decide), fun p hp => ?_⟩
    have hw0 : Wl H u ((n + 625) + 1) := hw
    refine ⟨u, p, n + 625, _, rfl, hw0.new hp, hw.ne hp, upd_same, (by simp), (by decide), fun x H1 hx hw1 kp1 => ?_⟩
    obtain ⟨m, rfl, m1, m2⟩ : ∃ m : Int, x = .int m ∧ 1 ≤ m ∧ m ≤ 6 := by
      rcases mem3 hx with rfl | rfl | rfl
      · exact ⟨_, rfl, by decide, by decide⟩
      · exact ⟨_, rfl, by decide, by decide⟩
      · exact ⟨_, rfl, by decide, by decide⟩
    refine ⟨u, n + 624, _, rfl, hw1, by omega, by omega, fun r H2 r0 r1 hw2 kp2 => ?_⟩
    refine ⟨_, _, rfl, rfl, _, rfl, by omega, by omega, fun D hD => ?_⟩
    have kp : Kp u H H2 := ((Kp.refl _ _).new hp).trans (kp1.trans kp2)
    have hN : (1 + r).toNat ≤ 6 := by omega
    have hN1 : 1 ≤ (1 + r).toNat := by omega
    refine lc_wl (i := 1) (N := (1 + r).toNat) walk_range (fun _ _ _ _ y => y.1) (fun y => ∃ s, y = .str s ∧ (fSeg (some s) = true ∧ s.length ≤ 12 ∧ 47 ∉ tl s)) (u := u) (n := n) (k := 104) (hw2.le (by omega)) (Nat.lt_of_le_of_lt hN (by decide)) hD (fun x H3 m3 Q3 hw3 kp3 q3 => ?_) fun H3 ys kp3 hw3 hD3 hl hP => ?_
    · exact ⟨_, rfl, u, m3, rfl, hw3, fun t H4 t1 t2 t3 hw4 kp4 => q3 _ _ ⟨t, rfl, t1, t2, t3⟩ hw4 kp4⟩
    · obtain ⟨ss, rfl, hss⟩ := mem_strs hP
      rw [List.length_map] at hl
      have hs12 := sum_le (k := 12) fun s hs => (hss s hs).2.1
      have hne : ss ≠ [] := fun e => by
        rw [e] at hl
        exact absurd hl (by show ¬ 0 = _; omega)
      have ep : parts (Txt.join ("/" : Str) ss) = ss := split_join (s := 47) (S := []) rfl (by decide +kernel) hne fun s hs => (hss s hs).2.2
      refine ⟨_, D, ss, rfl, rfl, .inl (SqL.of hD3), ?_, k _ _ ?_ ?_ ?_ hw3 (kp.trans kp3)⟩
      · show (ss.map (·.length)).sum + ss.length * 1 ≤ 16777216
        omega
      · rw [fPath_some, ep, List.length_map, decide_eq_true (show (ss.length : Int) ≤ 6 by omega), Bool.true_and, List.all_eq_true]
        exact fun s hs => (hss s hs).1
      · have := join_len (y := ("/" : Str)) (k := 12) (ss := ss) fun s hs => (hss s hs).2.1
        have h1 : ("/" : Str).length = 1 := by decide
        rw [h1] at this
        omega
      · exact join_chars (R := fun c => c < 128) (by decide) fun s hs => seg_asc (hss s hs).1
/-! ### texts of files -/
theorem foldl_app (a : Array Nat) : ∀ (n : Nat) (acc : Array Nat), ((List.replicate n a).foldl (· ++ ·) acc).toList = acc.toList ++ (List.replicate n a.toList).flatten
  | 0, acc => by simp
  | n + 1, acc => by
    rw [List.replicate_succ, List.foldl_cons, foldl_app a n, List.replicate_succ, List.flatten_cons, Array.toList_append, List.append_assoc]
theorem mul_chars (z : Str) (i : Int) : ∀ c ∈ tl (Txt.mul z i), c ∈ tl z := by
  intro c hc
  unfold Txt.mul at hc
  split at hc
  · exact absurd hc (by simp [tl, Str.empty])
  · split at hc
    · exact hc
    · have e : tl (⟨(List.replicate i.toNat z.cps).foldl (· ++ ·) #[]⟩ : Str) = _ := foldl_app z.cps i.toNat #[]
      rw [e] at hc
      simp only [List.nil_append, List.mem_flatten] at hc
      obtain ⟨l, hl, hc⟩ := hc
      rw [(List.mem_replicate.mp hl).2] at hc
      exact hc
theorem mul_len (z : Str) (i : Int) : (Txt.mul z i).length ≤ z.length * i.toNat := by
  unfold Txt.mul
  split
  · exact Nat.zero_le _
  · rename_i h
    split
    · have : 1 ≤ i.toNat := by omega
      exact Nat.le_mul_of_pos_right _ this
    · rw [len_tl]
      have e : tl (⟨(List.replicate i.toNat z.cps).foldl (· ++ ·) #[]⟩ : Str) = _ := foldl_app z.cps i.toNat #[]
      rw [e]
      simp [List.length_flatten, List.map_replicate, List.sum_replicate_nat, Nat.mul_comm, len_tl]
theorem alls_ok : ∀ c ∈ tl ALLS, okc c = true ∧ c < 128 := by decide +kernel
theorem text_ok {t : Str} (h1 : t.length ≤ 2000) (h2 : ∀ c ∈ tl t, c ∈ tl ALLS) : fText 2000 (some t) = true := by
  rw [fText_some, decide_eq_false (show ¬ (t.length : Int) > 2000 by omega)]
  show (tl t).all okc = true
  rw [List.all_eq_true]
  exact fun c hc => (alls_ok c (h2 c hc)).1
def spTxt : Sp := fun vs H Q _ => ∃ (u : Addr) (n : Nat), vs = [.ref u] ∧ Wl H u (n + 103) ∧ ∀ (t : Str) (H' : Hp), fText 2000 (some t) = true → t.length ≤ 2000 → Asc t → Wl H' u n → Kp u H H' → Q (.str t) H'
def N__law_text : List Str := ["_law_well_here", "_law_size", "_law_text_here"]
theorem sc__law_text : FnScope N__law_text ["_law_well_here"] (defScope s__law_text) := ⟨rfl, rfl, rfl, by decide +kernel, rfl, by decide +kernel, by decide +kernel⟩
theorem ok__law_text (T : Ctx K mg) : Ok P w K mg base 3 "_law_text" ["_law_well_here"] spTxt := by
  obtain ⟨fd, F⟩ := T.c.def_ 16 (d := d__law_text) rfl
  refine ⟨⟨fd, F.ok sc__law_text (fun vs H Q E h => ?_) (fun cdv A outer s H vs Q E hr h => ?_), F.bindsN fun _ _ _ _ _ _ us hl => match us, hl with | [_], _ => rfl⟩, F.kp, T.g__law_text⟩
  · obtain ⟨u, n, rfl, _⟩ := h
    rfl
  · obtain ⟨u, n, rfl, hw, k⟩ := h
    refine ⟨_, PSs.nox (pss_cons (ps_set (i := 1) sc__law_text.nd rfl (Or.inl rfl) (pe_own (ok__law_pick T) (hr.mono (by decide)) (by rfl) (pa_cons (pv 0) (pa_cons (pe_lst (pa_cons pe_int (pa_cons pe_int (pa_cons pe_int (pa_cons pe_int pa_nil))))) pa_nil))))
      (pss_cons (ps_set (i := 2) sc__law_text.nd rfl (Or.inl rfl) (pe_own (ok__law_signs T) (hr.mono (by decide)) (by rfl) (pa_cons (pv 0) (pa_cons (pe_own0 (ok__law_all_signs T) (hr.mono (by decide)) (by rfl)) (pa_cons pe_int (pa_cons (pe_callB (call_min2 rfl) (by rfl) T.f_min (by decide +kernel) (pa_cons (pv 1) (pa_cons pe_int pa_nil))) pa_nil))))))
      (pss_cons (ps_if (PW.pt (pw_and (pt_cmpR op_ne (pv 2) pe_str (nomark _)) (pw_and1 (pt_cmpR op_eq (pv 1) pe_int (nomark _)))))
        (pss_one (ps_set (i := 2) sc__law_text.nd rfl (Or.inl rfl) (pe_slice sl_str (pe_op op_mul_str (pv 2) pe_int) po_none (po_some (pe_own (ok__law_pick T) (hr.mono (by decide)) (by rfl) (pa_cons (pv 0) (pa_cons (pe_lst (pa_cons pe_int (pa_cons pe_int (pa_cons pe_int pa_nil)))) pa_nil)))))))
        pss_nil)
      (pss_one (ps_ret (pv 2)))))), ?_⟩
    refine ⟨_, rfl, (by show 4 ≤ sizeLine; decide), fun p hp => ?_⟩
    have hw0 : Wl H u ((n + 102) + 1) := hw
    refine ⟨u, p, n + 102, _, rfl, hw0.new hp, hw.ne hp, upd_same, (by simp), (by decide), fun x H1 hx hw1 kp1 => ?_⟩
    obtain ⟨m, rfl, m1, m2⟩ : ∃ m : Int, x = .int m ∧ 0 ≤ m ∧ m ≤ 2000 := by
      simp only [List.mem_cons, List.not_mem_nil, or_false] at hx
      rcases hx with rfl | rfl | rfl | rfl
      all_goals exact ⟨_, rfl, by decide, by decide⟩
    refine ⟨_, rfl, rfl, _, rfl, _, _, rfl, ?_⟩
    have hm : 0 ≤ (if (30 : Int) < m then 30 else m) ∧ (if (30 : Int) < m then 30 else m) ≤ 30 := by
      split <;> omega
    refine ⟨u, ALLS, 0, _, n + 1, rfl, by decide, hm.1, by omega, by decide +kernel, by decide +kernel, hw1, fun t H2 t1 t2 tc hw2 kp2 => ?_⟩
    have t30 : t.length ≤ 30 := by omega
    have kp : Kp u H H2 := ((Kp.refl _ _).new hp).trans (kp1.trans kp2)
    have asc : ∀ s : Str, (∀ c ∈ tl s, c ∈ tl ALLS) → Asc s := fun s h c hc => (alls_ok c (h c hc)).2
    refine ⟨_, rfl, rfl, _, rfl, ?_⟩
    refine ite2 (fun q1 => ?_) (fun q1 => ?_)
    · refine ⟨_, rfl, rfl, _, rfl, ?_⟩
      refine ite2 (fun q2 => ?_) (fun q2 => ?_)
      · have l2 : (Txt.mul t 2000).length ≤ 60000 := Nat.le_trans (mul_len t 2000) (by show t.length * 2000 ≤ 60000; omega)
        refine ⟨_, rfl, _, _, rfl, rfl, ⟨by decide, by decide, by omega, by show t.length * 2000 ≤ 1000000; omega⟩, _, rfl, (by show 3 ≤ sizeLine; decide), fun p2 hp2 => ?_⟩
        refine ⟨u, p2, n, _, rfl, hw2.new hp2, hw2.ne hp2, upd_same, (by simp), (by decide), fun y H3 hy hw3 kp3 => ?_⟩
        obtain ⟨j, rfl, j2⟩ : ∃ j : Nat, y = .int (j : Int) ∧ j ≤ 2000 := by
          rcases mem3 hy with rfl | rfl | rfl
          · exact ⟨2000, rfl, by decide⟩
          · exact ⟨1999, rfl, by decide⟩
          · exact ⟨1000, rfl, by decide⟩
        have ec := cut_hi (Txt.mul t 2000) j
        have hc : ∀ c ∈ tl (cutS (Txt.mul t 2000) none (some (j : Int))), c ∈ tl ALLS := fun c hc => by
          rw [ec] at hc
          exact tc c (mul_chars t 2000 c (List.mem_of_mem_take hc))
        have hl : (cutS (Txt.mul t 2000) none (some (j : Int))).length ≤ 2000 := by
          rw [len_tl, ec, List.length_take]
          omega
        exact ⟨_, rfl, _, rfl, Nat.le_trans l2 (by decide), _, rfl, k _ _ (text_ok hl hc) hl (asc _ hc) hw3 ((kp.trans ((Kp.refl _ _).new hp2)).trans kp3)⟩
      · exact ⟨_, rfl, k _ _ (text_ok (by omega) tc) (by omega) (asc _ tc) (hw2.le (by omega)) kp⟩
    · exact ⟨_, rfl, k _ _ (text_ok (by omega) tc) (by omega) (asc _ tc) (hw2.le (by omega)) kp⟩
def HEXS : Str := "0123456789abcdef"
theorem hex_asc : ∀ c ∈ tl HEXS, c < 128 := by decide +kernel
def spId : Sp := fun vs H Q _ => ∃ (u : Addr) (n : Nat), vs = [.ref u] ∧ Wl H u (n + 101) ∧ ∀ (t : Str) (H' : Hp), fId (some t) = true → t.length ≤ 2000 → Asc t → Wl H' u n → Kp u H H' → Q (.str t) H'
def N__law_id : List Str := ["_law_well_here"]
theorem sc__law_id : FnScope N__law_id ["_law_well_here"] (defScope s__law_id) := ⟨rfl, rfl, rfl, by decide +kernel, rfl, by decide +kernel, by decide +kernel⟩
theorem ok__law_id (T : Ctx K mg) : Ok P w K mg base 3 "_law_id" ["_law_well_here"] spId := by
  obtain ⟨fd, F⟩ := T.c.def_ 17 (d := d__law_id) rfl
  refine ⟨⟨fd, F.ok sc__law_id (fun vs H Q E h => ?_) (fun cdv A outer s H vs Q E hr h => ?_), F.bindsN fun _ _ _ _ _ _ us hl => match us, hl with | [_], _ => rfl⟩, F.kp, T.g__law_id⟩
  · obtain ⟨u, n, rfl, _⟩ := h
    rfl
  · obtain ⟨u, n, rfl, hw, k⟩ := h
    refine ⟨_, PSs.nox (pss_one (ps_ret (pe_own (ok__law_signs T) (hr.mono (by decide)) (by rfl) (pa_cons (pv 0) (pa_cons pe_str (pa_cons pe_int (pa_cons pe_int pa_nil))))))), ?_⟩
    refine ⟨_, rfl, u, HEXS, 16, 16, n, rfl, by decide, by decide, by decide, by decide, by decide, hw, fun t H2 t1 t2 tc hw2 kp2 => ?_⟩
    refine k _ _ ?_ (by omega) (fun c hc => hex_asc c (tc c hc)) hw2 kp2
    show (decide _ && _) = true
    rw [show only t "0123456789abcdef" = true from only_of tc, show (t.length : Int) = 16 by omega]
    rfl
end
end K01
namespace K01
open PySem PySem.Spec PyProof.Rows L2 Fk TL
/-! ### lists of texts, compared with the empty list -/
theorem dpAll_strs {K : PySem.W.Frag} {H : Hp} : ∀ ss : List Str, DpAll K H (ss.map V.str) (ss.map PyData.str)
  | [] => .nil
  | s :: ss => .cons (.str s) (dpAll_strs ss)
theorem shaped_strs {ss : List Str} (h : ∀ s ∈ ss, Asc s) : SeqAt.shaped (.list (ss.map PyData.str)) = true := by
  have h1 : ∀ {l : List Str}, (∀ s ∈ l, Asc s) → PyData.canLayAll0 (l.map PyData.str) = true ∧ PyData.depthAll (l.map PyData.str) = 0 := by
    intro l
    induction l with
    | nil => exact fun _ => ⟨rfl, rfl⟩
    | cons s l ih =>
      intro hl
      obtain ⟨a, b⟩ := ih fun z hz => hl z (List.mem_cons_of_mem _ hz)
      refine ⟨?_, ?_⟩
      · show (PyData.strOk s && PyData.canLayAll0 (l.map PyData.str)) = true
        rw [a, Bool.and_true]
        show s.cps.all (· < 0x110000) = true
        rw [Array.all_eq_true_iff_forall_mem]
        intro c hc
        have := hl s (List.mem_cons_self ..) c (Array.mem_toList_iff.mpr hc)
        exact decide_eq_true (by omega)
      · show max 0 (PyData.depthAll (l.map PyData.str)) = 0
        rw [b]
        rfl
  obtain ⟨a, b⟩ := h1 h
  show (PyData.canLayAll0 (ss.map PyData.str) && decide (PyData.depthAll (ss.map PyData.str) + 1 ≤ 64)) = true
  rw [a, b]
  rfl
theorem eqv_nil (ss : List Str) : PyData.eqv (.list (ss.map PyData.str)) (.list []) = ss.isEmpty := by
  cases ss with
  | nil => rfl
  | cons s l => rfl
theorem filter_empty {α : Type} (p : α → Bool) (l : List α) : (l.filter p).isEmpty = l.all fun x => !p x := by
  induction l with
  | nil => rfl
  | cons a l ih =>
    rw [List.filter_cons, List.all_cons]
    cases p a with
    | true => rfl
    | false =>
      show (l.filter p).isEmpty = _
      rw [ih]
      rfl
def one (c : Nat) : Str := ⟨#[c]⟩
theorem filter_sg (p : V → Bool) (l : List Nat) : ((l.map sg).filter p).map (fun v => v) = ((l.filter fun c => p (sg c)).map one).map V.str := by
  rw [List.filter_map, List.map_map, List.map_map]
  rfl
theorem filter_str (p : V → Bool) (l : List Str) : ((l.map V.str).filter p).map (fun v => v) = (l.filter fun s => p (.str s)).map V.str := by
  rw [List.filter_map, List.map_map]
  rfl
theorem one_asc {t : Str} (a : Asc t) (p : Nat → Bool) : ∀ s ∈ ((tl t).filter p).map one, Asc s := fun s hs c hc => by
  obtain ⟨d, hd, rfl⟩ := List.mem_map.mp hs
  have e : c = d := List.mem_singleton.mp hc
  rw [e]
  exact a d (List.mem_filter.mp hd).1
theorem eqF {c : Bool} {A B : Prop} (h : c = false) (b : B) : if c = true then A else B := by
  subst h
  exact iteF b
theorem eqT {c : Bool} {A B : Prop} (h : c = true) (a : A) : if c = true then A else B := by
  subst h
  exact iteT a
section
variable {P : Program} {w : World} {K : PySem.W.Frag} {mg : Str → Option Value} {base : Heap}
def spOnlyL : Sp := fun vs H Q _ => ∃ t g : Str, vs = [.str t, .str g] ∧ t.length ≤ 100000 ∧ Asc t ∧ ∀ H', Same H H' → Q (.bl (only t g)) H'
def notin (g : Str) : V → Bool
  | .str z => !((tl z).all fun c => decide (c ∈ tl g))
  | _ => false
theorem notin_sg (g : Str) (c : Nat) : notin g (sg c) = !decide (c ∈ tl g) := by
  show (!([c].all fun c => decide (c ∈ tl g))) = _
  simp
def N__law_only : List Str := ["_law_text_here", "_law_signs_here", "_law_sign"]
theorem sc__law_only : FnScope N__law_only ["_law_text_here", "_law_signs_here"] (defScope s__law_only) := ⟨rfl, rfl, rfl, by decide +kernel, rfl, by decide +kernel, by decide +kernel⟩
theorem ok__law_only (T : Ctx K mg) : Ok P w K mg base 1 "_law_only" ["_law_text_here", "_law_signs_here"] spOnlyL := by
  obtain ⟨fd, F⟩ := T.c.def_ 18 (d := d__law_only) rfl
  refine ⟨⟨fd, F.ok sc__law_only (fun vs H Q E h => ?_) (fun cdv A outer s H vs Q E hr h => ?_), F.bindsN fun _ _ _ _ _ _ us hl => match us, hl with | [_, _], _ => rfl⟩, F.kp, T.g__law_only⟩
  · obtain ⟨t, g, rfl, _⟩ := h
    rfl
  · obtain ⟨t, g, rfl, ht, hasc, k⟩ := h
    refine ⟨_, PSs.nox (pss_one (ps_ret (pe_cmpR (op_eqD hr.units) (pe_lc (own := [("_law_sign", 2)]) (g := gName 2) rfl sc__law_only.nd (pi_str (pv 0)) (blkOk_by (N := N__law_only) (sc := defScope s__law_only) (by decide +kernel)) (fun _ _ _ _ _ => pg_name (i := 2) sc__law_only.nd rfl (Or.inl rfl)) (fun _ _ _ _ _ => (pts_one (pt_cmpR op_notIn_sign (pv 2) (pv 1) (by rfl)))) (fun _ _ _ _ _ => (pv 2))) (pe_lst pa_nil) (nomark _)))), ?_⟩
    refine ⟨_, rfl, t, rfl, fun D hD => ?_⟩
    refine lc_same (i := 2) (walk_text (z := t)) (notin g) (fun v => v) (fun _ _ => trivial) ?_ hD (fun x H1 Q1 hx s1 q1 => ?_) (fun x H1 Q1 hx _ s1 q1 => ⟨_, rfl, q1 H1 (Same.refl _)⟩) fun H1 s1 h1 => ?_
    · rw [List.length_map]
      exact Nat.lt_of_le_of_lt ht (by decide)
    · obtain ⟨c, hc, rfl⟩ := List.mem_map.mp hx
      refine ⟨_, rfl, _, rfl, c, g, rfl, rfl, _, rfl, ?_⟩
      rw [notin_sg] at q1
      exact q1 H1 (Same.refl _)
    · rw [filter_sg] at h1
      refine ⟨Nat.zero_le _, fun p2 hp2 => ⟨_, _, .lst (SqL.of ((same_new hp2) _ _ h1)) (dpAll_strs _), .lst (SqL.of upd_same) .nil, shaped_strs (one_asc hasc _), rfl, ?_⟩⟩
      rw [eqv_nil]
      refine fin k (s1.trans (same_new hp2)) ?_
      rw [List.isEmpty_map, filter_empty]
      unfold only
      refine List.all_congr rfl fun c => ?_
      rw [notin_sg, Bool.not_not]
def fDue (kd : Int) (o : Option Str) : Bool := if kd = 0 then fId o else if kd = 1 then fPath o else if kd = 2 then fRef o else if kd = 3 then fAuth o else fText 2000 o
theorem fDue_none (kd : Int) : fDue kd none = false := by
  unfold fDue
  split
  · rfl
  · split
    · rfl
    · split
      · rfl
      · split <;> rfl
def badc : V → Bool
  | .str z => !((tl z).all okc)
  | _ => false
theorem badc_sg (c : Nat) : badc (sg c) = !okc c := by
  show (!([c].all okc)) = _
  simp
def bad1 (g : Str) : V → Bool
  | .str s => !(rng s 1 12) || !(only s g)
  | _ => false
def bad2 : V → Bool
  | .str s => decide (V.str s = V.str ".") || occ s ".."
  | _ => false
theorem not_or3 {a b c d : Bool} : (!(!a || !b) && !(c || d)) = (a && (b && (!c && !d))) := by
  cases a <;> cases b <;> cases c <;> cases d <;> rfl
theorem isEmpty_app {α : Type} (a b : List α) : (a ++ b).isEmpty = (a.isEmpty && b.isEmpty) := by
  cases a with
  | nil => rfl
  | cons x l => rfl
theorem bads1 (l : List Str) : ((l.filter fun s => bad1 SEGS (.str s)) ++ (l.filter fun s => bad2 (.str s))).isEmpty = l.all fun s => fSeg (some s) := by
  rw [isEmpty_app, filter_empty, filter_empty]
  induction l with
  | nil => rfl
  | cons a l ih =>
    rw [List.all_cons, List.all_cons, List.all_cons, ← ih, fSeg_some, ← not_or3]
    show ((!(bad1 SEGS (.str a)) && _) && (!(bad2 (.str a)) && _)) = ((!(bad1 SEGS (.str a)) && !(bad2 (.str a))) && _)
    cases bad1 SEGS (.str a) <;> cases bad2 (.str a) <;> simp
theorem bads2 (l : List Str) : (l.filter fun s => bad1 REFS (.str s)).isEmpty = l.all fRseg := by
  rw [filter_empty]
  refine List.all_congr rfl fun s => ?_
  show (!(!(rng s 1 12) || !(only s REFS))) = (rng s 1 12 && only s REFS)
  cases rng s 1 12 <;> cases only s REFS <;> rfl
theorem filt_asc {t : Str} (a : Asc t) (p : Str → Bool) : ∀ s ∈ (parts t).filter p, Asc s := fun s hs => parts_asc (List.mem_filter.mp hs).1 a
def spDue (K : PySem.W.Frag) : Sp := fun vs H Q _ => ∃ (kd : Int) (x : V) (o : Option Str), vs = [.int kd, x] ∧ 0 ≤ kd ∧ kd ≤ 4 ∧ Thg K H x o ∧ ∀ H', Same H H' → Q (.bl (fDue kd o)) H'
def N__law_due : List Str := ["_law_kind", "_law_thing", "_law_small", "_law_figures", "_law_segments", "_law_signs_here", "_law_bad", "_law_most", "_law_sign", "_law_one"]
theorem sc__law_due : FnScope N__law_due ["_law_kind", "_law_thing"] (defScope s__law_due) := ⟨rfl, rfl, rfl, by decide +kernel, rfl, by decide +kernel, by decide +kernel⟩
theorem ok__law_due (T : Ctx K mg) : Ok P w K mg base 2 "_law_due" ["_law_kind", "_law_thing"] (spDue K) := by
  obtain ⟨fd, F⟩ := T.c.def_ 19 (d := d__law_due) rfl
  refine ⟨⟨fd, F.ok sc__law_due (fun vs H Q E h => ?_) (fun cdv A outer s H vs Q E hr h => ?_), F.bindsN fun _ _ _ _ _ _ us hl => match us, hl with | [_, _], _ => rfl⟩, F.kp, T.g__law_due⟩
  · obtain ⟨kd, x, o, rfl, _⟩ := h
    rfl
  · obtain ⟨kd, x, o, rfl, k0, k4, hx, k⟩ := h
    refine ⟨_, PSs.nox (pss_cons (ps_set (i := 2) sc__law_due.nd rfl (Or.inl rfl) pe_str)
      (pss_cons (ps_set (i := 3) sc__law_due.nd rfl (Or.inl rfl) pe_str)
      (pss_cons (ps_if (pt_not (pt_val (pe_callB call_isi (by rfl) T.f_isinstance (by decide +kernel) (pa_cons (pv 1) (pa_cons (pe_bltn (v := .ty "str") (u := .type "str") (by rfl) T.f_str (by decide +kernel) rfl) pa_nil)))))
        (pss_one (ps_ret pe_bl))
        pss_nil)
      (pss_cons (ps_if (pt_cmpR op_eq (pv 0) pe_int (nomark _))
        (pss_one (ps_ret (pe_and (pe_cmpR op_eq (pe_callB call_len_str (by rfl) T.f_len PySem.boot_len (pa_cons (pv 1) pa_nil)) pe_int (nomark _)) (pe_one (pe_own (ok__law_only T) (hr.mono (by decide)) (by rfl) (pa_cons (pv 1) (pa_cons (pe_op op_add_str (pv 3) pe_str) pa_nil)))))))
        pss_nil)
      (pss_cons (ps_if (pt_cmpR op_eq (pv 0) pe_int (nomark _))
        (pss_one (ps_ret (pe_and (pe_chain op_le op_le pe_int (pe_callB call_len_str (by rfl) T.f_len PySem.boot_len (pa_cons (pv 1) pa_nil)) pe_int) (pe_one (pe_own (ok__law_only T) (hr.mono (by decide)) (by rfl) (pa_cons (pv 1) (pa_cons (pv 2) pa_nil)))))))
        pss_nil)
      (pss_cons (ps_if (pt_cmpR op_eq (pv 0) pe_int (nomark _))
        (pss_one (ps_ret (pe_and (pe_cmpR op_le (pe_callB call_len_str (by rfl) T.f_len PySem.boot_len (pa_cons (pv 1) pa_nil)) pe_int (nomark _)) (pe_one (pe_cmpR (op_eqD hr.units) (pe_lc (own := [("_law_sign", 8)]) (g := gName 8) rfl sc__law_due.nd (pi_str (pv 1)) (blkOk_by (N := N__law_due) (sc := defScope s__law_due) (by decide +kernel)) (fun _ _ _ _ _ => pg_name (i := 8) sc__law_due.nd rfl (Or.inl rfl)) (fun _ _ _ _ _ => (pts_one (PW.pt (pw_and (pt_not (pt_chain op_le_str op_le_str pe_str (pv 8) pe_str)) (pw_and1 (pt_cmpR op_ne (pv 8) pe_str (nomark _))))))) (fun _ _ _ _ _ => (pv 8))) (pe_lst pa_nil) (nomark _))))))
        pss_nil)
      (pss_cons (ps_set (i := 4) sc__law_due.nd rfl (Or.inl rfl) (pe_split (pv 1) pe_str))
      (pss_cons (ps_set (i := 5) sc__law_due.nd rfl (Or.inr rfl) (pe_ix ix_list (pe_lst (pa_cons (pe_op op_add_str (pe_op op_add_str (pv 2) (pv 3)) pe_str) (pa_cons (pe_op op_add_str (pe_op op_add_str (pv 2) (pv 3)) pe_str) pa_nil))) (pe_op op_sub (pv 0) pe_int) (fun _ _ => rfl)))
      (pss_cons (ps_setLc (i := 6) (own := [("_law_one", 9)]) (g := gName 9) rfl sc__law_due.nd rfl rfl (sw_true rfl rfl rfl (by decide +kernel)) (pi_list (pv 4)) (blkOk_by (N := N__law_due) (sc := defScope s__law_due) (by decide +kernel)) (fun _ _ _ _ _ => pg_name (i := 9) sc__law_due.nd rfl (Or.inl rfl)) (fun _ _ _ _ _ => (pts_one (PW.pt (pw_or (pt_not (pt_chain op_le op_le pe_int (pe_callB call_len_str (by rfl) T.f_len PySem.boot_len (pa_cons (pv 9) pa_nil)) pe_int)) (pw_or1 (pt_not (pt_val (pe_own (ok__law_only T) (hr.mono (by decide)) (by rfl) (pa_cons (pv 9) (pa_cons (pv 5) pa_nil)))))))))) (fun _ _ _ _ _ => (pv 9)))
      (pss_cons (ps_if (pt_cmpR op_eq (pv 0) pe_int (nomark _))
        (pss_one (ps_set (i := 6) sc__law_due.nd rfl (Or.inl rfl) (pe_op op_cat (pv 6) (pe_lc (own := [("_law_one", 9)]) (g := gName 9) rfl sc__law_due.nd (pi_list (pv 4)) (blkOk_by (N := N__law_due) (sc := defScope s__law_due) (by decide +kernel)) (fun _ _ _ _ _ => pg_name (i := 9) sc__law_due.nd rfl (Or.inl rfl)) (fun _ _ _ _ _ => (pts_one (PW.pt (pw_or (pt_cmpR op_eq (pv 9) pe_str (nomark _)) (pw_or1 (pt_cmpR op_in_str pe_str (pv 9) (by rfl))))))) (fun _ _ _ _ _ => (pv 9))))))
        pss_nil)
      (pss_cons (ps_set (i := 7) sc__law_due.nd rfl (Or.inl rfl) (pe_ix ix_list (pe_lst (pa_cons pe_int (pa_cons pe_int (pa_cons pe_int pa_nil)))) (pe_op op_add (pe_op op_sub (pv 0) pe_int) (pe_callTy call_int1 (by rfl) T.f_int (by decide +kernel) (pa_cons (pe_and (pe_cmpR op_eq (pv 0) pe_int (nomark _)) (pe_one (pe_cmpR op_eq (pe_ix ix_list (pv 4) pe_int (fun _ _ => rfl)) pe_str (nomark _)))) pa_nil))) (fun _ _ => rfl)))
      (pss_one (ps_ret (pe_and (pe_cmpR (op_eqD hr.units) (pv 6) (pe_lst pa_nil) (nomark _)) (pe_one (pe_cmpR op_le (pe_callB call_len_seq (by rfl) T.f_len PySem.boot_len (pa_cons (pv 4) pa_nil)) (pv 7) (nomark _))))))))))))))))), ?_⟩
    obtain ⟨ty, h1, h2⟩ := hx.isi
    refine ⟨_, rfl, x, _, ty, _, _, rfl, .ty "str", h1, h2, _, rfl, ?_⟩
    cases hx with
    | oth h e => exact iteT (fin k (Same.refl H) (fDue_none kd))
    | str t ht hasc =>
      refine iteF ⟨_, rfl, rfl, _, rfl, ?_⟩
      have hk : kd = 0 ∨ kd = 1 ∨ kd = 2 ∨ kd = 3 ∨ kd = 4 := by omega
      rcases hk with rfl | rfl | rfl | rfl | rfl
      · refine eqT (by decide) ⟨_, rfl, t, rfl, sz5 ht, rfl, _, rfl, ?_⟩
        refine ite2 (fun g => ?_) (fun g => ?_)
        · refine ⟨_, rfl, _, rfl, _, _, rfl, rfl, (by decide +kernel), t, _, rfl, ht, hasc, fun H' s' => fin k s' ?_⟩
          show (decide _ && _) = _
          rw [g, Bool.true_and]
          exact congrArg (only t) (by decide +kernel)
        · refine fin k (Same.refl H) ?_
          show (decide _ && _) = _
          rw [Bool.eq_false_iff.mpr g, Bool.false_and]
      · refine eqF (by decide) ⟨_, rfl, rfl, _, rfl, eqF (by decide) ⟨_, rfl, rfl, _, rfl, eqF (by decide) ?_⟩⟩
        refine ⟨_, rfl, ⟨_, rfl⟩, t, _, rfl, rfl, rfl, sz7 ht, fun p hp => ?_⟩
        have s1 : Same H (upd H p (.lst ((Txt.split t "/").map V.str))) := same_new hp
        have hp1 : upd H p (.lst ((Txt.split t "/").map V.str)) p = some (.lst ((parts t).map V.str)) := upd_same
        generalize upd H p (.lst ((Txt.split t "/").map V.str)) = H1 at s1 hp1 ⊢
        refine ⟨_, rfl, _, rfl, _, _, rfl, rfl, (by decide +kernel), _, _, rfl, rfl, (by decide +kernel), _, rfl, _, rfl, _, _, rfl, rfl, (by decide +kernel), _, _, rfl, rfl, (by decide +kernel), (by show 2 ≤ sizeLine; decide), fun q hq => ?_⟩
        refine ⟨_, rfl, _, _, rfl, rfl, q, _, _, _, rfl, rfl, SqL.of upd_same, rfl, ?_⟩
        have hp2 := (same_new hq (o := .lst [V.str SEGS, V.str REFS])) _ _ hp1
        have s2 := s1.trans (same_new hq (o := .lst [V.str SEGS, V.str REFS]))
        refine ⟨_, rfl, p, rfl, ⟨_, SqL.of hp2⟩, fun D hD => ?_⟩
        refine lc_same (i := 9) (walk_list (K := K) (a := p) (xs := (parts t).map V.str)) (bad1 SEGS) (fun v => v) (fun H3 s3 => SqL.of (s3 _ _ hp2)) (parts_sz ht) hD (fun x H3 Q3 hx s3 q3 => ?_) (fun x H3 Q3 hx _ s3 q3 => ⟨_, rfl, q3 H3 (Same.refl _)⟩) fun H3 s3 h3 => ?_
        · obtain ⟨c, hc, rfl⟩ := List.mem_map.mp hx
          have lc : c.length ≤ 100000 := Nat.le_trans (parts_le hc) ht
          refine ⟨_, rfl, c, rfl, sz5 lc, _, _, rfl, rfl, _, rfl, ?_⟩
          refine ite2 (fun g1 => ?_) (fun g1 => ?_)
          · refine ⟨_, _, rfl, rfl, _, rfl, ?_⟩
            refine ite2 (fun g2 => ?_) (fun g2 => ?_)
            · have e : bad1 SEGS (.str c) = true := by
                show (!(decide _ && decide _) || _) = true
                rw [nb2 g2, Bool.and_false]
                rfl
              rw [e] at q3
              exact q3 H3 (Same.refl _)
            · refine ⟨_, rfl, _, rfl, c, _, rfl, lc, parts_asc hc hasc, fun H4 s4 => ⟨_, rfl, ?_⟩⟩
              have e : bad1 SEGS (.str c) = !(only c SEGS) := by
                show (!(decide _ && decide _) || _) = _
                rw [g1, nn2 g2]
                rfl
              rw [e] at q3
              exact q3 H4 s4
          · refine ⟨_, rfl, iteT ?_⟩
            have e : bad1 SEGS (.str c) = true := by
              show (!(decide _ && decide _) || _) = true
              rw [Bool.eq_false_iff.mpr g1, Bool.false_and]
              rfl
            rw [e] at q3
            exact q3 H3 (Same.refl _)
        · rw [filter_str] at h3
          have hp3 := s3 _ _ hp2
          have s4 := s2.trans s3
          refine ⟨_, rfl, rfl, _, rfl, eqT (by decide) ?_⟩
          refine ⟨_, rfl, _, rfl, p, rfl, ⟨_, SqL.of hp3⟩, fun D2 hD2 => ?_⟩
          refine lc_same (i := 9) (walk_list (K := K) (a := p) (xs := (parts t).map V.str)) bad2 (fun v => v) (fun H5 s5 => SqL.of (s5 _ _ hp3)) (parts_sz ht) hD2 (fun x H5 Q5 hx s5 q5 => ?_) (fun x H5 Q5 hx _ s5 q5 => ⟨_, rfl, q5 H5 (Same.refl _)⟩) fun H5 s5 h5 => ?_
          · obtain ⟨c, hc, rfl⟩ := List.mem_map.mp hx
            refine ⟨_, rfl, rfl, _, rfl, ?_⟩
            refine ite2 (fun g1 => ?_) (fun g1 => ?_)
            · have e : bad2 (.str c) = true := by
                show (decide _ || _) = true
                rw [g1]
                rfl
              rw [e] at q5
              exact q5 H5 (Same.refl _)
            · refine ⟨_, rfl, _, _, rfl, rfl, _, rfl, ?_⟩
              have e : bad2 (.str c) = occ c ".." := by
                show (decide _ || _) = _
                rw [Bool.eq_false_iff.mpr g1]
                rfl
              rw [e] at q5
              exact q5 H5 (Same.refl _)
          · rw [filter_str] at h5
            have hp5 := s5 _ _ hp3
            have hD5 := s5 _ _ h3
            refine ⟨D, D2, _, _, rfl, rfl, hD5, h5, ?_, fun r hr => ?_⟩
            · rw [List.length_map, List.length_map]
              have a1 := List.length_filter_le (fun s => bad1 SEGS (.str s)) (parts t)
              have a2 := List.length_filter_le (fun s => bad2 (.str s)) (parts t)
              have a3 := parts_len t
              have e := sizeLine_eq
              omega
            · have s6 := (s4.trans s5).trans (same_new hr (o := .lst (((parts t).filter fun s => bad1 SEGS (.str s)).map V.str ++ ((parts t).filter fun s => bad2 (.str s)).map V.str)))
              have hp6 := (same_new hr (o := .lst (((parts t).filter fun s => bad1 SEGS (.str s)).map V.str ++ ((parts t).filter fun s => bad2 (.str s)).map V.str))) _ _ hp5
              have hr6 : upd H5 r (.lst (((parts t).filter fun s => bad1 SEGS (.str s)).map V.str ++ ((parts t).filter fun s => bad2 (.str s)).map V.str)) r = some (.lst ((((parts t).filter fun s => bad1 SEGS (.str s)) ++ ((parts t).filter fun s => bad2 (.str s))).map V.str)) := by
                rw [upd_same, List.map_append]
              generalize upd H5 r (.lst (((parts t).filter fun s => bad1 SEGS (.str s)).map V.str ++ ((parts t).filter fun s => bad2 (.str s)).map V.str)) = H6 at s6 hp6 hr6 ⊢
              refine ⟨(by show 3 ≤ sizeLine; decide), fun q2 hq2 => ?_⟩
              refine ⟨_, rfl, _, _, rfl, rfl, _, rfl, rfl, _, rfl, eqF (by decide) (.inr ⟨_, rfl, _, _, rfl, rfl, q2, _, _, .int 6, rfl, rfl, SqL.of upd_same, rfl, ?_⟩)⟩
              have s7 := same_new hq2 (o := .lst [V.int 6, V.int 5, V.int 7])
              refine ⟨_, rfl, Nat.zero_le _, fun q3 hq3 => ?_⟩
              have s8 := same_new hq3 (o := .lst [])
              refine ⟨_, _, .lst (SqL.of (s8 _ _ (s7 _ _ hr6))) (dpAll_strs _), .lst (SqL.of upd_same) .nil, shaped_strs (fun s hs => ?_), rfl, _, rfl, ?_⟩
              · rcases List.mem_append.mp hs with hs | hs
                · exact filt_asc hasc _ s hs
                · exact filt_asc hasc _ s hs
              · rw [eqv_nil, bads1]
                refine ite2 (fun g => ?_) (fun g => ?_)
                · refine ⟨_, rfl, p, _, rfl, .inl (SqL.of (s8 _ _ (s7 _ _ hp6))), _, rfl, _, _, rfl, rfl, fin k (s6.trans (s7.trans s8)) ?_⟩
                  show fPath (some t) = _
                  rw [fPath_some, g, Bool.and_true]
                · refine fin k (s6.trans (s7.trans s8)) ?_
                  show fPath (some t) = _
                  rw [fPath_some, Bool.eq_false_iff.mpr g, Bool.and_false]
      · refine eqF (by decide) ⟨_, rfl, rfl, _, rfl, eqF (by decide) ⟨_, rfl, rfl, _, rfl, eqF (by decide) ?_⟩⟩
        refine ⟨_, rfl, ⟨_, rfl⟩, t, _, rfl, rfl, rfl, sz7 ht, fun p hp => ?_⟩
        have s1 : Same H (upd H p (.lst ((Txt.split t "/").map V.str))) := same_new hp
        have hp1 : upd H p (.lst ((Txt.split t "/").map V.str)) p = some (.lst ((parts t).map V.str)) := upd_same
        generalize upd H p (.lst ((Txt.split t "/").map V.str)) = H1 at s1 hp1 ⊢
        refine ⟨_, rfl, _, rfl, _, _, rfl, rfl, (by decide +kernel), _, _, rfl, rfl, (by decide +kernel), _, rfl, _, rfl, _, _, rfl, rfl, (by decide +kernel), _, _, rfl, rfl, (by decide +kernel), (by show 2 ≤ sizeLine; decide), fun q hq => ?_⟩
        refine ⟨_, rfl, _, _, rfl, rfl, q, _, _, _, rfl, rfl, SqL.of upd_same, rfl, ?_⟩
        have hp2 := (same_new hq (o := .lst [V.str SEGS, V.str REFS])) _ _ hp1
        have s2 := s1.trans (same_new hq (o := .lst [V.str SEGS, V.str REFS]))
        refine ⟨_, rfl, p, rfl, ⟨_, SqL.of hp2⟩, fun D hD => ?_⟩
        refine lc_same (i := 9) (walk_list (K := K) (a := p) (xs := (parts t).map V.str)) (bad1 REFS) (fun v => v) (fun H3 s3 => SqL.of (s3 _ _ hp2)) (parts_sz ht) hD (fun x H3 Q3 hx s3 q3 => ?_) (fun x H3 Q3 hx _ s3 q3 => ⟨_, rfl, q3 H3 (Same.refl _)⟩) fun H3 s3 h3 => ?_
        · obtain ⟨c, hc, rfl⟩ := List.mem_map.mp hx
          have lc : c.length ≤ 100000 := Nat.le_trans (parts_le hc) ht
          refine ⟨_, rfl, c, rfl, sz5 lc, _, _, rfl, rfl, _, rfl, ?_⟩
          refine ite2 (fun g1 => ?_) (fun g1 => ?_)
          · refine ⟨_, _, rfl, rfl, _, rfl, ?_⟩
            refine ite2 (fun g2 => ?_) (fun g2 => ?_)
            · have e : bad1 REFS (.str c) = true := by
                show (!(decide _ && decide _) || _) = true
                rw [nb2 g2, Bool.and_false]
                rfl
              rw [e] at q3
              exact q3 H3 (Same.refl _)
            · refine ⟨_, rfl, _, rfl, c, _, rfl, lc, parts_asc hc hasc, fun H4 s4 => ⟨_, rfl, ?_⟩⟩
              have e : bad1 REFS (.str c) = !(only c REFS) := by
                show (!(decide _ && decide _) || _) = _
                rw [g1, nn2 g2]
                rfl
              rw [e] at q3
              exact q3 H4 s4
          · refine ⟨_, rfl, iteT ?_⟩
            have e : bad1 REFS (.str c) = true := by
              show (!(decide _ && decide _) || _) = true
              rw [Bool.eq_false_iff.mpr g1, Bool.false_and]
              rfl
            rw [e] at q3
            exact q3 H3 (Same.refl _)
        · rw [filter_str] at h3
          have hp3 := s3 _ _ hp2
          have s4 := s2.trans s3
          refine ⟨_, rfl, rfl, _, rfl, eqF (by decide) ?_⟩
          refine ⟨(by show 3 ≤ sizeLine; decide), fun q2 hq2 => ?_⟩
          have s7 := same_new hq2 (o := .lst [V.int 6, V.int 5, V.int 7])
          refine ⟨_, rfl, _, _, rfl, rfl, _, rfl, rfl, _, rfl, eqT (by decide) ⟨_, rfl, p, _, _, _, rfl, rfl, SqL.of (s7 _ _ hp3), parts_hd t, rfl, .inr ⟨_, rfl, _, _, rfl, rfl, q2, _, _, .int (if decide (V.str ((parts t).headD "") = V.str "far") = true then 7 else 5), rfl, rfl, SqL.of upd_same, ?_, ?_⟩⟩⟩
          · cases decide (V.str ((parts t).headD "") = V.str "far") <;> rfl
          · refine ⟨_, rfl, Nat.zero_le _, fun q3 hq3 => ?_⟩
            have s8 := same_new hq3 (o := .lst [])
            refine ⟨_, _, .lst (SqL.of (s8 _ _ (s7 _ _ h3))) (dpAll_strs _), .lst (SqL.of upd_same) .nil, shaped_strs (filt_asc hasc _), rfl, _, rfl, ?_⟩
            rw [eqv_nil, bads2]
            refine ite2 (fun g => ?_) (fun g => ?_)
            · refine ⟨_, rfl, p, _, rfl, .inl (SqL.of (s8 _ _ (s7 _ _ hp3))), _, rfl, _, _, rfl, rfl, fin k (s4.trans (s7.trans s8)) ?_⟩
              show fRef (some t) = _
              rw [fRef_some, g, Bool.and_true]
            · refine fin k (s4.trans (s7.trans s8)) ?_
              show fRef (some t) = _
              rw [fRef_some, Bool.eq_false_iff.mpr g, Bool.and_false]
      · refine eqF (by decide) ⟨_, rfl, rfl, _, rfl, eqT (by decide) ?_⟩
        refine ⟨_, rfl, t, rfl, sz5 ht, _, _, rfl, rfl, _, rfl, ?_⟩
        refine ite2 (fun g1 => ?_) (fun g1 => ?_)
        · refine ⟨_, _, rfl, rfl, _, rfl, ?_⟩
          refine ite2 (fun g2 => ?_) (fun g2 => ?_)
          · refine ⟨_, rfl, _, rfl, t, _, rfl, ht, hasc, fun H' s' => fin k s' ?_⟩
            show fAuth (some t) = _
            rw [fAuth_some]
            unfold rng
            rw [g1, g2]
            rfl
          · refine fin k (Same.refl H) ?_
            show fAuth (some t) = _
            rw [fAuth_some]
            unfold rng
            rw [g1, Bool.eq_false_iff.mpr g2]
            rfl
        · refine ⟨_, rfl, iteF (fin k (Same.refl H) ?_)⟩
          show fAuth (some t) = _
          rw [fAuth_some]
          unfold rng
          rw [Bool.eq_false_iff.mpr g1]
          rfl
      · refine eqF (by decide) ⟨_, rfl, rfl, _, rfl, eqF (by decide) ⟨_, rfl, rfl, _, rfl, eqT (by decide) ?_⟩⟩
        refine ⟨_, rfl, t, rfl, sz5 ht, _, _, rfl, rfl, _, rfl, ?_⟩
        have le2 : ∀ b, decide ((t.length : Int) ≤ 2000) = b → decide ((t.length : Int) > 2000) = !b := fun b e => by
          rw [← e]
          by_cases h : (t.length : Int) ≤ 2000
          · rw [decide_eq_true h, decide_eq_false (by omega)]
            rfl
          · rw [decide_eq_false h, decide_eq_true (by omega)]
            rfl
        refine ite2 (fun g1 => ?_) (fun g1 => ?_)
        · refine ⟨_, rfl, t, rfl, fun D hD => ?_⟩
          refine lc_same (i := 8) (walk_text (z := t)) badc (fun v => v) (fun _ _ => trivial) ?_ hD (fun x H2 Q2 hx s2 q2 => ?_) (fun x H2 Q2 hx _ s2 q2 => ⟨_, rfl, q2 H2 (Same.refl _)⟩) fun H2 s2 h2 => ?_
          · rw [List.length_map]
            exact Nat.lt_of_le_of_lt ht (by decide)
          · obtain ⟨c, hc, rfl⟩ := List.mem_map.mp hx
            rw [badc_sg] at q2
            refine ⟨_, rfl, _, _, rfl, rfl, _, rfl, ?_⟩
            refine ite2 (fun g2 => ?_) (fun g2 => ?_)
            · refine ⟨_, _, rfl, rfl, _, rfl, ?_⟩
              refine ite2 (fun g3 => ?_) (fun g3 => ?_)
              · refine ⟨_, rfl, rfl, _, rfl, ?_⟩
                rw [show okc c = decide (sg c = V.str "\n") from by unfold okc; rw [show (!decide ([c] < tl (" " : Str))) = true from g2, show (!decide (tl ("~" : Str) < [c])) = false from nb2 g3]; rfl] at q2
                exact q2 H2 (Same.refl _)
              · rw [show okc c = true from by unfold okc; rw [show (!decide ([c] < tl (" " : Str))) = true from g2, show (!decide (tl ("~" : Str) < [c])) = true from nn2 g3]; rfl] at q2
                exact q2 H2 (Same.refl _)
            · refine ⟨_, rfl, iteT ⟨_, rfl, rfl, _, rfl, ?_⟩⟩
              rw [show okc c = decide (sg c = V.str "\n") from by unfold okc; rw [show (!decide ([c] < tl (" " : Str))) = false from Bool.eq_false_iff.mpr g2]; rfl] at q2
              exact q2 H2 (Same.refl _)
          · rw [filter_sg] at h2
            refine ⟨Nat.zero_le _, fun p2 hp2 => ⟨_, _, .lst (SqL.of ((same_new hp2) _ _ h2)) (dpAll_strs _), .lst (SqL.of upd_same) .nil, shaped_strs (one_asc hasc _), rfl, ?_⟩⟩
            rw [eqv_nil]
            refine fin k (s2.trans (same_new hp2)) ?_
            show fText 2000 (some t) = _
            rw [fText_some, le2 _ g1, List.isEmpty_map, filter_empty]
            show (tl t).all okc = _
            refine List.all_congr rfl fun c => ?_
            rw [badc_sg, Bool.not_not]
        · refine fin k (Same.refl H) ?_
          show fText 2000 (some t) = _
          rw [fText_some, le2 _ (Bool.eq_false_iff.mpr g1)]
          rfl
end
end K01
namespace K01
open PySem PySem.Spec PyProof.Rows L2 Fk TL
def REFCH : Str := "abcdefghijklmnopqrstuvwxyz0123456789-"
theorem refch_asc : ∀ c ∈ tl REFCH, c < 128 := by decide +kernel
theorem small_asc : ∀ c ∈ tl SMALL, c < 128 := by decide +kernel
def FARS : List Str := ["", "far/", "farm/", ""]
theorem fars_ok : ∀ s ∈ FARS, s.length ≤ 5 ∧ ∀ c ∈ tl s, c < 128 := by decide +kernel
theorem asc_app {a b : Str} (h1 : Asc a) (h2 : Asc b) : Asc (a ++ b) := fun c hc => by
  rw [tl_append] at hc
  rcases List.mem_append.mp hc with h | h
  · exact h1 c h
  · exact h2 c h
theorem len_app (a b : Str) : (a ++ b).length = a.length + b.length := by
  rw [len_tl, tl_append, List.length_append]
  rfl
theorem cut_asc {t : Str} (h : Asc t) (lo hi : Option Int) : Asc (cutS t lo hi) := fun c hc => h c (List.mem_of_mem_drop (List.mem_of_mem_take hc))
theorem mem2 {x : V} {a b : Int} (h : x ∈ [V.int a, V.int b]) : x = .int a ∨ x = .int b := by
  rcases List.mem_cons.mp h with h | h
  · exact .inl h
  · exact .inr (List.mem_singleton.mp h)
section
variable {P : Program} {w : World} {K : PySem.W.Frag} {mg : Str → Option Value} {base : Heap}
def spGood : Sp := fun vs H Q _ => ∃ (u : Addr) (kd : Int) (n : Nat), vs = [.ref u, .int kd] ∧ 0 ≤ kd ∧ kd ≤ 4 ∧ Wl H u (n + 700) ∧
  ∀ (t : Str) (H' : Hp), t.length ≤ 2000 → Asc t → (kd ≠ 2 → fDue kd (some t) = true) → Wl H' u n → Kp u H H' → Q (.str t) H'
def N__law_good : List Str := ["_law_well_here", "_law_kind", "_law_signs_here", "_law_many", "_law_text_here", "_law_k"]
theorem sc__law_good : FnScope N__law_good ["_law_well_here", "_law_kind"] (defScope s__law_good) := ⟨rfl, rfl, rfl, by decide +kernel, rfl, by decide +kernel, by decide +kernel⟩
theorem ok__law_good (T : Ctx K mg) : Ok P w K mg base 5 "_law_good" ["_law_well_here", "_law_kind"] spGood := by
  obtain ⟨fd, F⟩ := T.c.def_ 20 (d := d__law_good) rfl
  refine ⟨⟨fd, F.ok sc__law_good (fun vs H Q E h => ?_) (fun cdv A outer s H vs Q E hr h => ?_), F.bindsN fun _ _ _ _ _ _ us hl => match us, hl with | [_, _], _ => rfl⟩, F.kp, T.g__law_good⟩
  · obtain ⟨u, kd, n, rfl, _⟩ := h
    rfl
  · obtain ⟨u, kd, n, rfl, k0, k4, hw, k⟩ := h
    refine ⟨_, PSs.nox (pss_cons (ps_if (pt_cmpR op_eq (pv 1) pe_int (nomark _))
        (pss_one (ps_ret (pe_own (ok__law_id T) (hr.mono (by decide)) (by rfl) (pa_cons (pv 0) pa_nil))))
        pss_nil)
      (pss_cons (ps_if (pt_cmpR op_eq (pv 1) pe_int (nomark _))
        (pss_one (ps_ret (pe_own (ok__law_path T) (hr.mono (by decide)) (by rfl) (pa_cons (pv 0) pa_nil))))
        pss_nil)
      (pss_cons (ps_if (pt_cmpR op_eq (pv 1) pe_int (nomark _))
        (pss_cons (ps_set (i := 2) sc__law_good.nd rfl (Or.inr rfl) pe_str)
        (pss_cons (ps_set (i := 3) sc__law_good.nd rfl (Or.inl rfl) (pe_op op_add pe_int (pe_own (ok__law_draw T) (hr.mono (by decide)) (by rfl) (pa_cons (pv 0) (pa_cons (pe_own (ok__law_pick T) (hr.mono (by decide)) (by rfl) (pa_cons (pv 0) (pa_cons (pe_lst (pa_cons pe_int (pa_cons pe_int pa_nil))) pa_nil))) pa_nil)))))
        (pss_cons (ps_set (i := 4) sc__law_good.nd rfl (Or.inl rfl) (pe_join pe_str (pe_lc (own := [("_law_k", 5)]) (g := gName 5) rfl sc__law_good.nd (pi_range1 (by rfl) T.f_range (pa_cons (pv 3) pa_nil)) (blkOk_by (N := N__law_good) (sc := defScope s__law_good) (by decide +kernel)) (fun _ _ _ _ _ => pg_name (i := 5) sc__law_good.nd rfl (Or.inl rfl)) (fun _ _ _ _ _ => pts_nil) (fun _ _ _ _ _ => (pe_own (ok__law_signs T) (hr.mono (by decide)) (by rfl) (pa_cons (pv 0) (pa_cons (pv 2) (pa_cons pe_int (pa_cons (pe_own (ok__law_pick T) (hr.mono (by decide)) (by rfl) (pa_cons (pv 0) (pa_cons (pe_lst (pa_cons pe_int (pa_cons pe_int pa_nil))) pa_nil))) pa_nil)))))))))
        (pss_one (ps_ret (pe_op op_add_str (pe_ix ix_list (pe_lst (pa_cons pe_str (pa_cons pe_str (pa_cons pe_str (pa_cons pe_str pa_nil))))) (pe_own (ok__law_draw T) (hr.mono (by decide)) (by rfl) (pa_cons (pv 0) (pa_cons pe_int pa_nil))) (fun _ _ => rfl)) (pv 4)))))))
        pss_nil)
      (pss_cons (ps_if (pt_cmpR op_eq (pv 1) pe_int (nomark _))
        (pss_one (ps_ret (pe_own (ok__law_signs T) (hr.mono (by decide)) (by rfl) (pa_cons (pv 0) (pa_cons pe_str (pa_cons pe_int (pa_cons (pe_own (ok__law_pick T) (hr.mono (by decide)) (by rfl) (pa_cons (pv 0) (pa_cons (pe_lst (pa_cons pe_int (pa_cons pe_int pa_nil))) pa_nil))) pa_nil)))))))
        pss_nil)
      (pss_one (ps_ret (pe_own (ok__law_text T) (hr.mono (by decide)) (by rfl) (pa_cons (pv 0) pa_nil)))))))), ?_⟩
    refine ⟨_, rfl, rfl, _, rfl, ?_⟩
    have hk : kd = 0 ∨ kd = 1 ∨ kd = 2 ∨ kd = 3 ∨ kd = 4 := by omega
    rcases hk with rfl | rfl | rfl | rfl | rfl
    · exact eqT (by decide) ⟨_, rfl, u, n + 599, rfl, hw, fun t H1 t1 t2 t3 hw1 kp1 => k t H1 t2 t3 (fun _ => t1) (hw1.le (by omega)) kp1⟩
    · exact eqF (by decide) ⟨_, rfl, rfl, _, rfl, eqT (by decide) ⟨_, rfl, u, n + 74, rfl, hw, fun t H1 t1 t2 t3 hw1 kp1 => k t H1 t2 t3 (fun _ => t1) (hw1.le (by omega)) kp1⟩⟩
    · refine eqF (by decide) ⟨_, rfl, rfl, _, rfl, eqF (by decide) ⟨_, rfl, rfl, _, rfl, eqT (by decide) ?_⟩⟩
      refine ⟨_, rfl, _, rfl, (by show 2 ≤ sizeLine; decide), fun p hp => ?_⟩
      have hw0 : Wl H u ((n + 699) + 1) := hw
      refine ⟨u, p, n + 699, _, rfl, hw0.new hp, hw.ne hp, upd_same, (by simp), (by decide), fun x H1 hx hw1 kp1 => ?_⟩
      obtain ⟨m, rfl, m1, m2⟩ : ∃ m : Int, x = .int m ∧ 1 ≤ m ∧ m ≤ 5 := by
        rcases mem2 hx with rfl | rfl
        · exact ⟨_, rfl, by decide, by decide⟩
        · exact ⟨_, rfl, by decide, by decide⟩
      refine ⟨u, n + 698, _, rfl, hw1, by omega, by omega, fun r H2 r0 r1 hw2 kp2 => ?_⟩
      have kp : Kp u H H2 := ((Kp.refl _ _).new hp).trans (kp1.trans kp2)
      refine ⟨_, _, rfl, rfl, ?_⟩
      refine ⟨⟨_, rfl⟩, _, rfl, _, rfl, by omega, by omega, fun D hD => ?_⟩
      have hN : (1 + r).toNat ≤ 5 := by omega
      refine lc_wl (i := 5) (N := (1 + r).toNat) walk_range (fun _ _ _ _ y => y.1) (fun y => ∃ s, y = .str s ∧ (s.length ≤ 12 ∧ Asc s)) (u := u) (n := n + 1) (k := 102) (hw2.le (by omega)) (Nat.lt_of_le_of_lt hN (by decide)) hD (fun x H3 m3 Q3 hw3 kp3 q3 => ?_) fun H3 ys kp3 hw3 hD3 hl hP => ?_
      · refine ⟨_, rfl, _, rfl, _, rfl, (by show 2 ≤ sizeLine; decide), fun p2 hp2 => ?_⟩
        have hw4 : Wl H3 u ((m3 + 101) + 1) := hw3
        refine ⟨u, p2, m3 + 101, _, rfl, hw4.new hp2, hw3.ne hp2, upd_same, (by simp), (by decide), fun x2 H4 hx2 hw5 kp5 => ?_⟩
        obtain ⟨m', rfl, m1', m2'⟩ : ∃ m : Int, x2 = .int m ∧ 1 ≤ m ∧ m ≤ 12 := by
          rcases mem2 hx2 with rfl | rfl
          · exact ⟨_, rfl, by decide, by decide⟩
          · exact ⟨_, rfl, by decide, by decide⟩
        exact ⟨u, REFCH, 1, m', m3, rfl, by decide, m1', by omega, by decide, by decide, hw5, fun t H5 t1 t2 tc hw6 kp6 => q3 _ _ ⟨t, rfl, by omega, fun c hc => refch_asc c (tc c hc)⟩ hw6 (((Kp.refl _ _).new hp2).trans (kp5.trans kp6))⟩
      · obtain ⟨ss, rfl, hss⟩ := mem_strs hP
        rw [List.length_map] at hl
        have hs12 := sum_le (k := 12) fun s hs => (hss s hs).1
        have hj : (Txt.join ("/" : Str) ss).length ≤ 100 := by
          have := join_len (y := ("/" : Str)) (k := 12) (ss := ss) fun s hs => (hss s hs).1
          have h1 : ("/" : Str).length = 1 := by decide
          rw [h1] at this
          omega
        have ja : Asc (Txt.join ("/" : Str) ss) := join_chars (R := fun c => c < 128) (by decide) fun s hs => (hss s hs).2
        refine ⟨_, D, ss, rfl, rfl, .inl (SqL.of hD3), (by show (ss.map (·.length)).sum + ss.length * 1 ≤ 16777216; omega), ?_⟩
        refine ⟨(by show 4 ≤ sizeLine; decide), fun p4 hp4 => ?_⟩
        refine ⟨_, rfl, u, n, _, rfl, hw3.new hp4, by decide, by decide, fun r4 H4 r40 r41 hw4 kp4 => ?_⟩
        obtain ⟨x4, hx4, ex4⟩ := atI_mem (xs := FARS.map V.str) r40 r41
        obtain ⟨s4, hs4, rfl⟩ := List.mem_map.mp hx4
        have f4 := fars_ok s4 hs4
        refine ⟨p4, _, r4, _, rfl, rfl, SqL.of (kp4 p4 _ upd_same (hw3.ne hp4)), ex4, _, rfl, _, _, rfl, rfl, Nat.le_trans (Nat.add_le_add f4.1 hj) (by decide), k _ _ ?_ (asc_app f4.2 ja) (fun h => absurd rfl h) hw4 (kp.trans (kp3.trans (((Kp.refl _ _).new hp4).trans kp4)))⟩
        rw [len_app]
        omega
    · refine eqF (by decide) ⟨_, rfl, rfl, _, rfl, eqF (by decide) ⟨_, rfl, rfl, _, rfl, eqF (by decide) ⟨_, rfl, rfl, _, rfl, eqT (by decide) ?_⟩⟩⟩
      refine ⟨_, rfl, _, rfl, (by show 2 ≤ sizeLine; decide), fun p hp => ?_⟩
      have hw0 : Wl H u ((n + 699) + 1) := hw
      refine ⟨u, p, n + 699, _, rfl, hw0.new hp, hw.ne hp, upd_same, (by simp), (by decide), fun x H1 hx hw1 kp1 => ?_⟩
      obtain ⟨m, rfl, m1, m2⟩ : ∃ m : Int, x = .int m ∧ 1 ≤ m ∧ m ≤ 12 := by
        rcases mem2 hx with rfl | rfl
        · exact ⟨_, rfl, by decide, by decide⟩
        · exact ⟨_, rfl, by decide, by decide⟩
      refine ⟨u, SMALL, 1, m, n + 598, rfl, by decide, m1, by omega, by decide, by decide, hw1, fun t H2 t1 t2 tc hw2 kp2 => k _ _ (by omega) (fun c hc => small_asc c (tc c hc)) (fun _ => ?_) (hw2.le (by omega)) (((Kp.refl _ _).new hp).trans (kp1.trans kp2))⟩
      show fAuth (some t) = true
      rw [fAuth_some, only_of tc]
      unfold rng
      rw [decide_eq_true (show (1 : Int) ≤ (t.length : Int) by omega), decide_eq_true (show (t.length : Int) ≤ 12 by omega)]
      rfl
    · exact eqF (by decide) ⟨_, rfl, rfl, _, rfl, eqF (by decide) ⟨_, rfl, rfl, _, rfl, eqF (by decide) ⟨_, rfl, rfl, _, rfl, eqF (by decide) ⟨_, rfl, u, n + 597, rfl, hw, fun t H1 t1 t2 t3 hw1 kp1 => k t H1 t2 t3 (fun _ => t1) (hw1.le (by omega)) kp1⟩⟩⟩⟩
/-! ### a thing that stays while u draws -/
def ThK (K : PySem.W.Frag) (u : Addr) (H : Hp) (x : V) (o : Option Str) : Prop := ∀ H2, Kp u H H2 → Thg K H2 x o
theorem ThK.str {u : Addr} {H : Hp} {t : Str} (h : t.length ≤ 100000) (a : Asc t) : ThK K u H (.str t) (some t) := fun _ _ => .str t h a
theorem ThK.kp {u : Addr} {H H' : Hp} {x : V} {o : Option Str} (h : ThK K u H x o) (k : Kp u H H') : ThK K u H' x o := fun H2 k2 => h H2 (k.trans k2)
def ODDS : List Str := ["/", "//", ".", "..", "_", "-", "A", "g", " ", "\n", "~", "0", "a/b", "far/", Txt.mul "x" 13]
theorem odds_ok : ∀ s ∈ ODDS, s.length ≤ 13 ∧ ∀ c ∈ tl s, c < 128 := by decide +kernel
theorem mula_ok (n : Int) (s : Str) (hs : ∀ c ∈ tl s, c < 128) : Asc (Txt.mul s n) := fun c hc => hs c (mul_chars s n c hc)
def spBent (K : PySem.W.Frag) : Sp := fun vs H Q _ => ∃ (u : Addr) (t : Str) (n : Nat), vs = [.ref u, .str t] ∧ t.length ≤ 2000 ∧ Asc t ∧ Wl H u (n + 4) ∧
  ∀ (x : V) (o : Option Str) (H' : Hp), ThK K u H' x o → Wl H' u n → Kp u H H' → Q x H'
def N__law_bent : List Str := ["_law_well_here", "_law_text_here", "_law_at", "_law_some", "_law_odd", "_law_way"]
theorem sc__law_bent : FnScope N__law_bent ["_law_well_here", "_law_text_here"] (defScope s__law_bent) := ⟨rfl, rfl, rfl, by decide +kernel, rfl, by decide +kernel, by decide +kernel⟩
theorem ok__law_bent (T : Ctx K mg) : Ok P w K mg base 3 "_law_bent" ["_law_well_here", "_law_text_here"] (spBent K) := by
  obtain ⟨fd, F⟩ := T.c.def_ 21 (d := d__law_bent) rfl
  refine ⟨⟨fd, F.ok sc__law_bent (fun vs H Q E h => ?_) (fun cdv A outer s H vs Q E hr h => ?_), F.bindsN fun _ _ _ _ _ _ us hl => match us, hl with | [_, _], _ => rfl⟩, F.kp, T.g__law_bent⟩
  · obtain ⟨u, t, n, rfl, _⟩ := h
    rfl
  · obtain ⟨u, t, n, rfl, ht, ha, hw, k⟩ := h
    refine ⟨_, PSs.nox (pss_cons (ps_set (i := 2) sc__law_bent.nd rfl (Or.inl rfl) (pe_own (ok__law_draw T) (hr.mono (by decide)) (by rfl) (pa_cons (pv 0) (pa_cons (pe_op op_add (pe_callB call_len_str (by rfl) T.f_len PySem.boot_len (pa_cons (pv 1) pa_nil)) pe_int) pa_nil))))
      (pss_cons (ps_set (i := 3) sc__law_bent.nd rfl (Or.inl rfl) (pe_lst (pa_cons pe_str (pa_cons pe_str (pa_cons pe_str (pa_cons pe_str (pa_cons pe_str (pa_cons pe_str (pa_cons pe_str (pa_cons pe_str (pa_cons pe_str (pa_cons pe_str (pa_cons pe_str (pa_cons pe_str (pa_cons pe_str (pa_cons pe_str (pa_cons (pe_op op_mul_str pe_str pe_int) pa_nil)))))))))))))))))
      (pss_cons (ps_set (i := 4) sc__law_bent.nd rfl (Or.inl rfl) (pe_own (ok__law_pick T) (hr.mono (by decide)) (by rfl) (pa_cons (pv 0) (pa_cons (pv 3) pa_nil))))
      (pss_cons (ps_set (i := 5) sc__law_bent.nd rfl (Or.inl rfl) (pe_own (ok__law_draw T) (hr.mono (by decide)) (by rfl) (pa_cons (pv 0) (pa_cons pe_int pa_nil))))
      (pss_cons (ps_if (pt_cmpR op_eq (pv 5) pe_int (nomark _))
        (pss_one (ps_ret (pe_op op_add_str (pe_slice sl_str (pv 1) po_none (po_some (pv 2))) (pe_slice sl_str (pv 1) (po_some (pe_op op_add (pv 2) pe_int)) po_none))))
        pss_nil)
      (pss_cons (ps_if (pt_cmpR op_lt (pv 5) pe_int (nomark _))
        (pss_one (ps_ret (pe_op op_add_str (pe_op op_add_str (pe_slice sl_str (pv 1) po_none (po_some (pv 2))) (pv 4)) (pe_slice sl_str (pv 1) (po_some (pv 2)) po_none))))
        pss_nil)
      (pss_cons (ps_if (pt_cmpR op_lt (pv 5) pe_int (nomark _))
        (pss_one (ps_ret (pe_op op_add_str (pe_op op_add_str (pe_slice sl_str (pv 1) po_none (po_some (pv 2))) (pv 4)) (pe_slice sl_str (pv 1) (po_some (pe_op op_add (pv 2) pe_int)) po_none))))
        pss_nil)
      (pss_cons (ps_if (pt_cmpR op_eq (pv 5) pe_int (nomark _))
        (pss_one (ps_ret (pe_op op_add_str (pv 1) (pe_op op_mul_str pe_str (pe_own (ok__law_draw T) (hr.mono (by decide)) (by rfl) (pa_cons (pv 0) (pa_cons pe_int pa_nil)))))))
        pss_nil)
      (pss_cons (ps_if (pt_cmpR op_eq (pv 5) pe_int (nomark _))
        (pss_one (ps_ret (pe_own (ok__law_pick T) (hr.mono (by decide)) (by rfl) (pa_cons (pv 0) (pa_cons (pe_lst (pa_cons (pe_op op_add_str (pv 1) (pv 1)) (pa_cons pe_str (pa_cons pe_str (pa_cons pe_str (pa_cons (pe_op op_add_str (pv 1) (pe_op op_mul_str pe_str pe_int)) (pa_cons (pe_op op_mul_str pe_str pe_int) (pa_cons (pe_op op_mul_str pe_str pe_int) pa_nil)))))))) pa_nil)))))
        pss_nil)
      (pss_one (ps_ret (pe_own (ok__law_pick T) (hr.mono (by decide)) (by rfl) (pa_cons (pv 0) (pa_cons (pe_lst (pa_cons pe_non (pa_cons pe_bl (pa_cons pe_int (pa_cons (pe_lst (pa_cons (pv 1) pa_nil)) (pa_cons (pe_tup (pa_cons (pv 1) pa_nil)) (pa_cons (pe_disp (pps_cons (pv 1) pe_int pps_nil) (by rfl) (by rfl) (fun z => by cases z) (by decide)) (pa_cons (pe_lst pa_nil) (pa_cons pe_dnewK pa_nil))))))))) pa_nil)))))))))))))), ?_⟩
    have z0 : t.length ≤ sizeLine := Nat.le_trans ht (by decide)
    have hw0 : Wl H u ((n + 3) + 1) := hw
    refine ⟨_, rfl, _, rfl, t, rfl, z0, _, _, rfl, rfl, u, n + 3, _, rfl, hw0, by omega, by omega, fun r H1 r0 r1 hw1 kp1 => ?_⟩
    refine ⟨_, _, rfl, rfl, ⟨by decide, by decide, by decide, by decide⟩, (by show 15 ≤ sizeLine; decide), fun p hp => ?_⟩
    refine ⟨_, rfl, _, rfl, u, p, n + 2, ODDS.map V.str, rfl, hw1.new hp, hw1.ne hp, upd_same, (by simp [ODDS]), (by decide), fun x H2 hx hw2 kp2 => ?_⟩
    obtain ⟨od, hod, rfl⟩ := List.mem_map.mp hx
    have f1 := odds_ok od hod
    refine ⟨_, rfl, u, n + 1, _, rfl, hw2, by decide, by decide, fun wy H3 w0 w1 hw3 kp3 => ?_⟩
    have kp : Kp u H H3 := kp1.trans (((Kp.refl _ _).new hp).trans (kp2.trans kp3))
    have la : ∀ lo hi, (cutS t lo hi).length ≤ 2000 := fun lo hi => Nat.le_trans (cutS_length t lo hi) ht
    have fin2 : ∀ (v : Str) (H' : Hp), v.length ≤ 100000 → Asc v → Wl H' u n → Kp u H3 H' → Q (.str v) H' := fun v H' h1 h2 h3 h4 => k _ _ _ (ThK.str h1 h2) h3 (kp.trans h4)
    have zz : ∀ {a b : Nat}, a ≤ 10000 → b ≤ 10000 → a + b ≤ sizeLine := fun h1 h2 => Nat.le_trans (Nat.add_le_add h1 h2) (by decide)
    refine ⟨_, rfl, rfl, _, rfl, ?_⟩
    refine ite2 (fun _ => ?_) (fun _ => ?_)
    · refine ⟨_, rfl, _, rfl, _, rfl, t, rfl, z0, _, rfl, _, rfl, _, _, rfl, rfl, _, rfl, t, rfl, z0, _, _, rfl, rfl, zz (Nat.le_trans (la _ _) (by decide)) (Nat.le_trans (la _ _) (by decide)), fin2 _ _ ?_ (asc_app (cut_asc ha _ _) (cut_asc ha _ _)) (hw3.le (by omega)) (Kp.refl _ _)⟩
      rw [len_app]
      exact Nat.le_trans (Nat.add_le_add (la _ _) (la _ _)) (by decide)
    refine ⟨_, rfl, _, _, rfl, rfl, _, rfl, ?_⟩
    refine ite2 (fun _ => ?_) (fun _ => ?_)
    · have l1 : (cutS t none (some r) ++ od).length ≤ 3000 := by
        rw [len_app]
        exact Nat.le_trans (Nat.add_le_add (la _ _) f1.1) (by decide)
      refine ⟨_, rfl, _, rfl, _, rfl, t, rfl, z0, _, rfl, _, _, rfl, rfl, zz (Nat.le_trans (la _ _) (by decide)) (Nat.le_trans f1.1 (by decide)), _, rfl, _, rfl, _, rfl, t, rfl, z0, _, _, rfl, rfl, zz (Nat.le_trans l1 (by decide)) (Nat.le_trans (la _ _) (by decide)), fin2 _ _ ?_ (asc_app (asc_app (cut_asc ha _ _) f1.2) (cut_asc ha _ _)) (hw3.le (by omega)) (Kp.refl _ _)⟩
      rw [len_app]
      exact Nat.le_trans (Nat.add_le_add l1 (la _ _)) (by decide)
    refine ⟨_, rfl, _, _, rfl, rfl, _, rfl, ?_⟩
    refine ite2 (fun _ => ?_) (fun _ => ?_)
    · have l1 : (cutS t none (some r) ++ od).length ≤ 3000 := by
        rw [len_app]
        exact Nat.le_trans (Nat.add_le_add (la _ _) f1.1) (by decide)
      refine ⟨_, rfl, _, rfl, _, rfl, t, rfl, z0, _, rfl, _, _, rfl, rfl, zz (Nat.le_trans (la _ _) (by decide)) (Nat.le_trans f1.1 (by decide)), _, rfl, _, rfl, _, _, rfl, rfl, _, rfl, t, rfl, z0, _, _, rfl, rfl, zz (Nat.le_trans l1 (by decide)) (Nat.le_trans (la _ _) (by decide)), fin2 _ _ ?_ (asc_app (asc_app (cut_asc ha _ _) f1.2) (cut_asc ha _ _)) (hw3.le (by omega)) (Kp.refl _ _)⟩
      rw [len_app]
      exact Nat.le_trans (Nat.add_le_add l1 (la _ _)) (by decide)
    refine ⟨_, rfl, rfl, _, rfl, ?_⟩
    refine ite2 (fun _ => ?_) (fun _ => ?_)
    · refine ⟨_, rfl, _, rfl, u, n, _, rfl, hw3, by decide, by decide, fun r2 H4 s0 s1 hw4 kp4 => ?_⟩
      have lm : (Txt.mul ("/a" : Str) r2).length ≤ 20 := Nat.le_trans (mul_len _ _) (by show 2 * r2.toNat ≤ 20; omega)
      refine ⟨_, _, rfl, rfl, ⟨s0, by omega, by decide, (by show 2 * r2.toNat ≤ 1000000; omega)⟩, _, _, rfl, rfl, zz (Nat.le_trans ht (by decide)) (Nat.le_trans lm (by decide)), fin2 _ _ ?_ (asc_app ha (mula_ok _ _ (by decide))) hw4 kp4⟩
      rw [len_app]
      omega
    refine ⟨_, rfl, rfl, _, rfl, ?_⟩
    refine ite2 (fun _ => ?_) (fun _ => ?_)
    · have l2000 : (Txt.mul ("a" : Str) 2000).length ≤ 2000 := mul_len _ _
      refine ⟨_, rfl, _, rfl, _, rfl, _, _, rfl, rfl, zz (Nat.le_trans ht (by decide)) (Nat.le_trans ht (by decide)), _, rfl, _, _, rfl, rfl, ⟨by decide, by decide, by decide, by decide⟩, _, _, rfl, rfl, zz (Nat.le_trans ht (by decide)) (Nat.le_trans l2000 (by decide)), _, _, rfl, rfl, ⟨by decide, by decide, by decide, by decide⟩, _, _, rfl, rfl, ⟨by decide, by decide, by decide, by decide⟩, (by show 7 ≤ sizeLine; decide), fun p4 hp4 => ?_⟩
      refine ⟨u, p4, n, [t ++ t, "", ".", "/", t ++ Txt.mul "a" 2000, Txt.mul "a" 12, Txt.mul "a" 13].map V.str, rfl, hw3.new hp4, hw3.ne hp4, upd_same, (by simp), (by show 7 ≤ 1000; decide), fun x H4 hx hw4 kp4 => ?_⟩
      obtain ⟨v, hv, rfl⟩ := List.mem_map.mp hx
      have kp5 : Kp u H3 H4 := ((Kp.refl _ _).new hp4).trans kp4
      have ok : v.length ≤ 100000 ∧ Asc v := by
        simp only [List.mem_cons, List.not_mem_nil, or_false] at hv
        rcases hv with rfl | rfl | rfl | rfl | rfl | rfl | rfl
        · exact ⟨by rw [len_app]; omega, asc_app ha ha⟩
        · exact ⟨by decide, fun c hc => by cases hc⟩
        · exact ⟨by decide, show ∀ c ∈ tl ("." : Str), c < 128 by decide⟩
        · exact ⟨by decide, show ∀ c ∈ tl ("/" : Str), c < 128 by decide⟩
        · exact ⟨by rw [len_app]; omega, asc_app ha (mula_ok _ _ (by decide))⟩
        · exact ⟨Nat.le_trans (mul_len _ _) (by decide), mula_ok _ _ (by decide)⟩
        · exact ⟨Nat.le_trans (mul_len _ _) (by decide), mula_ok _ _ (by decide)⟩
      exact fin2 v H4 ok.1 ok.2 hw4 kp5
    · refine ⟨_, rfl, _, rfl, (by show 1 ≤ sizeLine; decide), fun l1 hl1 => ⟨_, rfl, (by show 1 ≤ sizeLine; decide), fun t1 ht1 => ?_⟩⟩
      refine fun d1 hd1 => ⟨_, rfl, upd_same, [(Sum.inr t, .int 1)], rfl, (by show 1 ≤ 15; decide), ?_⟩
      refine ⟨Nat.zero_le _, fun l2 hl2 => ?_⟩
      refine fun d2 hd2 => ⟨(by show 8 ≤ sizeLine; decide), fun p4 hp4 => ?_⟩
      -- the heaps, one behind the other
      have sA := same_new hl1 (o := .lst [V.str t])
      have sB := same_new ht1 (o := .tup [V.str t])
      have sC : Same (upd (upd H3 l1 (.lst [V.str t])) t1 (.tup [V.str t])) (upd (upd (upd (upd H3 l1 (.lst [V.str t])) t1 (.tup [V.str t])) d1 (.dK [])) d1 (.dK (mergeK [] [(Sum.inr t, .int 1)]))) := same_mut (same_new hd1) hd1
      have sD := same_new hl2 (o := .lst [])
      have sE := same_new hd2 (o := .dK [])
      have sF := same_new hp4 (o := .lst [V.non, V.bl true, V.int 0, V.ref l1, V.ref t1, V.ref d1, V.ref l2, V.ref d2])
      have e1 := sF _ _ (sE _ _ (sD _ _ (sC _ _ (sB _ _ (upd_same (H := H3) (a := l1) (o := .lst [V.str t]))))))
      have e2 := sF _ _ (sE _ _ (sD _ _ (sC _ _ (upd_same (H := upd H3 l1 (.lst [V.str t])) (a := t1) (o := .tup [V.str t])))))
      have e3 := sF _ _ (sE _ _ (sD _ _ (upd_same (H := upd (upd (upd H3 l1 (.lst [V.str t])) t1 (.tup [V.str t])) d1 (.dK [])) (a := d1) (o := .dK (mergeK [] [(Sum.inr t, .int 1)])))))
      have e4 := sF _ _ (sE _ _ (upd_same (H := upd (upd (upd (upd H3 l1 (.lst [V.str t])) t1 (.tup [V.str t])) d1 (.dK [])) d1 (.dK (mergeK [] [(Sum.inr t, .int 1)]))) (a := l2) (o := .lst [])))
      have e5 := sF _ _ (upd_same (H := upd (upd (upd (upd (upd H3 l1 (.lst [V.str t])) t1 (.tup [V.str t])) d1 (.dK [])) d1 (.dK (mergeK [] [(Sum.inr t, .int 1)]))) l2 (.lst [])) (a := d2) (o := .dK []))
      have sAll : Same H3 _ := sA.trans (sB.trans (sC.trans (sD.trans (sE.trans sF))))
      have hwF := hw3.same sAll
      have e6 : _ = some (HO.lst [V.non, V.bl true, V.int 0, V.ref l1, V.ref t1, V.ref d1, V.ref l2, V.ref d2]) := upd_same (H := upd (upd (upd (upd (upd (upd H3 l1 (.lst [V.str t])) t1 (.tup [V.str t])) d1 (.dK [])) d1 (.dK (mergeK [] [(Sum.inr t, .int 1)]))) l2 (.lst [])) d2 (.dK [])) (a := p4)
      have np : p4 ≠ u := (hw3.same (sA.trans (sB.trans (sC.trans (sD.trans sE))))).ne hp4
      have n1 : l1 ≠ u := hw3.ne hl1
      have n2 : t1 ≠ u := (hw3.same sA).ne ht1
      have n3 : d1 ≠ u := (hw3.same (sA.trans sB)).ne hd1
      have n4 : l2 ≠ u := (hw3.same (sA.trans (sB.trans sC))).ne hl2
      have n5 : d2 ≠ u := (hw3.same (sA.trans (sB.trans (sC.trans sD)))).ne hd2
      refine ⟨u, p4, n, _, rfl, hwF, np, e6, (by simp), (by show 8 ≤ 1000; decide), fun x H4 hx hw4 kp4 => ?_⟩
      refine k x none H4 (fun H5 kp5 => ?_) hw4 (kp.trans ((Kp.of sAll).trans kp4))
      have kk := kp4.trans kp5
      have fl : kitB "list" "str" = some false := by decide +kernel
      have ft : kitB "tuple" "str" = some false := by decide +kernel
      have fdd : kitB "dict" "str" = some false := by decide +kernel
      simp only [List.mem_cons, List.not_mem_nil, or_false] at hx
      rcases hx with rfl | rfl | rfl | rfl | rfl | rfl | rfl | rfl
      · exact .oth (.base .non) (by decide +kernel)
      · exact .oth (.base (.bl true)) (by decide +kernel)
      · exact .oth (.base (.int 0)) (by decide +kernel)
      · exact .oth (.base (.lst (kk _ _ e1 n1))) fl
      · exact .oth (.base (.tup (kk _ _ e2 n2))) ft
      · exact .oth (.base (.dK (kk _ _ e3 n3))) fdd
      · exact .oth (.base (.lst (kk _ _ e4 n4))) fl
      · exact .oth (.base (.dK (kk _ _ e5 n5))) fdd
end
end K01
namespace K01
open PySem PySem.Spec PyProof.Rows L2 Fk TL
/-! ### a call of the def that a slot holds -/
def tCallO (P : Program) (w : World) (K : PySem.W.Frag) (mg : Str → Option Value) (base : Heap) (k i : Nat) (t : TA) : TE := fun σ H Q => ∃ f, σ[i]? = some (some (.ref f)) ∧ ∃ (fd : FuncData) (ps : List Str) (sp : Sp) (ds : List Value) (dvs : List V),
  FnOk P w K mg base CX0 k f fd ps sp ∧ PySem.W.keepIn K (.ref f) = true ∧ Binds K fd ps ds ∧ Vals dvs ds ∧ t σ H fun vs H1 => sp (vs ++ dvs) H1 Q E0
theorem pe_callO {X : Cx} {k : Nat} (i : Nat) {x : Str} {p pos : Pos} {e : Expr} {es : List Expr} {t : TA} (hr : Room k X.A) (ha : PA X (e :: es) t) (hN : X.N[i]? = some x := by rfl) (hv : Vis X.env.scope x := by first | exact Or.inl rfl | exact Or.inr (Or.inl rfl) | exact Or.inr (Or.inr rfl))
    (hdb : (x == ("__debug__" : Str)) = false := by decide) (hcd : (x == ("__classdict__" : Str)) = false := by decide)
    (he : starEach (e :: es) X.env = (false, eval e X.env) :: starEach es X.env := by rfl) (hpl : (backTo pos (starEach es X.env)).any (·.1) = false := by rfl) :
    PE X (.Call (.Name x p) (e :: es) [] pos) (tCallO X.prog X.w X.K X.mg X.base k i t) := by
  refine ⟨fun pins s σ H Q I h => ?_⟩
  obtain ⟨f, hs, fd, ps, sp, ds, dvs, F, hk, hb, hd, ht⟩ := h
  exact (pe_callL (i := i) (f := f) (sp := sp) (dvs := dvs) (E := E0) F hr hN hv hk hb hd pass0 ha hdb hcd he hpl).run pins s σ H Q I ⟨hs, ht⟩
theorem cutV_mem {xs : List V} {lo hi : Option Int} {x : V} (h : x ∈ cutV xs lo hi) : x ∈ xs := List.mem_of_mem_drop (List.mem_of_mem_take h)
theorem cutV_len (xs : List V) (lo hi : Option Int) : (cutV xs lo hi).length ≤ xs.length := by
  unfold cutV
  rw [List.length_take, List.length_drop]
  omega
section
variable {P : Program} {w : World} {K : PySem.W.Frag} {mg : Str → Option Value} {base : Heap}
def spLaw (K : PySem.W.Frag) : Sp := fun vs H Q _ => ∃ (a : Addr) (ns : List Int), vs = [.ref a] ∧ SqL K H a (ns.map V.int) ∧ ns.length ≤ 63 ∧ ∀ H', Q (.bl true) H'
/-- what the j-th of the five asks -/
theorem asked (T : Ctx K mg) {j : Nat} (hj : j < 5) {x : V} {o : Option Str} {H : Hp} (th : Thg K H x o) :
    ∃ f, atI [V.ref (He.ga K "is_id"), V.ref (He.ga K "is_path"), V.ref (He.ga K "is_ref"), V.ref (He.ga K "is_author"), V.ref (He.ga K "is_text")] (j : Int) = some (.ref f) ∧
      ∃ (fd : FuncData) (ps : List Str) (sp : Sp) (ds : List Value) (dvs : List V), FnOk P w K mg base CX0 3 f fd ps sp ∧ PySem.W.keepIn K (.ref f) = true ∧ Binds K fd ps ds ∧ Vals dvs ds ∧ ∀ Q : VK, (∀ H', Same H H' → Q (.bl (fDue (j : Int) o)) H') → sp ([x] ++ dvs) H Q E0 := by
  have h5 : j = 0 ∨ j = 1 ∨ j = 2 ∨ j = 3 ∨ j = 4 := by omega
  rcases h5 with rfl | rfl | rfl | rfl | rfl
  · obtain ⟨⟨fd, F, b⟩, kp, m⟩ := ok_is_id (P := P) (w := w) (base := base) T
    exact ⟨_, atI_nat (j := 0) rfl, fd, _, _, _, _, F.mono (by decide), kp, b, .nil, fun Q q => ⟨x, o, rfl, th, q⟩⟩
  · obtain ⟨⟨fd, F, b⟩, kp, m⟩ := ok_is_path (P := P) (w := w) (base := base) T
    exact ⟨_, atI_nat (j := 1) rfl, fd, _, _, _, _, F.mono (by decide), kp, b, .nil, fun Q q => ⟨x, o, rfl, th, q⟩⟩
  · obtain ⟨⟨fd, F, b⟩, kp, m⟩ := ok_is_ref (P := P) (w := w) (base := base) T
    exact ⟨_, atI_nat (j := 2) rfl, fd, _, _, _, _, F.mono (by decide), kp, b, .nil, fun Q q => ⟨x, o, rfl, th, q⟩⟩
  · obtain ⟨⟨fd, F, b⟩, kp, m⟩ := ok_is_author (P := P) (w := w) (base := base) T
    exact ⟨_, atI_nat (j := 3) rfl, fd, _, _, _, _, F.mono (by decide), kp, b, .nil, fun Q q => ⟨x, o, rfl, th, q⟩⟩
  · obtain ⟨fd, F, ⟨ds, hd, b⟩, kp⟩ := ok_is_text (P := P) (w := w) (base := base) T
    exact ⟨_, atI_nat (j := 4) rfl, fd, _, _, ds, _, F.mono (by decide), kp, b, hd, fun Q q => ⟨x, 2000, o, rfl, th, q⟩⟩
theorem Thg.same {H H' : Hp} {x : V} {o : Option Str} (u : Addr) (h : ThK K u H x o) (s : Same H H') : Thg K H' x o := h H' (Kp.of s)
def N_law : List Str := ["_law_script", "_law_asks", "_law_cell", "_law_well_here", "_law_kind", "_law_text_here", "_law_thing", "_law_other", "_law_ask", "_law_found"]
theorem sc_law : FnScope N_law ["_law_script"] (defScope s_law) := ⟨rfl, rfl, rfl, by decide +kernel, rfl, by decide +kernel, by decide +kernel⟩
theorem ok_law (T : Ctx K mg) {fd : FuncData} (F : FunD K d_law.name d_law.qual d_law.params d_law.body d_law.scope (d_law.dvs K) (d_law.kws K) (He.fAd K d_law.at_) fd) : FnOk P w K mg base CX0 6 (He.ga K "law") fd ["_law_script"] (spLaw K) := by
  refine F.ok sc_law (fun vs H Q E h => ?_) (fun cdv A outer s H vs Q E hr h => ?_)
  · obtain ⟨a, ns, rfl, _⟩ := h
    rfl
  · obtain ⟨a, ns, rfl, hS, hlen, k⟩ := h
    refine ⟨_, PSs.nox (pss_cons (ps_set (i := 1) sc_law.nd rfl (Or.inl rfl) (pe_lst (pa_cons (pe_gref (T.g_is_id) (by rfl)) (pa_cons (pe_gref (T.g_is_path) (by rfl)) (pa_cons (pe_gref (T.g_is_ref) (by rfl)) (pa_cons (pe_gref (T.g_is_author) (by rfl)) (pa_cons (pe_gref (T.g_is_text) (by rfl)) pa_nil)))))))
      (pss_cons (ps_for PassesOwn.never rfl (pi_list (pe_op op_cat (pe_lst (pa_cons (pe_own (ok__law_cell_at T) (hr.mono (by decide)) (by rfl) (pa_cons (pv 0) (pa_cons pe_int pa_nil))) pa_nil)) (pe_slice sl_list (pv 0) (po_some pe_int) (po_some pe_int)))) (pg_name (i := 2) sc_law.nd rfl (Or.inl rfl))
        (pss_cons (ps_set (i := 3) sc_law.nd rfl (Or.inl rfl) (pe_own (ok__law_well T) (hr.mono (by decide)) (by rfl) (pa_cons (pv 2) pa_nil)))
        (pss_one (ps_for PassesOwn.never rfl (pi_range1 (by rfl) T.f_range (pa_cons pe_int pa_nil)) (pg_name (i := 4) sc_law.nd rfl (Or.inl rfl))
          (pss_cons (ps_set (i := 5) sc_law.nd rfl (Or.inl rfl) (pe_own (ok__law_good T) (hr.mono (by decide)) (by rfl) (pa_cons (pv 3) (pa_cons (pv 4) pa_nil))))
          (pss_cons (ps_for PassesOwn.never rfl (pi_list (pe_lst (pa_cons (pv 5) (pa_cons (pe_own (ok__law_bent T) (hr.mono (by decide)) (by rfl) (pa_cons (pv 3) (pa_cons (pv 5) pa_nil))) (pa_cons (pe_own (ok__law_bent T) (hr.mono (by decide)) (by rfl) (pa_cons (pv 3) (pa_cons (pv 5) pa_nil))) pa_nil))))) (pg_name (i := 6) sc_law.nd rfl (Or.inl rfl))
            (pss_one (ps_for PassesOwn.never rfl (pi_range1 (by rfl) T.f_range (pa_cons pe_int pa_nil)) (pg_name (i := 7) sc_law.nd rfl (Or.inl rfl))
              (pss_cons (ps_set (i := 8) sc_law.nd rfl (Or.inl rfl) (pe_ix ix_list (pv 1) (pv 7) (fun _ _ => rfl)))
              (pss_cons (ps_set (i := 9) sc_law.nd rfl (Or.inl rfl) (pe_callO (k := 3) 8 (hr.mono (by decide)) (pa_cons (pv 6) pa_nil)))
              (pss_one (ps_if (PW.pt (pw_or (pt_not (pt_val (pe_callB call_isi (by rfl) T.f_isinstance (by decide +kernel) (pa_cons (pv 9) (pa_cons (pe_bltn (v := .ty "bool") (u := .type "bool") (by rfl) T.f_bool (by decide +kernel) rfl) pa_nil))))) (pw_or1 (pt_cmpR op_ne (pv 9) (pe_own (ok__law_due T) (hr.mono (by decide)) (by rfl) (pa_cons (pv 7) (pa_cons (pv 6) pa_nil))) (nomark _)))))
                (pss_one (ps_ret pe_bl))
                pss_nil)))))))
          (pss_one (ps_if (PW.pt (pw_and (pt_not (pt_val (pe_own (ok__law_due T) (hr.mono (by decide)) (by rfl) (pa_cons (pv 4) (pa_cons (pv 5) pa_nil))))) (pw_and1 (pt_cmpR op_ne (pv 4) pe_int (nomark _)))))
            (pss_one (ps_ret pe_bl))
            pss_nil))))))))
      (pss_one (ps_ret pe_bl)))), ?_⟩
    refine ⟨(by show 5 ≤ sizeLine; decide), fun pa hpa => ?_⟩
    have s1 := same_new hpa (o := .lst [V.ref (He.ga K "is_id"), V.ref (He.ga K "is_path"), V.ref (He.ga K "is_ref"), V.ref (He.ga K "is_author"), V.ref (He.ga K "is_text")])
    have ea : upd H pa (.lst [V.ref (He.ga K "is_id"), V.ref (He.ga K "is_path"), V.ref (He.ga K "is_ref"), V.ref (He.ga K "is_author"), V.ref (He.ga K "is_text")]) pa = some (.lst [V.ref (He.ga K "is_id"), V.ref (He.ga K "is_path"), V.ref (He.ga K "is_ref"), V.ref (He.ga K "is_author"), V.ref (He.ga K "is_text")]) := upd_same
    refine ⟨_, rfl, a, ns, 0, rfl, s1.seq hS, by decide, fun n0 => ⟨(by show 1 ≤ sizeLine; decide), fun q1 hq1 => ?_⟩⟩
    have s2 := same_new hq1 (o := .lst [V.int n0])
    refine ⟨_, rfl, _, rfl, _, rfl, a, _, rfl, s2.seq (s1.seq hS), fun q2 hq2 => ?_⟩
    have s3 := same_new hq2 (o := .lst (cutV (ns.map V.int) (some 1) (some 16)))
    refine ⟨q1, q2, _, _, rfl, rfl, s3 _ _ upd_same, upd_same, ?_, fun q3 hq3 => ?_⟩
    · have := cutV_len (ns.map V.int) (some 1) (some 16)
      rw [List.length_map] at this
      have e := sizeLine_eq
      show 1 + _ ≤ sizeLine
      omega
    have s4 := same_new hq3 (o := .lst ([V.int n0] ++ cutV (ns.map V.int) (some 1) (some 16)))
    have ea4 := s4 _ _ (s3 _ _ (s2 _ _ ea))
    have hints : ∀ x ∈ [V.int n0] ++ cutV (ns.map V.int) (some 1) (some 16), ∃ n, x = .int n := fun x hx => by
      rcases List.mem_append.mp hx with h | h
      · exact ⟨n0, List.mem_singleton.mp h⟩
      · obtain ⟨n, _, e⟩ := List.mem_map.mp (cutV_mem h)
        exact ⟨n, e.symm⟩
    have eq3 : upd (upd (upd (upd H pa (.lst [V.ref (He.ga K "is_id"), V.ref (He.ga K "is_path"), V.ref (He.ga K "is_ref"), V.ref (He.ga K "is_author"), V.ref (He.ga K "is_text")])) q1 (.lst [V.int n0])) q2 (.lst (cutV (ns.map V.int) (some 1) (some 16)))) q3 (.lst ([V.int n0] ++ cutV (ns.map V.int) (some 1) (some 16))) q3 = some (.lst ([V.int n0] ++ cutV (ns.map V.int) (some 1) (some 16))) := upd_same
    generalize upd (upd (upd (upd H pa (.lst [V.ref (He.ga K "is_id"), V.ref (He.ga K "is_path"), V.ref (He.ga K "is_ref"), V.ref (He.ga K "is_author"), V.ref (He.ga K "is_text")])) q1 (.lst [V.int n0])) q2 (.lst (cutV (ns.map V.int) (some 1) (some 16)))) q3 (.lst ([V.int n0] ++ cutV (ns.map V.int) (some 1) (some 16))) = H0 at eq3 ea4 ⊢
    generalize [V.int n0] ++ cutV (ns.map V.int) (some 1) (some 16) = xs at eq3 hints ⊢
    refine ⟨q3, rfl, ⟨_, SqL.of eq3⟩, for_list (K := K) (a := q3) (xs := xs) (fun i σ H2 => ∃ v2 v3 v4 v5 v6 v7 v8 v9 : Option V, σ = [some (.ref a), some (.ref pa), v2, v3, v4, v5, v6, v7, v8, v9] ∧ Same H0 H2)
      ⟨none, none, none, none, none, none, none, none, rfl, Same.refl _⟩ (fun i σ H2 _ ⟨_, _, _, _, _, _, _, _, _, z⟩ => SqL.of (z _ _ eq3)) ?_ fun σ H2 ⟨_, _, _, _, _, _, _, _, e, _⟩ => k H2⟩
    rintro i x σ H2 hi ⟨v2, v3, v4, v5, v6, v7, v8, v9, rfl, z2⟩
    obtain ⟨n, rfl⟩ := hints x (List.mem_of_getElem? hi)
    refine ⟨_, rfl, n, rfl, fun pw H3 hpw z3 hw => ?_⟩
    have ea3 := z3 _ _ (z2 _ _ ea4)
    have npa : pa ≠ pw := ne_of_none (z2 _ _ ea4) hpw
    refine ⟨5, rfl, by decide, by decide, for_range (n := 5) (fun j σ H4 => ∃ v4 v5 v6 v7 v8 v9 : Option V, σ = [some (.ref a), some (.ref pa), some (.int n), some (.ref pw), v4, v5, v6, v7, v8, v9] ∧ Wl H4 pw (1000000 - j * 1000) ∧ Kp pw H3 H4)
      ⟨v4, v5, v6, v7, v8, v9, rfl, hw, Kp.refl _ _⟩ ?_ fun σ H4 ⟨w4, w5, w6, w7, w8, w9, e, _, z4⟩ => ⟨some (.int n), some (.ref pw), w4, w5, w6, w7, w8, w9, e, fun b o hb => z4 b o (z3 b o (z2 b o hb)) (ne_of_none (z2 b o hb) hpw)⟩⟩
    rintro j σ H4 hj ⟨w4, w5, w6, w7, w8, w9, rfl, hw4, z4⟩
    have ea4' := z4 _ _ ea3 npa
    have ej : (0 : Int) + (j : Int) = (j : Int) := by omega
    refine ⟨_, rfl, _, rfl, pw, _, (1000000 - (j + 1) * 1000) + 100, rfl, by omega, by omega, hw4.le (by omega), fun t H5 t1 t2 t3 hw5 kp5 => ?_⟩
    refine ⟨_, rfl, _, rfl, _, rfl, pw, t, (1000000 - (j + 1) * 1000) + 50, rfl, t1, t2, hw5.le (by omega), fun x1 o1 H6 th1 hw6 kp6 => ?_⟩
    refine ⟨_, rfl, _, rfl, pw, t, (1000000 - (j + 1) * 1000), rfl, t1, t2, hw6.le (by omega), fun x2 o2 H7 th2 hw7 kp7 => ?_⟩
    refine ⟨(by show 3 ≤ sizeLine; decide), fun ql hql => ?_⟩
    have z8 := same_new hql (o := .lst [V.str t, x1, x2])
    have eql : upd H7 ql (.lst [V.str t, x1, x2]) ql = some (.lst [V.str t, x1, x2]) := upd_same
    have ea8 := z8 _ _ (kp7 _ _ (kp6 _ _ (kp5 _ _ ea4' npa) npa) npa)
    have hw8 := hw7.same z8
    have kp8 : Kp pw H3 (upd H7 ql (.lst [V.str t, x1, x2])) := z4.trans (kp5.trans (kp6.trans (kp7.trans (.of z8))))
    have hth : ∀ x ∈ [V.str t, x1, x2], ∃ o, ThK K pw (upd H7 ql (.lst [V.str t, x1, x2])) x o := fun x hx => by
      simp only [List.mem_cons, List.not_mem_nil, or_false] at hx
      rcases hx with rfl | rfl | rfl
      · exact ⟨_, ThK.str (Nat.le_trans t1 (by decide)) t2⟩
      · exact ⟨o1, th1.kp (kp7.trans (.of z8))⟩
      · exact ⟨o2, th2.kp (.of z8)⟩
    generalize upd H7 ql (.lst [V.str t, x1, x2]) = H8 at eql ea8 hw8 kp8 hth ⊢
    refine ⟨ql, rfl, ⟨_, SqL.of eql⟩, for_list (K := K) (a := ql) (xs := [V.str t, x1, x2]) (fun i σ H9 => ∃ v6 v7 v8 v9 : Option V, σ = [some (.ref a), some (.ref pa), some (.int n), some (.ref pw), some (.int (0 + (j : Int))), some (.str t), v6, v7, v8, v9] ∧ Same H8 H9)
      ⟨w6, w7, w8, w9, rfl, Same.refl _⟩ (fun i σ H9 _ ⟨_, _, _, _, _, z⟩ => SqL.of (z _ _ eql)) ?_ fun σ H9 ⟨u6, u7, u8, u9, e, z9⟩ => ?_⟩
    · rintro i2 y σ H9 hi2 ⟨u6, u7, u8, u9, rfl, z9⟩
      obtain ⟨o, tho⟩ := hth y (List.mem_of_getElem? hi2)
      refine ⟨5, rfl, by decide, by decide, for_range (n := 5) (fun m σ H10 => ∃ v7 v8 v9 : Option V, σ = [some (.ref a), some (.ref pa), some (.int n), some (.ref pw), some (.int (0 + (j : Int))), some (.str t), some y, v7, v8, v9] ∧ Same H8 H10)
        ⟨u7, u8, u9, rfl, z9⟩ ?_ fun σ H10 ⟨y7, y8, y9, e, z10⟩ => ⟨some y, y7, y8, y9, e, z10⟩⟩
      rintro m σ H10 hm ⟨y7, y8, y9, rfl, z10⟩
      have em : (0 : Int) + (m : Int) = (m : Int) := by omega
      obtain ⟨f, ef, fdx, ps, sp, ds, dvs, FO, kpx, bx, vx, hsp⟩ := asked (P := P) (w := w) (base := base) T hm (Thg.same pw tho z10)
      refine ⟨_, rfl, _, rfl, pa, _, _, _, rfl, rfl, SqL.of (z10 _ _ ea8), (by rw [em]; exact ef), ?_⟩
      refine ⟨f, rfl, fdx, ps, sp, ds, dvs, FO, kpx, bx, vx, _, rfl, hsp _ fun H' s' => ?_⟩
      refine ⟨_, rfl, _, _, _, _, _, rfl, .ty "bool", .base (.bl _), kit_ty (show kitB "bool" "bool" = some true by decide +kernel), _, rfl, iteF ⟨_, rfl, _, rfl, _, rfl, (0 : Int) + (m : Int), y, o, rfl, by omega, by omega, Thg.same pw tho (z10.trans s'), fun H11 s11 => ⟨rfl, _, rfl, ?_⟩⟩⟩
      exact iteNS (by rw [em]) ⟨_, _, _, rfl, z10.trans (s'.trans s11)⟩
    · subst e
      refine ⟨_, rfl, _, rfl, (0 : Int) + (j : Int), _, some t, rfl, by omega, by omega, .str t (Nat.le_trans t1 (by decide)) t2, fun H10 s10 => ⟨_, rfl, ?_⟩⟩
      have done : ∃ v4 v5 v6 v7 v8 v9 : Option V, [some (V.ref a), some (V.ref pa), some (V.int n), some (V.ref pw), some (V.int (0 + (j : Int))), some (V.str t), u6, u7, u8, u9] = [some (V.ref a), some (V.ref pa), some (V.int n), some (V.ref pw), v4, v5, v6, v7, v8, v9] ∧ Wl H10 pw (1000000 - (j + 1) * 1000) ∧ Kp pw H3 H10 :=
        ⟨_, _, _, _, _, _, rfl, hw8.same (z9.trans s10), kp8.trans (.of (z9.trans s10))⟩
      by_cases h2 : (0 : Int) + (j : Int) = 2
      · refine ite2 (fun _ => ⟨_, rfl, rfl, _, rfl, ?_⟩) (fun _ => done)
        exact iteNS (by rw [h2]) done
      · rw [t3 h2]
        exact iteF done
end
end K01
namespace K01
open PySem PySem.Spec PyProof.Rows L2 Fk TL
theorem facts {P : Program} {w : World} {K : PySem.W.Frag} {h : Heap} {mg : Str → Option Value} {f : Addr} (X : K.In h) (G : h.Ns mainGlobals mg) (hfa : mg ("law" : Str) = some (.ref f)) (c : He.SaysD fa fn K) :
    ∃ fd : FuncData, (∀ (s : Shared) (v : Value), BindsTo s fd ⟨[v], []⟩ [("_law_script", v)]) ∧ ∀ base : Heap, K.In base → base.Ns mainGlobals mg → FnOk P w K mg base CX0 6 f fd ["_law_script"] (spLaw K) := by
  have T : Ctx K mg := ⟨⟨h, X, G⟩, c⟩
  obtain ⟨fd, F⟩ := c.def_ 22 (d := d_law) rfl
  have e := hfa.symm.trans T.g_law
  cases e
  have b := FunD.bindsA (ps := ["_law_script"]) F fun _ _ _ _ _ _ us hl => match us, hl with | [_], _ => rfl
  exact ⟨fd, fun s v => b s [v] rfl, fun base _ _ => ok_law T F⟩
end K01
open PySem PySem.W PySem.Calls PyProof.Rows
theorem PySem.Challenge.cw_forkhaul_k01_words_holds : PySem.Challenge.rw_forkhaul_k01_words.Holds := by
  w_on; o_law
  refine HandSHeadRun.head_any (r := OpenLaw.row PySem.Challenge.rw_forkhaul_k01_words) (q := view (OpenLaw.row PySem.Challenge.rw_forkhaul_k01_words).prog [34]) (H := K01.hk) (ob := K01.ob) (M := 4000) (loose := K01.loose) (d := HandSHeadRun.topDef (OpenLaw.row PySem.Challenge.rw_forkhaul_k01_words).prog 34) (kwd := []) K01.ob_eq
    (by kernel_rfl) (fun s => by kernel_rfl) K01.run (by kernel_rfl) (by kernel_rfl) (by kernel_rfl) (by rfl) (by first | assumption | decide +kernel) (by decide +kernel) ⟨rfl, rfl, rfl, rfl, rfl, by decide +kernel⟩ ?hw ?hc
  case hw => w_witness2
  case hc =>
    refine L2.walk_ofE (l := PySem.Challenge.rw_forkhaul_k01_words) (n := 63) (k := 6) (x := "_law_script") (CX := L2.CX0) rfl (by decide) (by kernel_rfl) ⟨rfl, by decide, by decide⟩ ?F (fun _ _ _ _ z => z)
    intro w mg fa h Y G hmg0
    obtain ⟨K, KX, c⟩ := Y
    have hmg : mg ("law" : PySem.Str) = some (.ref fa) := by
      have e : (HandSHeadRun.topDef (OpenLaw.row PySem.Challenge.rw_forkhaul_k01_words).prog 34).name = ("law" : PySem.Str) := by kernel_rfl
      rw [← e]
      exact hmg0
    obtain ⟨fd, hb, hF⟩ := K01.facts (P := (PySem.Challenge.rw_forkhaul_k01_words).prog) (w := w) KX G hmg c
    exact ⟨K, fd, K01.spLaw K, KX, hb, fun H a ns hl _ hS => ⟨a, ns, rfl, hS, hl, fun _ => rfl⟩, hF⟩
