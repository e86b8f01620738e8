import PyProof.Rows.All
import Wide.All
import OpenK.AllK
import Wide.FinOn
import KE.KStateDown
import HandS.ForMost
import HandS.IsInst
import HandS.CallLocal
import HandS.Defaults
import HandS.Wide
import HandS.Walk
import HandS.Flow
import HandS.Head0
import HandS.Head1
import HandS.Head2
import HandS.HeadEnd
import HandS.HeadHook1
import HandS.HeadHook2
import KE.KSuper
import KE.KExcSuper
import HandS.Exc
import HandS.ExcInit
import HandS.ExcSuper
import HandS.TryOnly
import HandS.TryMany
import HandS.WordsExc
import HandS.MakeKw
import HandS.Codes
import HandS.ExcValue
import KE.KExcIs
import HandS.ExcIs
import HandS.ExcField
import PySem.Challenge.RW_forkhaul_k02_errors_and_their_kinds
set_option Elab.async false
set_option linter.all false
set_option maxRecDepth 100000
set_option maxHeartbeats 0
namespace Fk
open PySem PySem.Spec PyProof.Rows L2 TL
/-! ### heaps: all stands as it was, but at w -/
def Kp (w : Addr) (H H' : Hp) : Prop := ∀ b o, H b = some o → b ≠ w → H' b = some o
theorem Kp.refl (w : Addr) (H : Hp) : Kp w H H := fun _ _ h _ => h
theorem Kp.trans {w : Addr} {H H1 H2 : Hp} (a : Kp w H H1) (b : Kp w H1 H2) : Kp w H H2 := fun c o h n => b c o (a c o h n) n
theorem Kp.of {w : Addr} {H H' : Hp} (s : Same H H') : Kp w H H' := fun c o h _ => s c o h
theorem same_new {H : Hp} {p : Addr} {o : HO} (h : H p = none) : Same H (upd H p o) := fun b u e => by
  rw [upd_ne (ne_of_none e h)]
  exact e
theorem Kp.new {w p : Addr} {H H' : Hp} {o : HO} (k : Kp w H H') (h : H' p = none) : Kp w H (upd H' p o) := k.trans (.of (same_new h))
theorem Kp.put {w : Addr} {H H' : Hp} {o : HO} (k : Kp w H H') : Kp w H (upd H' w o) := fun c u h n => by
  rw [upd_ne n]
  exact k c u h n
/-- an object that H does not know may change -/
theorem Kp.mut {w p : Addr} {H H' : Hp} {o : HO} (k : Kp w H H') (h : H p = none) : Kp w H (upd H' p o) := fun c u e n => by
  rw [upd_ne (ne_of_none e h)]
  exact k c u e n
theorem same_mut {p : Addr} {H H' : Hp} {o : HO} (k : Same H H') (h : H p = none) : Same H (upd H' p o) := fun c u e => by
  rw [upd_ne (ne_of_none e h)]
  exact k c u e
theorem Kp.free {w p : Addr} {H H' : Hp} (k : Kp w H H') (n : p ≠ w) (h : H' p = none) : H p = none := by
  cases q : H p with
  | none => rfl
  | some o =>
    rw [k p o q n] at h
    cases h
/-! ### a source of draws at w: three numbers; n draws are left -/
def Wl (H : Hp) (w : Addr) (n : Nat) : Prop := ∃ a b c : Int, H w = some (.lst [.int a, .int b, .int c]) ∧ 0 ≤ a ∧ 0 ≤ c ∧ c + n ≤ 1000000
theorem Wl.le {H : Hp} {w : Addr} {n m : Nat} (h : Wl H w n) (e : m ≤ n) : Wl H w m := by
  obtain ⟨a, b, c, h1, h2, h3, h4⟩ := h
  exact ⟨a, b, c, h1, h2, h3, by omega⟩
theorem Wl.new {H : Hp} {w p : Addr} {n : Nat} {o : HO} (h : Wl H w n) (hp : H p = none) : Wl (upd H p o) w n := by
  obtain ⟨a, b, c, h1, h2⟩ := h
  exact ⟨a, b, c, by rw [upd_ne (ne_of_none h1 hp)]; exact h1, h2⟩
theorem Wl.mut {H : Hp} {w p : Addr} {n : Nat} {o : HO} (h : Wl H w n) (hp : w ≠ p) : Wl (upd H p o) w n := by
  obtain ⟨a, b, c, h1, h2⟩ := h
  exact ⟨a, b, c, by rw [upd_ne hp]; exact h1, h2⟩
theorem Wl.same {H H' : Hp} {w : Addr} {n : Nat} (h : Wl H w n) (s : Same H H') : Wl H' w n := by
  obtain ⟨a, b, c, h1, h2⟩ := h
  exact ⟨a, b, c, s _ _ h1, h2⟩
theorem Wl.ne {H : Hp} {w p : Addr} {n : Nat} (h : Wl H w n) (hp : H p = none) : p ≠ w := by
  obtain ⟨a, b, c, h1, _⟩ := h
  exact (ne_of_none h1 hp).symm
/-! ### a def of the module by its name -/
structure Ok (P : Program) (w : World) (K : PySem.W.Frag) (mg : Str → Option Value) (base : Heap) (k : Nat) (x : Str) (ps : List Str) (sp : Sp) : Prop where
  ex : ∃ fd, FnOk P w K mg base CX0 k (He.ga K x) fd ps sp ∧ Binds K fd ps []
  kp : PySem.W.keepIn K (.ref (He.ga K x)) = true
  m : mg x = some (.ref (He.ga K x))
section
variable {X : Cx} {j : Nat} {x : Str} {ps : List Str} {sp : Sp} {p pos : Pos} {e : Expr} {es : List Expr} {t : TA}
theorem pe_own (O : Ok X.prog X.w X.K X.mg X.base j x ps sp) (hr : Room j X.A) (hg : Gl X x) (ha : PA X (e :: es) t) (hdb : (x == ("__debug__" : Str)) = false := by decide)
    (he : starEach (e :: es) X.env = (false, eval e X.env) :: starEach es X.env := by rfl) (hpl : (backTo pos (starEach es X.env)).any (·.1) = false := by rfl) :
    PE X (.Call (.Name x p) (e :: es) [] pos) (tCall sp [] E0 t) := by
  obtain ⟨⟨fd, F, b⟩, kp, m⟩ := O
  exact pe_call F hr hg m kp b .nil pass0 ha hdb he hpl
theorem pe_own0 (O : Ok X.prog X.w X.K X.mg X.base j x ps sp) (hr : Room j X.A) (hg : Gl X x) (hdb : (x == ("__debug__" : Str)) = false := by decide) :
    PE X (.Call (.Name x p) [] [] pos) (tCall sp [] E0 tNil) := by
  obtain ⟨⟨fd, F, b⟩, kp, m⟩ := O
  exact pe_call0 F hr hg m kp b .nil pass0 hdb
theorem pe_gref {a : Addr} (m : X.mg x = some (.ref a)) (hg : Gl X x) (hd : (x == ("__debug__" : Str)) = false := by decide) : PE X (.Name x pos) (tC (.ref a)) := pe_glob hg m rfl hd
/-- a text, many times -/
theorem op_mul_str : OpR X (binaryOp .Mult) (fun x y H Q => ∃ z i, x = .str z ∧ y = .int i ∧ (0 ≤ i ∧ i ≤ 1000000 ∧ z.length ≤ 1000 ∧ z.length * i.toNat ≤ 1000000) ∧ Q (.str (Txt.mul z i)) H) := by
  intro pins s σ H x y v u Q I rx ry h
  obtain ⟨z, i, rfl, rfl, ⟨h0, h1, h2, h3⟩, q⟩ := h
  obtain ⟨t, rfl⟩ := rx
  obtain ⟨t', rfl⟩ := ry
  refine SB.mul ⟨?_, fun g _ => ?_, fun _ _ => ?_⟩ fun t' k => ⟨.str (Txt.mul z i), H, I.tok _, ⟨_, rfl⟩, q⟩
  · rw [Bool.or_eq_false_iff]
    exact ⟨decide_eq_false (by omega), decide_eq_false (by omega)⟩
  · have hi : 1 ≤ i := by omega
    have : (1000 : Int) ≤ (2 ^ 63 - 1) / i := by
      rw [Int.le_ediv_iff_mul_le (by omega)]
      omega
    omega
  · show decide (z.length * i.toNat > sizeLine) = false
    have e := sizeLine_eq
    exact decide_eq_false (by omega)
end
/-! ### comprehensions -/
theorem wipe1 (σ : L2.St) (i : Nat) (v : Option V) : wipe ((wipe σ [i]).set i v) [i] = wipe σ [i] := by
  show ((σ.set i none).set i v).set i none = σ.set i none
  rw [List.set_set, List.set_set]
section
variable {J : It} {G : Hp → Prop} {xs : List V} {tt : TT} {te : TE} {i : Nat} {σ : L2.St} {H1 : Hp} {D : Addr} {Qd : Hp → Prop}
/-- a comprehension that leaves all as it was: the items that pass p, by f -/
theorem lc_same (w : Walk J xs.length G (YAt xs)) (p : V → Bool) (f : V → V) (hG : ∀ H, Same H1 H → G H) (hz : xs.length < sizeLine) (hD : H1 D = none)
    (ht : ∀ x H (Q : Bool → Hp → Prop), x ∈ xs → Same H1 H → (∀ H3, Same H H3 → Q (p x) H3) → tt ((wipe σ [i]).set i (some x)) H Q)
    (he : ∀ x H (Q : VK), x ∈ xs → p x = true → Same H1 H → (∀ H3, Same H H3 → Q (f x) H3) → te ((wipe σ [i]).set i (some x)) H Q)
    (hd : ∀ H, Same H1 H → H D = some (.lst ((xs.filter p).map f)) → Qd H) :
    ∃ W : Nat → Nat → Hp → Prop, (∃ m, W 0 m (upd H1 D (.lst []))) ∧ ∀ i' m H, W i' m H →
      (J.stop i' H ∧ Qd H) ∨ (J.go i' H ∧ ∃ Nx : Hp → Prop, (∀ H', Nx H' → ∃ m', m' < m ∧ W (i' + 1) m' H') ∧ ∀ x H', J.yld i' H x H' → gName i x (wipe σ [i]) H' fun σ2 H2 => wipe σ2 [i] = wipe σ [i] ∧ tt σ2 H2 fun b H3 =>
        if b = true then te σ2 H3 fun y H4 => ∃ acc, H4 D = some (.lst acc) ∧ acc.length < sizeLine ∧ Nx (upd H4 D (.lst (acc ++ [y]))) else Nx H3) := by
  refine lc_it w (fun n H => Same H1 H ∧ H D = some (.lst (((xs.take n).filter p).map f))) ⟨same_new hD, upd_same⟩ (fun n H _ h => hG H h.1) (fun n x H H' hn h hy => ?_) fun H h => ?_
  · obtain ⟨rfl, hx⟩ := hy
    obtain ⟨s1, h1⟩ := h
    refine ⟨wipe1 σ i (some x), ?_⟩
    have hm : x ∈ xs := List.mem_of_getElem? hx
    have et : xs.take (n + 1) = xs.take n ++ [x] := by
      rw [List.take_succ, hx]
      rfl
    refine ht x _ _ hm s1 fun H3 s3 => ?_
    cases q : p x with
    | true =>
      refine he x H3 _ hm q (s1.trans s3) fun H4 s4 => ⟨_, s4 _ _ (s3 _ _ h1), ?_, same_mut (s1.trans (s3.trans s4)) hD, ?_⟩
      · rw [List.length_map]
        refine Nat.lt_of_le_of_lt (Nat.le_trans (List.length_filter_le _ _) ?_) hz
        rw [List.length_take]
        omega
      · rw [et, List.filter_append, List.map_append, upd_same]
        have e : [x].filter p = [x] := by simp [q]
        rw [e]
        rfl
    | false =>
      refine ⟨s1.trans s3, ?_⟩
      rw [et, List.filter_append, List.map_append]
      have e : [x].filter p = [] := by simp [q]
      rw [e, List.map_nil, List.append_nil]
      exact s3 _ _ h1
  · obtain ⟨s1, h1⟩ := h
    rw [List.take_length] at h1
    exact hd H s1 h1
/-- a comprehension without a test whose items draw from u, k draws an item; each item is a P -/
theorem lc_wl {N : Nat} {Y : Nat → Hp → V → Hp → Prop} (w : Walk J N (fun _ => True) Y) (hY : ∀ i H x H', Y i H x H' → H' = H) (P : V → Prop) {u : Addr} {n k : Nat} (hu : Wl H1 u (n + N * k)) (hz : N < sizeLine) (hD : H1 D = none)
    (he : ∀ x H (m : Nat) (Q : VK), Wl H u (m + k) → Kp u H1 H → (∀ y H', P y → Wl H' u m → Kp u H H' → Q y H') → te ((wipe σ [i]).set i (some x)) H Q)
    (hd : ∀ H ys, Kp u H1 H → Wl H u n → H D = some (.lst ys) → ys.length = N → (∀ y ∈ ys, P y) → Qd H) :
    ∃ W : Nat → Nat → Hp → Prop, (∃ m, W 0 m (upd H1 D (.lst []))) ∧ ∀ i' m H, W i' m H →
      (J.stop i' H ∧ Qd H) ∨ (J.go i' H ∧ ∃ Nx : Hp → Prop, (∀ H', Nx H' → ∃ m', m' < m ∧ W (i' + 1) m' H') ∧ ∀ x H', J.yld i' H x H' → gName i x (wipe σ [i]) H' fun σ2 H2 => wipe σ2 [i] = wipe σ [i] ∧ tYes σ2 H2 fun b H3 =>
        if b = true then te σ2 H3 fun y H4 => ∃ acc, H4 D = some (.lst acc) ∧ acc.length < sizeLine ∧ Nx (upd H4 D (.lst (acc ++ [y]))) else Nx H3) := by
  have hDu : D ≠ u := hu.ne hD
  refine lc_it w (fun j H => Kp u H1 H ∧ Wl H u (n + (N - j) * k) ∧ ∃ ys, H D = some (.lst ys) ∧ ys.length = j ∧ ∀ y ∈ ys, P y) ⟨(Kp.refl _ _).new hD, hu.new hD, [], upd_same, rfl, fun y h => by cases h⟩ (fun _ _ _ _ => trivial) (fun j x H H' hj h hy => ?_) fun H h => ?_
  · have e := hY _ _ _ _ hy
    subst e
    obtain ⟨k1, hw, ys, h1, hl, hP⟩ := h
    refine ⟨wipe1 σ i (some x), ?_⟩
    show te ((wipe σ [i]).set i (some x)) _ _
    have e1 : N - j = (N - (j + 1)) + 1 := by omega
    rw [e1, Nat.succ_mul, ← Nat.add_assoc] at hw
    refine he x _ _ _ hw k1 fun y H4 py hw4 k4 => ⟨ys, k4 _ _ h1 hDu, by omega, ((k1.trans k4).mut hD), hw4.mut hDu.symm, _, upd_same, by rw [List.length_append, hl]; rfl, fun z hz => ?_⟩
    rcases List.mem_append.mp hz with hz | hz
    · exact hP z hz
    · rw [List.mem_singleton.mp hz]
      exact py
  · obtain ⟨k1, hw, ys, h1, hl, hP⟩ := h
    rw [Nat.sub_self, Nat.zero_mul] at hw
    exact hd H ys k1 hw h1 hl hP
end
/-- a text, sign by sign, as a list of texts -/
def sg (c : Nat) : V := .str ⟨#[c]⟩
theorem walk_text {z : Str} : Walk (Its z) ((tl z).map sg).length (fun _ => True) (YAt ((tl z).map sg)) := by
  have e : ((tl z).map sg).length = z.cps.size := by rw [List.length_map]; rfl
  rw [e]
  refine (walk_str (z := z)).mono (fun _ h => h) fun i H x H' hi _ y => ?_
  obtain ⟨e, c, h1, h2⟩ := y
  refine ⟨e, ?_⟩
  rw [List.getElem?_map, h2]
  have h3 : (tl z)[i]? = some c := by
    show z.cps.toList[i]? = some c
    rw [Array.getElem?_toList]
    exact h1
  rw [h3]
  rfl
end Fk
namespace Fk
open PySem PySem.Spec PyProof.Rows L2
/-! ### built-in classes of errors under the program's own -/
abbrev keyTail : List Value := [.type "KeyError", .type "LookupError", .type "Exception", .type "BaseException", .type "object"]
theorem kxKey : PySem.W.KxsFacts "KeyError" "KeyError.__init__" := ⟨by show builtinType _ = _; rw [builtinType_eq_fast]; kernel_rfl, by first | kernel_rfl | rfl⟩
/-- a base: its name, the class that makes, __new__, __init__, the classes above -/
structure EBase where
  B : String
  nb : String
  nw : String
  ini : String
  tail : List Value
  fn : ∃ i0 t0, ExcBaseFacts nb nw i0 t0
  ex : PyProof.Rows.ExcClass B nw ini
  kx : PySem.W.KxsFacts B ini
  pass : ∀ self : Value, refuseLoop self "__setattr__" tail = pure ()
  obj : tail.contains (.type "object") = true
  has : tail.contains (.type nb) = true
  noA : tail.contains (.type "AttributeError") = false
  noN : tail.contains (.type "NameError") = false
  quiet : ini.startsWith "lifetime." = false
def ebV : EBase := ⟨"ValueError", "ValueError", "ValueError.__new__", "ValueError.__init__", PySem.HandSPX.veTail, ⟨_, _, F.excBase_ValueError⟩, PyProof.Rows.excClass_ValueError, PySem.W.kxs_ValueError, F.store_ValueError.passes, by decide +kernel, by decide +kernel, by decide +kernel, by decide +kernel, by decide +kernel⟩
def ebK : EBase := ⟨"KeyError", "LookupError", "LookupError.__new__", "KeyError.__init__", keyTail, ⟨_, _, F.excBase_LookupError⟩, PyProof.Rows.excClass_KeyError, kxKey, fun self => by kernel_rfl, by decide +kernel, by decide +kernel, by decide +kernel, by decide +kernel, by decide +kernel⟩
/-- own classes, then the base's row -/
def rowIs (t : List Value) : List Value → Bool
  | .ref _ :: r => rowIs t r
  | l => l == t
theorem tl_cases {t : List Value} (l : List Value) (h : rowIs t l = true) : (∃ c r, l = .ref c :: r ∧ rowIs t r = true) ∨ l = t := by
  cases l with
  | nil => exact .inr (beq_iff_eq.mp h)
  | cons x r =>
    cases x with
    | ref c => exact .inl ⟨c, r, rfl, h⟩
    | _ => exact .inr (beq_iff_eq.mp h)
theorem tl_pass {t : List Value} {self : Value} (p : refuseLoop self "__setattr__" t = pure ()) : ∀ l : List Value, rowIs t l = true → refuseLoop self "__setattr__" l = pure ()
  | [], h => by
    rcases tl_cases [] h with ⟨c, r, e, _⟩ | e
    · cases e
    · rw [e]
      exact p
  | x :: l, h => by
    rcases tl_cases (x :: l) h with ⟨c, r, e, h'⟩ | e
    · obtain ⟨rfl, rfl⟩ := List.cons.inj e
      rw [refuseLoop_ref]
      exact tl_pass p l h'
    · rw [e]
      exact p
theorem tl_has {t : List Value} (n : String) : ∀ l : List Value, rowIs t l = true → l.contains (.type n) = t.contains (.type n)
  | [], h => by
    rcases tl_cases [] h with ⟨c, r, e, _⟩ | e
    · cases e
    · rw [e]
  | x :: l, h => by
    rcases tl_cases (x :: l) h with ⟨c, r, e, h'⟩ | e
    · obtain ⟨rfl, rfl⟩ := List.cons.inj e
      rw [List.contains_cons, tl_has n l h']
      rfl
    · rw [e]
/-! ### C(.., k = v) with keywords -/
section
open PySem.HandSPX Builtin Builtin.ObjectAttr
variable {M : Model} {A : Around} {E : Value → Shared → Prop} {h : Heap} {g : Array GenState} {d : Drawn} {t : Nat} {os : OsState}
variable {nm q : Str} {C N : Addr} {bs bm bmB : List Value} {hdct : Bool} {sn : List Str} {sub : List Value} {ab : Bool} {col : Option Bool} {dd : Option Addr} {k0 k1 k2 k3 k5 : Option Value} {B newId initId : String} {kw : List (Str × Value)}
theorem ck_new (F : ExcBaseFacts B newId initId bmB) (hT : bm.contains (.type B) = true ∧ bm.contains (.type "AttributeError") = false ∧ bm.contains (.type "NameError") = false) {rest : List Value} {Q : Unit → Shared → Prop}
    (hC : h.get? C = some (excClassObj nm q C N bs bm hdct sn sub ab col dd k0 k1 k2 k3 k5 newId)) (hq : Q () ⟨h, g, d, t, os⟩) : wpAny M A (checkBuiltinCall newId ⟨.ref C :: rest, kw⟩) Q E ⟨h, g, d, t, os⟩ := by
  have hB : (Value.ref C :: bm).contains (.type B) = true := by rw [List.contains_cons, hT.1, Bool.or_true]
  have hS := F.noStar
  simp only [checkBuiltinCall, F.newKind, F.newSplit, F.newRow]
  repeat (first | refine wpAny_loadPart_at hC ?_ | (refine wpAny_isSubtype_exc hC ?_; rw [hB]) | refine wpAny_staticBase_exc hC ?_ | refine wpAny_madeBy_exc hC ?_ | simp only [bne_self_eq_false, Bool.false_eq_true, if_false] | wp_step)
  exact hq
end
section
open PySem.HandSPX Builtin Builtin.ObjectAttr
variable {prog : Program} {w : World} {A : Around} {E : Value → Shared → Prop} {R : Result → Shared → Prop} {h : Heap} {g : Array GenState} {d : Drawn} {t : Nat} {os : OsState}
variable {nm q : Str} {C N : Addr} {bs bm bmB : List Value} {hdct : Bool} {sn : List Str} {sub : List Value} {ab : Bool} {col : Option Bool} {dd : Option Addr} {k0 k1 k2 k3 k5 : Option Value} {B newId initId : String} {kw : List (Str × Value)}
theorem rn_new (F : ExcBaseFacts B newId initId bmB) (hT : bm.contains (.type B) = true ∧ bm.contains (.type "AttributeError") = false ∧ bm.contains (.type "NameError") = false) {rest : List Value}
    (hC : h.get? C = some (excClassObj nm q C N bs bm hdct sn sub ab col dd k0 k1 k2 k3 k5 newId))
    (hq : R (.ok (.ret (.ref (h.objs.size + 1)))) ⟨(h.push (W.kdv_tup rest)).push (excO C h.objs.size), g, d, t, os⟩) (hrest : rest.length ≤ sizeLine) :
    codeAny (model prog w) A (.builtin newId ⟨.ref C :: rest, kw⟩) R ⟨h, g, d, t, os⟩ := by
  have hends := F.ends
  have a1 : (Value.ref C :: bm).contains (.type B) = true := by rw [List.contains_cons, hT.1, Bool.or_true]
  have a2 : (Value.ref C :: bm).contains (.type "AttributeError") = false := by rw [List.contains_cons, hT.2.1]; rfl
  have a3 : (Value.ref C :: bm).contains (.type "NameError") = false := by rw [List.contains_cons, hT.2.2]; rfl
  refine codeAny_builtinAt F.entry ?_
  unfold Builtin.«BaseException.__new__»
  refine _root_.PySem.wpAt_bind ?_
  show _root_.PySem.wpAt _ _ _ (stack >>= _) _ _ _
  refine _root_.PySem.wpAt_bind (_root_.PySem.wpAt_stack fun p below => _root_.PySem.wpAt_of_wpAny ?_)
  wp_walk
  refine _root_.PySem.wpAt_of_wpAny ?_
  rw [F.owner]
  repeat (first | with_reducible refine wpAny_madeHere_exc F.canon hC ?_ | with_reducible refine wpAny_loadPart_at hC ?_ | (with_reducible refine wpAny_isSubtype_exc hC ?_; first | rw [a1] | rw [a2] | rw [a3]) | wp_step)
  show R _ _
  rw [Heap.size_push]
  exact hq
theorem tc_mk (F : ExcBaseFacts B newId initId bmB) (hT : bm.contains (.type B) = true ∧ bm.contains (.type "AttributeError") = false ∧ bm.contains (.type "NameError") = false) {rest : List Value} {fI : Addr} {Q : Fin → Shared → Prop}
    (hC : h.get? C = some (excClassObj nm q C N bs bm hdct sn sub ab col dd k0 k1 k2 k3 k5 newId))
    (hi : W.Looks (model prog w) h (typeLookup (.ref C) "__init__") (some (.ref fI))) (hb : ∀ self, W.Looks (model prog w) h (bindSpecial (.ref fI) self) (.ref fI, [self])) (hrest : rest.length ≤ sizeLine)
    (hq : codeAny (model prog w) A (.call (.ref fI) ⟨.ref (h.objs.size + 1) :: rest, kw⟩)
      (fun r s' => match r with | .ok (.ret v) => v = .none ∧ Q (.done (.ret (.ref (h.objs.size + 1)))) s' | .ok _ => False | .error e => E e s')
      ⟨(h.push (W.kdv_tup rest)).push (excO C h.objs.size), g, d, t, os⟩) :
    wpAny (model prog w) A (Builtin.«type.__call__» ⟨.ref C :: rest, kw⟩) Q E ⟨h, g, d, t, os⟩ := by
  repeat (first | with_reducible refine wpAny_loadPart_at hC ?_ | with_reducible refine wpAny_madeBy_exc hC ?_ | wp_step)
  refine codeAny_call_builtin_code (Code.quiet_builtin _ F.quiet) (ck_new F hT hC ?_)
  refine rn_new F hT hC ?_ hrest
  show wpAny _ _ _ _ _ _
  have k : ∀ b o, h.get? b = some o → ((h.push (W.kdv_tup rest)).push (excO C h.objs.size)).get? b = some o := fun b o e => Heap.get?_push_of_some _ (Heap.get?_push_of_some _ e)
  have c1 := k _ _ hC
  have e1 : ((h.push (W.kdv_tup rest)).push (excO C h.objs.size)).get? (h.objs.size + 1) = some (excO C h.objs.size) := by heap_get
  have cc : (Value.ref C :: bm).contains (.ref C) = true := by simp
  have i1 := hi.keeps k
  have b1 := (hb (.ref (h.objs.size + 1))).keeps k
  unfold isInstance
  repeat (first | with_reducible refine wpAny_loadPart_at e1 ?_ | (with_reducible refine wpAny_isSubtype_exc c1 ?_; rw [cc]) | wp_step)
  show wpAny _ _ (typeLookup (.ref C) _) _ _ _
  refine i1.at (wpAny_holding (wpAny_bind (b1.at (wpAny_bind (wpAny_call (codeAny_mono hq fun r s' z => ?_))))))
  rcases r with e | (v | _ | _ | _) <;> first | exact z | exact z.elim | skip
  obtain ⟨rfl, z⟩ := z
  first
    | exact wpAny_pure (wpAny_pure z)
    | (wp_walk; exact z)
theorem ck_tc {M : Model} {rest : List Value} {Q : Unit → Shared → Prop} (hC : h.get? C = some (excClassObj nm q C N bs bm hdct sn sub ab col dd k0 k1 k2 k3 k5 newId))
    (hq : Q () ⟨h, g, d, t, os⟩) : wpAny M A (checkBuiltinCall "type.__call__" ⟨.ref C :: rest, kw⟩) Q E ⟨h, g, d, t, os⟩ := by
  have f3 := tc_sub
  have hT : (⟨h, g, d, t, os⟩ : Shared).TypeIs (.ref C) "type" := ⟨_, hC, rfl⟩
  simp only [checkBuiltinCall, tc_kind, tc_split]
  repeat (any_goals (first | assumption | with_reducible refine wpAny_loadPart_at hC ?_ | with_reducible refine wpAny_onRaise ?_ | with_reducible refine wpAny_map ?_ | wp_step))
theorem cl_own (F : ExcBaseFacts B newId initId bmB) (hT : bm.contains (.type B) = true ∧ bm.contains (.type "AttributeError") = false ∧ bm.contains (.type "NameError") = false) {rest : List Value} {fI : Addr}
    (hC : h.get? C = some (excClassObj nm q C N bs bm hdct sn sub ab col dd k0 k1 k2 k3 k5 newId))
    (hi : W.Looks (model prog w) h (typeLookup (.ref C) "__init__") (some (.ref fI))) (hb : ∀ self, W.Looks (model prog w) h (bindSpecial (.ref fI) self) (.ref fI, [self])) (hrest : rest.length ≤ sizeLine)
    (hq : codeAny (model prog w) (A.under (.builtin "type.__call__" ⟨.ref C :: rest, kw⟩)) (.call (.ref fI) ⟨.ref (h.objs.size + 1) :: rest, kw⟩) (W.InitBack (h.objs.size + 1) R)
      ⟨(h.push (W.kdv_tup rest)).push (excO C h.objs.size), g, d, t, os⟩) :
    codeAny (model prog w) A (.call (.ref C) ⟨rest, kw⟩) R ⟨h, g, d, t, os⟩ := by
  have f1 := tc_lookup
  have f2 := tc_bind (.ref C)
  have hTy : (⟨h, g, d, t, os⟩ : Shared).TypeIs (.ref C) "type" := ⟨_, hC, rfl⟩
  refine codeAny_of_tree ?_
  show wpAny _ _ (callAny (.ref C) _) _ _ _
  repeat (any_goals (first | assumption | with_reducible refine wpAny_loadPart_at hC ?_ | wp_step))
  refine ⟨rfl, ?_⟩
  refine codeAny_call_builtin_at (Code.quiet_builtin _ (by decide +kernel)) entry_typeCall (ck_tc hC (tc_mk F hT hC hi hb hrest ?_))
  refine codeAny_mono hq fun r s' z => ?_
  rcases r with e | (v | _ | _ | _) <;> exact z
/-! ### self.name = v -/
theorem so_new {EB : EBase} {K : W.Frag} {name : Str} {tk : Tok} {v : Value} {x C : Addr} {fv : Array Value} {cd : ClassData}
    (X : K.In h) (hx : h.get? x = some { cls := .ref C, data := .fields fv }) (hcd : W.clsIn K C = some cd) (hm : rowIs EB.tail cd.mro = true) (hne : cd.mro.isEmpty = false) (hh : cd.hasDict = true) (ha : W.findIn K (.ref C) name = some none)
    (hq : ∀ h' tk' dx, (∀ b o, b ≠ x → h.get? b = some o → h'.get? b = some o) → h.objs.size ≤ dx → dx ≠ x → h'.get? x = some { cls := .ref C, dict := some dx, data := .fields fv } →
      h'.Ns1 dx (fun y => if y = name then some v else none) → R (.ok (.ret .none)) ⟨h', g, d, tk', os⟩) :
    codeAny (model prog w) A (.call (.builtin "object.__setattr__") ⟨[.ref x, .str name tk, v], []⟩) R ⟨h, g, d, t, os⟩ := by
  have I : W.InstAt h x { cls := .ref C, data := .fields fv } C none := ⟨hx, rfl, rfl, trivial⟩
  have SF := F.store_object
  have ho : cd.mro.contains (.type "object") = true := (tl_has "object" _ hm).trans EB.obj
  have hxs : x ≠ h.objs.size := Nat.ne_of_lt (Heap.lt_size hx)
  have sub : W.Looks (model prog w) h (isInstance (.ref x) (.type "object")) true := I.type.andThen (W.looks_mroIn X (by unfold W.mroIn; rw [hcd, Option.bind_some, if_neg (by rw [hne]; decide), ho]))
  refine codeAny_call_builtin SF.slot.plain SF.entry (@W.check_slot (model prog w) _ _ ⟨h, g, d, t, os⟩ "object.__setattr__" "object" "__setattr__" (.ref x) [.str name tk, v] [] _ SF.kind SF.split sub (SF.args (.ref x) (.str name tk) v) ?_)
  have mr : W.Looks (model prog w) h (mroOf (.ref C)) cd.mro := (W.looks_clsIn X hcd).andThen .now
  have l3 : W.Looks (model prog w) h (storeTaker? none) none := .now
  have lc : W.Looks (model prog w) h (classData C) cd := W.looks_clsIn X hcd
  rw [W.osa_eq, refuse_eq]
  refine wpAny_bind (wpAny_bind (I.type.at (wpAny_bind (mr.at ?_))))
  rw [tl_pass (EB.pass _) _ hm]
  refine wpAny_pure (wpAny_bind (I.type.at (wpAny_bind ((W.looks_findIn X ha).at (wpAny_bind (l3.at ?_))))))
  show wpAny _ _ (storeInOwnDict (.ref x) (.ref C) (.str name tk) name v false) _ _ _
  obtain ⟨nm, bs, mro, ns, qn, hd, sn, sb, ab, col, del⟩ := cd
  dsimp only at hh
  subst hh
  unfold storeInOwnDict ownDictForStores
  repeat (first | with_reducible refine store_in_new ?_ ?_ | with_reducible refine wpAny_loadPart_at hx ?_ | with_reducible refine lc.at ?_ | wp_step)
  · exact ⟨_, #[], _, (Heap.get?_update_ne _ _ _ _ hxs.symm).trans (Heap.get?_push_at rfl rfl), rfl, fun e he => absurd he (by simp), fun _ => rfl⟩
  · intro h' tk' hn' hs
    have hx₁ : (h.push { cls := .type "dict", data := .dict #[] }).get? x = some { cls := .ref C, data := .fields fv } := Heap.get?_push_of_some _ hx
    refine hq h' tk' h.objs.size (fun b o hb ho => ?_) (Nat.le_refl _) hxs.symm ?_ hn'
    · exact (hs.2 b (Nat.ne_of_lt (Heap.lt_size ho))).trans ((Heap.get?_update_ne _ _ _ _ hb).trans (Heap.get?_push_of_some _ ho))
    · exact (hs.2 x hxs).trans (Heap.get?_update_self _ hx₁ rfl)
theorem so_old {EB : EBase} {K : W.Frag} {name : Str} {tk : Tok} {v : Value} {x C dx : Addr} {fv : Array Value} {cd : ClassData} {m0 : Str → Option Value} {nl : List Str}
    (X : K.In h) (hx : h.get? x = some { cls := .ref C, dict := some dx, data := .fields fv }) (hns : h.Ns1 dx m0) (hw : Within m0 nl) (hz : nl.length ≤ 1000) (hcd : W.clsIn K C = some cd) (hm : rowIs EB.tail cd.mro = true) (hne : cd.mro.isEmpty = false) (hh : cd.hasDict = true)
    (ha : W.findIn K (.ref C) name = some none)
    (hq : ∀ h' tk', (∀ b o, b ≠ dx → h.get? b = some o → h'.get? b = some o) → h'.Ns1 dx (fun y => if y = name then some v else m0 y) → R (.ok (.ret .none)) ⟨h', g, d, tk', os⟩) :
    codeAny (model prog w) A (.call (.builtin "object.__setattr__") ⟨[.ref x, .str name tk, v], []⟩) R ⟨h, g, d, t, os⟩ := by
  obtain ⟨oD, esD, epD, hoD, hdD, _⟩ := hns.count hw
  have I : W.InstAt h x { cls := .ref C, dict := some dx, data := .fields fv } C (some oD) := ⟨hx, rfl, rfl, hoD⟩
  have SF := F.store_object
  have ho : cd.mro.contains (.type "object") = true := (tl_has "object" _ hm).trans EB.obj
  have sub : W.Looks (model prog w) h (isInstance (.ref x) (.type "object")) true := I.type.andThen (W.looks_mroIn X (by unfold W.mroIn; rw [hcd, Option.bind_some, if_neg (by rw [hne]; decide), ho]))
  refine codeAny_call_builtin SF.slot.plain SF.entry (@W.check_slot (model prog w) _ _ ⟨h, g, d, t, os⟩ "object.__setattr__" "object" "__setattr__" (.ref x) [.str name tk, v] [] _ SF.kind SF.split sub (SF.args (.ref x) (.str name tk) v) ?_)
  have mr : W.Looks (model prog w) h (mroOf (.ref C)) cd.mro := (W.looks_clsIn X hcd).andThen .now
  have l3 : W.Looks (model prog w) h (storeTaker? none) none := .now
  have lc : W.Looks (model prog w) h (classData C) cd := W.looks_clsIn X hcd
  rw [W.osa_eq, refuse_eq]
  refine wpAny_bind (wpAny_bind (I.type.at (wpAny_bind (mr.at ?_))))
  rw [tl_pass (EB.pass _) _ hm]
  refine wpAny_pure (wpAny_bind (I.type.at (wpAny_bind ((W.looks_findIn X ha).at (wpAny_bind (l3.at ?_))))))
  show wpAny _ _ (storeInOwnDict (.ref x) (.ref C) (.str name tk) name v false) _ _ _
  obtain ⟨nm, bs, mro, ns, qn, hd, sn, sb, ab, col, del⟩ := cd
  dsimp only at hh
  subst hh
  unfold storeInOwnDict ownDictForStores
  repeat (first | with_reducible refine PySem.OEX.store_in_old hns hw hz ?_ | with_reducible refine wpAny_loadPart_at hx ?_ | with_reducible refine lc.at ?_ | wp_step)
  intro h' tk' hn' hs
  exact hq h' tk' (fun b o hb ho => (hs.2 b hb).trans ho) hn'
end
end Fk
namespace Fk
open PySem PySem.Spec PyProof.Rows L2
/-! ### super().__init__(x) over ValueError -/
abbrev exObj (C : Addr) (d : Option Addr) (t : Addr) : Obj := { cls := .ref C, dict := d, data := .fields #[.ref t, .none, .none, .none, .bool false, .none] }
section
variable {prog : Program} {w : World} {A : Around} {E : Value → Shared → Prop} {h : Heap} {g : Array GenState} {d : Drawn} {t : Nat} {os : OsState}
variable {nm q : Str} {C N : Addr} {bs bm : List Value} {hdct : Bool} {sn : List Str} {sub : List Value} {ab : Bool} {col : Option Bool} {dd : Option Addr} {k0 k1 k2 k3 k5 : Option Value}
theorem ck_bound {EB : EBase} {e : Addr} {oe : Obj} {rest : List Value} {M : Model} {Q : Unit → Shared → Prop} (hC : h.get? C = some (excClassObj nm q C N bs bm hdct sn sub ab col dd k0 k1 k2 k3 k5 EB.nw)) (he : h.get? e = some oe) (hcls : oe.cls = .ref C) (hq : Q () ⟨h, g, d, t, os⟩) :
    wpAny M A (checkBoundCall EB.ini ⟨.ref e :: rest, []⟩) Q E ⟨h, g, d, t, os⟩ := by
  have hsh := EB.ex.notStar
  simp only [checkBoundCall, EB.ex.initKind, EB.ex.initSig]
  repeat (first | (with_reducible refine wpAny_loadPart_at he ?_; rw [hcls]) | with_reducible refine wpAny_loadPart_at hC ?_ | wp_step)
  refine wpAny_onRaise ?_
  have hz : ∀ (a b : String) (n : Nat), Bind.check ⟨.positional, "*", EB.B, .self, [⟨"args", .varPos, false⟩]⟩ a b n (List.map (fun x => x.fst) ({ pos := Value.ref e :: rest } : Args).kw) = pure () := fun a b n => check_star_args _ _ _ _ _ _
  rw [hz]
  exact wpAny_pure hq
theorem call_mw {EB : EBase} {u e t0 : Addr} {rest : List Value} {Q : Value → Shared → Prop}
    (hC : h.get? C = some (excClassObj nm q C N bs bm hdct sn sub ab col dd k0 k1 k2 k3 k5 EB.nw)) (he : h.get? e = some (exObj C none t0)) (hu : h.get? u = some (PySem.W.kxs_mw EB.ini e)) (hrest : rest.length ≤ sizeLine)
    (hq : ∀ h' t1, (∀ b o, b ≠ e → h.get? b = some o → h'.get? b = some o) → h'.get? e = some (exObj C none t1) → Q .none ⟨h', g, d, t, os⟩) :
    wpAny (model prog w) A (call (.ref u) rest) Q E ⟨h, g, d, t, os⟩ := by
  refine wpAny_call (codeAny_of_tree ?_)
  show wpAny _ A.in1 (callAny (.ref u) ⟨rest, []⟩) _ _ _
  simp only [callAny]
  refine wpAny_bind (wpAny_load hu ?_)
  simp only [PySem.W.kxs_mw, show (Value.type "method-wrapper" == Value.type "method" || Value.type "method-wrapper" == Value.type "builtin_function_or_method" || Value.type "method-wrapper" == Value.type "method-wrapper") = true by decide, if_true]
  refine PySem.W.KFB.if_so (by decide) ?_
  refine wpAny_bind (ck_bound hC he rfl ?_)
  refine wpAny_bind (wpAny_pure (wpAny_pure ?_))
  refine ⟨Code.quiet_builtin _ EB.quiet, codeAny_builtin EB.ex.initEntry ?_⟩
  rw [Around.under_plainId EB.ex.init.plain _]
  wp_walk
  refine hq _ h.objs.size (fun b o hb ho => ?_) ?_
  · rw [Heap.get?_update_other _ _ (Ne.symm hb)]
    exact Heap.get?_push_of_some _ ho
  · rw [Heap.get?_update_self _ (Heap.get?_push_of_some _ he) rfl]
    rfl
end
/-- a def of the class at D that says super() -/
structure SupFn (P : Program) (K : PySem.W.Frag) (f : Addr) (fd : FuncData) (D : Addr) : Prop where
  lk : ∃ oc od osl, K.lookup f = some ⟨oc, od, .func fd, osl⟩
  glob : fd.globals = mainGlobals
  blt : fd.builtins = builtinsNs
  code : ∃ cda ccl cdd ccs vs file tf, fd.code = .ref cda ∧ K.lookup cda = some ⟨ccl, cdd, .fields vs, ccs⟩ ∧ vs[2]? = some (.str file tf) ∧ ((P.main.file : Str) == file) = true
  codeQ : PySem.W.codeIn K fd.code fd.qualname = true
  clo : ∃ cc cl cld csl, fd.closure = [(("__class__" : Str), cc)] ∧ K.lookup cc = some ⟨cl, cld, .cell (some (.ref D)), csl⟩
  dcl : ∃ cd, PySem.W.clsIn K D = some cd
  op : PySem.W.nsIn K cStatics "thirdparty.any" = some none
  top : (P.main.scope.names.lookup ("super" : Str)).isSome = false
  ks : fd.scope.names.lookup ("super" : Str) = some .globalImplicit
  kc : fd.scope.names.lookup ("__class__" : Str) = some .free
  kself : fd.scope.names.lookup ("self" : Str) = some .local
  kind : fd.scope.kind = .function
  par : ∃ ar, (fd.params.posonlyargs ++ fd.params.args).head? = some ar ∧ ar.arg = "self"
/-- what the heap knows of the module -/
structure Md (K : PySem.W.Frag) (mg : Str → Option Value) (h : Heap) : Prop where
  kin : K.In h
  glob : h.Ns mainGlobals mg
  blt : ∃ mb, h.Ns builtinsNs mb ∧ ∀ x : Str, x ≠ "__name__" → mb x = bootBuiltins x
  lim : h.NoLimit
theorem Md.keeps {K : PySem.W.Frag} {mg : Str → Option Value} {h h' : Heap} (m : Md K mg h) (k : ∀ b o, h.get? b = some o → h'.get? b = some o) : Md K mg h' := by
  obtain ⟨a, b, ⟨mb, c, d⟩, e⟩ := m
  exact ⟨a.keeps k, b.keeps k, ⟨mb, c.keeps k, d⟩, e.keeps k⟩
section
open PySem.W
variable {EB : EBase} {prog : Program} {w : World} {A : Around} {E : Value → Shared → Prop} {s : Shared} {K : PySem.W.Frag} {mg : Str → Option Value} {f D C a L : Addr} {fd : FuncData} {ox : Obj}
theorem wpAt_sup {body : List Stmt} {p0 p1 : Pos} {whole : Sem Value} {m : Str → Option Value} {Q : Value → Shared → Prop} (S : SupFn prog K f fd D) (M : Md K mg s.heap) (hsm : mg "super" = none) (hn : s.heap.Ns L m) (hself : m "self" = some (.ref a))
    (ha : s.heap.get? a = some ox) (hac : ox.cls = .ref C) (hnc : ∀ c, ox.data ≠ .cls c) (sub : mroIn K C (.ref D) = some true)
    (h : ∀ so h', h'.get? so = some { cls := .type "super", dict := none, data := .fields #[.ref D, .ref a, .ref C], slots := #[] } → (∀ y o, s.heap.get? y = some o → h'.get? y = some o) → s.heap.objs.size ≤ so → Q (.ref so) { s with heap := h' }) :
    _root_.PySem.wpAt (model prog w) A (.func body (callEnv fd L f)) (attributeBase (.Call (.Name "super" p0) [] [] p1) "__init__" (callEnv fd L f) whole) Q E s := by
  obtain ⟨oc, od, osl, lk⟩ := S.lk
  obtain ⟨cda, ccl, cdd, ccs, vs, file, tf, hco, hcode, hvs, hfile⟩ := S.code
  obtain ⟨cc, cl, cld, csl, hclo, hcell⟩ := S.clo
  obtain ⟨cdD, hD⟩ := S.dcl
  obtain ⟨ar, hp, har⟩ := S.par
  obtain ⟨mb, hb1, hb2⟩ := M.blt
  have X := M.kin
  obtain ⟨hh, g, d, t, os⟩ := s
  obtain ⟨oD, hD1, hD2⟩ : ∃ oD, hh.get? D = some oD ∧ oD.data = .cls cdD := by
    unfold clsIn at hD
    split at hD
    · rename_i c d cd' sl ho
      cases hD
      exact ⟨_, X _ _ ho, rfl⟩
    · cases hD
  refine ks_wpAt_super_base (env := callEnv fd L f) (attr := "__init__") S.ks S.kc (by decide) rfl (X _ _ lk) rfl hp hco (X _ _ hcode) rfl hvs hfile S.top ?_
  refine ks_loadName_global S.kind S.ks (Calls.loadGlobal_builtin (env := callEnv fd L f) (by show Heap.Ns hh fd.globals mg; rw [S.glob]; exact M.glob) hsm (by show Heap.Ns hh fd.builtins mb; rw [S.blt]; exact hb1) ((hb2 _ (by decide +kernel)).trans (by decide +kernel)) ⟨rfl, ?_⟩)
  refine wpAny_loadName_free S.kind S.kc (by show List.lookup _ fd.closure = _; rw [hclo]; rfl) ⟨_, X _ _ hcell, rfl⟩ ?_
  rw [har]
  refine wpAny_loadName_local S.kind S.kself hn hself ?_
  refine ks_wpAny_isType_cls hD1 hD2 ⟨rfl, ?_⟩
  exact ks_wpAny_call_super hD1 hD2 ha hac hnc (looks_mroIn X sub) (fun h' e k => h _ h' e k (Nat.le_refl _))
/-- what is said of an exception's class C -/
structure ExC (EB : EBase) (K : PySem.W.Frag) (C : Addr) : Prop where
  cls : ∃ nm q N bs bm sn sub ab col dd k0 k1 k2 k3 k5, K.lookup C = some (excClassObj nm q C N bs bm true sn sub ab col dd k0 k1 k2 k3 k5 EB.nw) ∧ rowIs EB.tail bm = true
  sa : findIn K (.ref C) "__setattr__" = some (some (.builtin "object.__setattr__"))
  exC : subIn K (.ref C) (.type "BaseException") = some true
  tyC : typeIn K (.ref C) = some (.type "type")
  kC : keepIn K (.ref C) = true
  isB : mroIn K C (.type EB.B) = some true
/-- the statement super().__init__(e), e a name or a text -/
theorem wpAt_supInit {body : List Stmt} {p0 p1 p2 p4 p5 : Pos} {e : Expr} {pl : Sem Bool} {m : Str → Option Value} {t0 : Addr} {v : Value} {Q : Flow → Shared → Prop} (S : SupFn prog K f fd D) (M : Md K mg s.heap) (hsm : mg "super" = none) (hn : s.heap.Ns L m) (hself : m "self" = some (.ref a)) (T : ExC EB K C)
    (ha : s.heap.get? a = some (exObj C none t0)) (sub : mroIn K C (.ref D) = some true) (hsup : ks_superIn K C D "__init__" = some (some (.builtin EB.ini))) (haL : a ≠ L)
    (hev : ∀ (s1 : Shared) (Q1 : Value → Shared → Prop), s1.heap.Ns L m → (∀ tk, Q1 v { s1 with toks := tk }) → wpAny (model prog w) A (eval e (callEnv fd L f)) Q1 E s1)
    (he : starEach [e] (callEnv fd L f) = [(false, eval e (callEnv fd L f))])
    (hE : eval (.Call (.Attribute (.Call (.Name "super" p0) [] [] p1) "__init__" p2) [e] [] p4) (callEnv fd L f) = (do
      let ov ← attributeBase (.Call (.Name "super" p0) [] [] p1) "__init__" (callEnv fd L f) (eval (.Call (.Name "super" p0) [] [] p1) (callEnv fd L f))
      standAt p2.atName
      let (f', first) ← holding [ov] (getMethod ov "__init__" pl)
      callWith p4 f' first (backTo p4 (starEach [e] (callEnv fd L f))) []))
    (hi : interactive (callEnv fd L f) = false) (hs : swapsWith (.Call (.Attribute (.Call (.Name "super" p0) [] [] p1) "__init__" p2) [e] [] p4) none p5.line (callEnv fd L f) = pure false)
    (h : ∀ h' tk t1, (∀ b o, b ≠ a → s.heap.get? b = some o → h'.get? b = some o) → h'.get? a = some (exObj C none t1) → Q .next { s with heap := h', toks := tk }) :
    _root_.PySem.wpAt (model prog w) A (.func body (callEnv fd L f)) (exec (.Expr (.Call (.Attribute (.Call (.Name "super" p0) [] [] p1) "__init__" p2) [e] [] p4) p5) (callEnv fd L f)) Q E s := by
  obtain ⟨nm, q, N, bs, bm, sn, sb, ab, col, dd, k0, k1, k2, k3, k5, hC, hbm⟩ := T.cls
  have X := M.kin
  refine ks_wpAt_Expr_any (ks_wpAt_MethodCall (wpAt_sup S M hsm hn hself ha rfl (fun c z => by cases z) sub fun so h1 hso k1' lso => ?_) hE) hi hs
  obtain ⟨hh, g, d, t, os⟩ := s
  have X1 : K.In h1 := X.keeps k1'
  have hcl : clsIn K C = some { name := nm, bases := bs, mro := .ref C :: bm, ns := N, qualname := q, hasDict := true, slotNames := sn, subclasses := sb, abstract := ab, collection := col, hasDel := false } := by unfold clsIn; rw [hC] <;> rfl
  have hal : alongIn K "__init__" (((.ref C :: bm : List Value).dropWhile (· != .ref D)).drop 1) = some (some (.builtin EB.ini)) := by
    unfold ks_superIn at hsup
    rw [hcl] at hsup
    exact hsup
  have hI1 : InstAt h1 a (exObj C none t0) C none := ⟨k1' _ _ ha, rfl, rfl, trivial⟩
  have hno : Looks (model prog w) h1 (opaqueClassAbove (.ref C)) none := looks_opaque X1 S.op
  have hmro : Looks (model prog w) h1 (mroOf (.ref C)) (.ref C :: bm) := fun A Q E s k q => wpAny_bind ((looks_clsIn X1 hcl) A _ E s k (wpAny_pure q))
  have hisV : Looks (model prog w) h1 (isInstance (.ref a) (.type EB.B)) true := hI1.type.andThen (looks_mroIn X1 T.isB)
  have haC : a ≠ C := ks_ne X1 hI1 hcl
  refine kxs_getMethod EB.kx hso hno hmro rfl X1 hal hisV haC (by decide) ?_
  show wpAny (model prog w) A (callWith p4 (.ref h1.objs.size) [] (backTo p4 (starEach [e] (callEnv fd L f))) []) _ E _
  rw [he]
  refine kxs_callWith (i := EB.ini) (x := a) (u := h1.objs.size) rfl ?_
  refine Calls.evalArgs_plain ?_
  have k2' : ∀ y o, hh.get? y = some o → (h1.push (kxs_mw EB.ini a)).get? y = some o := fun y o z => Heap.get?_push_of_some _ (k1' y o z)
  refine Calls.spliced_cons (hev _ _ (hn.keeps k2') fun tk => Calls.spliced_nil ⟨Heap.get?_push_at rfl rfl, ?_⟩)
  refine call_mw (X _ _ hC |> k2' _ _) (k2' _ _ ha) (Heap.get?_push_at rfl rfl) (by show 1 ≤ sizeLine; decide) fun h' t1 k' e' => ?_
  exact h h' tk t1 (fun b o hb z => k' b o hb (k2' b o z)) e'
theorem ns_at {h h' : Heap} {L : Addr} {m : Str → Option Value} (n : h.Ns L m) (k : ∀ o, h.get? L = some o → h'.get? L = some o) : h'.Ns L m := by
  obtain ⟨o, es, ep, e, r⟩ := n
  exact ⟨o, es, ep, k _ e, r⟩
theorem ld_loc {M : Model} {A : Around} {E : Value → Shared → Prop} {s : Shared} {fd : FuncData} {L f : Addr} {x : Str} {pos : Pos} {m : Str → Option Value} {v : Value} {Q : Value → Shared → Prop} (hk : fd.scope.kind = .function)
    (hl : fd.scope.names.lookup x = some .local) (hn : s.heap.Ns L m) (hv : m x = some v) (h : Q v s) (hd : (x == ("__debug__" : Str)) = false) : wpAny M A (eval (.Name x pos) (callEnv fd L f)) Q E s :=
  wpAny_Name (wpAny_loadName_local (env := callEnv fd L f) hk hl hn hv h) hd
/-- self.fld = y, the first field of an exception -/
theorem set_first {t0 : Addr} {fld : Str} {v : Value} {Q : Unit → Shared → Prop} (X : K.In s.heap) (T : ExC EB K C) (ha : s.heap.get? a = some (exObj C none t0)) (hno : findIn K (.ref C) fld = some none)
    (h : ∀ h' tk dx, (∀ b o, b ≠ a → s.heap.get? b = some o → h'.get? b = some o) → s.heap.objs.size ≤ dx → dx ≠ a → h'.get? a = some (exObj C (some dx) t0) → h'.Ns1 dx (fun z => if z = fld then some v else none) → Q () { s with heap := h', toks := tk }) :
    wpAny (model prog w) A (setAttr (.ref a) fld v) Q E s := by
  obtain ⟨nm, q, N, bs, bm, sn, sub, ab, col, dd, k0, k1, k2, k3, k5, hC, hbm⟩ := T.cls
  have hcl : clsIn K C = some { name := nm, bases := bs, mro := .ref C :: bm, ns := N, qualname := q, hasDict := true, slotNames := sn, subclasses := sub, abstract := ab, collection := col, hasDel := false } := by unfold clsIn; rw [hC] <;> rfl
  obtain ⟨hp, g, d, t, os⟩ := s
  refine set_plain X (ox := exObj C none t0) (od := none) ⟨ha, rfl, rfl, trivial⟩ T.sa ?_
  exact so_new (EB := EB) X ha hcl (show rowIs EB.tail (.ref C :: bm) = true from hbm) rfl rfl hno (fun h' tk' dx k dn dne hx hn => h h' tk' dx k dn dne hx hn)
/-- def __init__(self, y): super().__init__(y); self.fld = y -/
theorem init1 {p0 p1 p2 p3 p4 p5 p6 p7 p8 p9 : Pos} {y fld : Str} {v : Value} {t0 : Addr} {args : Args} {pl : Addr → Sem Bool} {R : Result → Shared → Prop} (S : SupFn prog K f fd D) (M : Md K mg s.heap) (hsm : mg "super" = none) (T : ExC EB K C)
    (ha : s.heap.get? a = some (exObj C none t0)) (sub : mroIn K C (.ref D) = some true) (hsup : ks_superIn K C D "__init__" = some (some (.builtin EB.ini))) (hroom : A.depth < recursionLimit)
    (hbody : fd.body = .stmts [.Expr (.Call (.Attribute (.Call (.Name "super" p0) [] [] p1) "__init__" p2) [.Name y p3] [] p4) p5, .Assign [.Attribute (.Name "self" p6) fld p7] (.Name y p8) p9])
    (hbind : BindsTo s fd args [("self", .ref a), (y, v)]) (ky : fd.scope.names.lookup y = some .local) (hcell : ∀ x ∈ fd.scope.names, x.2 ≠ .cell) (hy : (y == ("self" : Str)) = false) (hyd : (y == ("__debug__" : Str)) = false)
    (hco : fd.scope.isCoroutine = false) (hgen : fd.scope.isGenerator = false) (hno : findIn K (.ref C) fld = some none) (hKa : K.lookup a = none)
    (hE : ∀ L, eval (.Call (.Attribute (.Call (.Name "super" p0) [] [] p1) "__init__" p2) [.Name y p3] [] p4) (callEnv fd L f) = (do
      let ov ← attributeBase (.Call (.Name "super" p0) [] [] p1) "__init__" (callEnv fd L f) (eval (.Call (.Name "super" p0) [] [] p1) (callEnv fd L f))
      standAt p2.atName
      let (f', first) ← holding [ov] (getMethod ov "__init__" (pl L))
      callWith p4 f' first (backTo p4 (starEach [.Name y p3] (callEnv fd L f))) []))
    (hi : ∀ L, interactive (callEnv fd L f) = false) (hs : ∀ L, swapsWith (.Call (.Attribute (.Call (.Name "super" p0) [] [] p1) "__init__" p2) [.Name y p3] [] p4) none p5.line (callEnv fd L f) = pure false)
    (hs2 : ∀ L, swapsWith (.Name y p8) (some (.Attribute (.Name "self" p6) fld p7)) p9.line (callEnv fd L f) = pure false)
    (h : ∀ h' tk dx t1, (∀ b o, b ≠ a → s.heap.get? b = some o → h'.get? b = some o) → s.heap.objs.size ≤ dx → dx ≠ a → h'.get? a = some (exObj C (some dx) t1) → h'.Ns1 dx (fun z => if z = fld then some v else none) → R (.ok (.ret .none)) { s with heap := h', toks := tk }) :
    codeAny (model prog w) A (.call (.ref f) args) R s := by
  obtain ⟨oc, od, osl, lk⟩ := S.lk
  have hloc : ∀ x ∈ [(("self" : Str), Value.ref a), (y, v)], fd.scope.names.lookup x.1 = some .local := fun x hx => by
    rcases List.mem_cons.mp hx with rfl | hx
    · exact S.kself
    · rw [List.mem_singleton.mp hx]
      exact ky
  refine ks_codeAny_call_defAt hroom (M.kin _ _ lk) rfl M.lim (codeRec_of M.kin S.codeQ) hbody hbind hcell hloc (fun h₀ hns k0 => ?_) hco hgen S.kind
  have aL : a ≠ s.heap.objs.size := Nat.ne_of_lt (Heap.lt_size ha)
  have mself : (fun x : Str => ([(("self" : Str), Value.ref a), (y, v)] : List (Str × Value)).reverse.lookup x) "self" = some (.ref a) := by
    show List.lookup ("self" : Str) [(y, v), ("self", Value.ref a)] = _
    have : (("self" : Str) == y) = false := by
      rw [Bool.eq_false_iff] at hy ⊢
      exact fun e => hy (beq_iff_eq.mpr (beq_iff_eq.mp e).symm)
    simp [List.lookup, this]
  have my : (fun x : Str => ([(("self" : Str), Value.ref a), (y, v)] : List (Str × Value)).reverse.lookup x) y = some v := by
    show List.lookup y [(y, v), ("self", Value.ref a)] = _
    simp [List.lookup]
  generalize (fun x : Str => ([(("self" : Str), Value.ref a), (y, v)] : List (Str × Value)).reverse.lookup x) = m at hns mself my
  obtain ⟨hh, g, d, t, os⟩ := s
  refine ks_wpAt_execs_cons (wpAt_supInit (EB := EB) (v := v) S (M.keeps k0) hsm hns mself T (k0 _ _ ha) sub hsup aL (fun s1 Q1 n1 q1 => ?_) rfl (hE _) (hi _) (hs _) fun h1 tk t1 k1 e1 => ?_)
  · exact ld_loc S.kind ky n1 my (by
      obtain ⟨a1, a2, a3, a4, a5⟩ := s1
      exact q1 a4) hyd
  · have n1 : h1.Ns hh.objs.size m := ns_at hns fun o z => k1 _ _ aL.symm z
    refine ks_wpAt_execs_cons (ks_wpAt_Assign_Attr (wpAt_of_wpAny (ld_loc S.kind ky n1 my ?_ hyd)) (hs2 _))
    refine ld_loc S.kind S.kself n1 mself ?_ (by decide)
    have X1 : K.In h1 := fun b o z => by
      have zb : b ≠ a := fun q => by
        rw [q, hKa] at z
        cases z
      exact k1 b o zb (k0 b o (M.kin b o z))
    refine set_first (s := ⟨h1, g, d, tk, os⟩) X1 T e1 hno fun h2 tk2 dx k2 dn dne hx hnx => ?_
    have lt1 : hh.objs.size ≤ dx := Nat.le_trans (Nat.le_of_lt (by obtain ⟨o, _, _, e, _⟩ := n1; exact Heap.lt_size e)) dn
    refine wpAt_of_wpAny (wpAny_pure ?_)
    exact h h2 tk2 dx t1 (fun b o hb z => k2 b o hb (k1 b o hb (k0 b o z))) lt1 dne hx hnx
/-- from a changed exception and its new dict to the abstract heap -/
theorem exo_made {P : Program} {fs' : List Addr} {H : Hp} {hp h' : Heap} {dx t1 : Addr} {fs : List (Str × V)} {mA : Str → Option Value} (hok : HOk P w H hp) (e : H a = some (exo a C none))
    (k : ∀ b o, b ≠ a → hp.get? b = some o → h'.get? b = some o) (dn : hp.objs.size ≤ dx) (dne : dx ≠ a) (hx : h'.get? a = some (exObj C (some dx) t1)) (hn : h'.Ns1 dx mA) (rel : ∀ f, RelO (fs.lookup f) (mA f)) :
    Un fs' [] H (upd (upd H dx (exd dx fs)) a (exo a C (some dx))) hp h' ∧ HOk P w (upd (upd H dx (exd dx fs)) a (exo a C (some dx))) h' := by
  have hnd : H dx = none := hok.fresh dn
  have nd : ∀ {b : Addr} {o : Obj}, hp.get? b = some o → b ≠ dx := fun {b o} q => Nat.ne_of_lt (Nat.lt_of_lt_of_le (Heap.lt_size q) dn)
  have na : ∀ {b : Addr}, H b = none → b ≠ a := fun {b} n z => by
    rw [z, e] at n
    cases n
  refine ⟨{
    keep := fun b o q n _ _ => k b o (na n) q
    slot := fun b o q n _ _ => ⟨o.slots, k b o (na n) q⟩
    free := fun b o q n _ => by rw [upd_ne (na n), upd_ne (nd q)]; exact n
    there := fun b o q _ => by
      by_cases hb : b = a
      · exact ⟨_, by rw [hb]; exact hx⟩
      · exact ⟨o, k b o hb q⟩
    tups := fun b xs q => by rw [upd_ne (at_ne e q exo_tup), upd_ne (ne_of_none q hnd)]; exact q
    frzs := fun b o v q => by rw [upd_ne (at_ne e q exo_frz), upd_ne (ne_of_none q hnd)]; exact q
    tbls := fun b ps q => ⟨#[], by rw [upd_ne (at_ne e q exo_tbl), upd_ne (ne_of_none q hnd), q]; simp⟩ }, fun b o q => ?_⟩
  by_cases hb : b = a
  · subst hb
    rw [upd_same] at q
    cases q
    exact exo_ok hx
  · rw [upd_ne hb] at q
    by_cases hd : b = dx
    · subst hd
      rw [upd_same] at q
      cases q
      exact exd_ok hn rel
    · rw [upd_ne hd] at q
      exact (hok b o q).stay (fun c v hc z => k c v (by
          rcases hc with hc | hc
          · rw [hc]
            exact hb
          · exact at_ne e hc exo_own) z)
        (fun c hc => by rw [upd_ne (at_ne e hc exo_own), upd_ne (ne_of_none hc hnd)]; exact hc) (fun c xs hc => by rw [upd_ne (at_ne e hc exo_tup), upd_ne (ne_of_none hc hnd)]; exact hc)
theorem Env0.md {P : Program} {base : Heap} {outer : List Env} {H : Hp} (e0 : Env0 P w K mg base A outer s H) : Md K mg s.heap := by
  have k : ∀ b o, base.get? b = some o → s.heap.get? b = some o := fun b o z => (e0.bs b o z).1
  obtain ⟨mb, c, d⟩ := e0.mod.blt
  exact ⟨e0.mod.kin.keeps k, e0.mod.glob.keeps k, ⟨mb, c.keeps k, d⟩, e0.mod.nolimit.keeps k⟩
theorem Env0.off {P : Program} {base : Heap} {outer : List Env} {H : Hp} (e0 : Env0 P w K mg base A outer s H) {o : HO} (e : H a = some o) : K.lookup a = none := by
  cases z : K.lookup a with
  | none => rfl
  | some ob =>
    have := (e0.bs a ob (e0.mod.kin a ob z)).2
    rw [e] at this
    cases this
/-- the promise of such an __init__ -/
def spInit1 (EB : EBase) (K : PySem.W.Frag) (D : Addr) (fld : Str) : Sp := fun vs H Q _ => ∃ (a C : Addr) (x : V), vs = [.ref a, x] ∧ ExC EB K C ∧ mroIn K C (.ref D) = some true ∧ ks_superIn K C D "__init__" = some (some (.builtin EB.ini)) ∧ findIn K (.ref C) fld = some none ∧
  H a = some (exo a C none) ∧ ∀ dx, H dx = none → dx ≠ a → Q .non (upd (upd H dx (exd dx [(fld, x)])) a (exo a C (some dx)))
theorem fn_init1 {P : Program} {base : Heap} {p0 p1 p2 p3 p4 p5 p6 p7 p8 p9 : Pos} {y fld : Str} {pl : Addr → Sem Bool} (S : SupFn P K f fd D) (hsm : mg "super" = none)
    (hbody : fd.body = .stmts [.Expr (.Call (.Attribute (.Call (.Name "super" p0) [] [] p1) "__init__" p2) [.Name y p3] [] p4) p5, .Assign [.Attribute (.Name "self" p6) fld p7] (.Name y p8) p9])
    (ky : fd.scope.names.lookup y = some .local) (hcell : ∀ x ∈ fd.scope.names, x.2 ≠ .cell) (hy : (y == ("self" : Str)) = false) (hyd : (y == ("__debug__" : Str)) = false)
    (hco : fd.scope.isCoroutine = false) (hgen : fd.scope.isGenerator = false)
    (hE : ∀ L, eval (.Call (.Attribute (.Call (.Name "super" p0) [] [] p1) "__init__" p2) [.Name y p3] [] p4) (callEnv fd L f) = (do
      let ov ← attributeBase (.Call (.Name "super" p0) [] [] p1) "__init__" (callEnv fd L f) (eval (.Call (.Name "super" p0) [] [] p1) (callEnv fd L f))
      standAt p2.atName
      let (f', first) ← holding [ov] (getMethod ov "__init__" (pl L))
      callWith p4 f' first (backTo p4 (starEach [.Name y p3] (callEnv fd L f))) []))
    (hi : ∀ L, interactive (callEnv fd L f) = false) (hs : ∀ L, swapsWith (.Call (.Attribute (.Call (.Name "super" p0) [] [] p1) "__init__" p2) [.Name y p3] [] p4) none p5.line (callEnv fd L f) = pure false)
    (hs2 : ∀ L, swapsWith (.Name y p8) (some (.Attribute (.Name "self" p6) fld p7)) p9.line (callEnv fd L f) = pure false) :
    FnOk P w K mg base CX0 1 f fd ["self", y] (spInit1 EB K D fld) := by
  refine ⟨fun vs H Q E h => ?_, fun A outer s H args us vs Q E hr e0 hb r h => ?_⟩
  · obtain ⟨a, C, x, rfl, _⟩ := h
    rfl
  · obtain ⟨a, C, x, rfl, T, sub, hsup, hno, e, q⟩ := h
    obtain ⟨u1, v, rfl, r1, r2⟩ := vals2 r
    obtain rfl : u1 = Value.ref a := r1
    obtain ⟨t0, ha⟩ := exo_at e0.hok e
    refine init1 S (Env0.md e0) hsm T ha sub hsup hr.depth hbody hb ky hcell hy hyd hco hgen hno (Env0.off e0 e) hE hi hs hs2 fun h' tk dx t1 k dn dne hx hn => ?_
    obtain ⟨U, O⟩ := exo_made (fs' := frs outer) (fs := [(fld, x)]) e0.hok e k dn dne hx hn (relO_put (fs := []) r2 fun g => True.intro)
    exact ⟨.non, _, rfl, e0.bare, U, O, rfl, q dx (e0.hok.fresh dn) dne⟩
/-! ### super().__init__(text) where that is a def of the program -/
/-- what a def __init__ that makes the dict does, by the heap -/
def Does1 (prog : Program) (w : World) (K : PySem.W.Frag) (mg : Str → Option Value) (A : Around) (f2 C a : Addr) (fld : Str) (v : Value) : Prop := ∀ (s1 : Shared) (t0 : Addr) (R : Result → Shared → Prop), Md K mg s1.heap → s1.heap.get? a = some (exObj C none t0) →
  (∀ h' tk dx t1, (∀ b o, b ≠ a → s1.heap.get? b = some o → h'.get? b = some o) → s1.heap.objs.size ≤ dx → dx ≠ a → h'.get? a = some (exObj C (some dx) t1) → h'.Ns1 dx (fun z => if z = fld then some v else none) → R (.ok (.ret .none)) { s1 with heap := h', toks := tk }) →
  codeAny (model prog w) A (.call (.ref f2) ⟨[.ref a, v], []⟩) R s1
theorem wpAt_supCall {body : List Stmt} {p0 p1 p2 p4 p5 : Pos} {e : Expr} {pl : Sem Bool} {m : Str → Option Value} {t0 f2 : Addr} {fld2 : Str} {Pv : Value → Prop} {Q : Flow → Shared → Prop} (S : SupFn prog K f fd D) (M : Md K mg s.heap) (hsm : mg "super" = none) (hn : s.heap.Ns L m) (hself : m "self" = some (.ref a)) (T : ExC EB K C)
    (ha : s.heap.get? a = some (exObj C none t0)) (sub : mroIn K C (.ref D) = some true) (hsup : ks_superIn K C D "__init__" = some (some (.ref f2))) (hf2 : typeIn K (.ref f2) = some (.type "function")) (hf3 : fnIn K f2 = true)
    (hcall : ∀ v, Pv v → Does1 prog w K mg A f2 C a fld2 v)
    (hev : ∀ (s1 : Shared) (Q1 : Value → Shared → Prop), s1.heap.Ns L m → (∀ v tk, Pv v → Q1 v { s1 with toks := tk }) → wpAny (model prog w) A (eval e (callEnv fd L f)) Q1 E s1)
    (he : starEach [e] (callEnv fd L f) = [(false, eval e (callEnv fd L f))])
    (hE : eval (.Call (.Attribute (.Call (.Name "super" p0) [] [] p1) "__init__" p2) [e] [] p4) (callEnv fd L f) = (do
      let ov ← attributeBase (.Call (.Name "super" p0) [] [] p1) "__init__" (callEnv fd L f) (eval (.Call (.Name "super" p0) [] [] p1) (callEnv fd L f))
      standAt p2.atName
      let (f', first) ← holding [ov] (getMethod ov "__init__" pl)
      callWith p4 f' first (backTo p4 (starEach [e] (callEnv fd L f))) []))
    (hi : interactive (callEnv fd L f) = false) (hs : swapsWith (.Call (.Attribute (.Call (.Name "super" p0) [] [] p1) "__init__" p2) [e] [] p4) none p5.line (callEnv fd L f) = pure false)
    (h : ∀ v h' tk dx t1, Pv v → (∀ b o, b ≠ a → s.heap.get? b = some o → h'.get? b = some o) → s.heap.objs.size ≤ dx → dx ≠ a → h'.get? a = some (exObj C (some dx) t1) → h'.Ns1 dx (fun z => if z = fld2 then some v else none) → Q .next { s with heap := h', toks := tk }) :
    _root_.PySem.wpAt (model prog w) A (.func body (callEnv fd L f)) (exec (.Expr (.Call (.Attribute (.Call (.Name "super" p0) [] [] p1) "__init__" p2) [e] [] p4) p5) (callEnv fd L f)) Q E s := by
  obtain ⟨nm, q, N, bs, bm, sn, sb, ab, col, dd, k0, k1, k2, k3, k5, hC, hbm⟩ := T.cls
  have X := M.kin
  refine ks_wpAt_Expr_any (ks_wpAt_MethodCall (wpAt_sup S M hsm hn hself ha rfl (fun c z => by cases z) sub fun so h1 hso k1' lso => ?_) hE) hi hs
  obtain ⟨hh, g, d, t, os⟩ := s
  have X1 : K.In h1 := X.keeps k1'
  have hcl : clsIn K C = some { name := nm, bases := bs, mro := .ref C :: bm, ns := N, qualname := q, hasDict := true, slotNames := sn, subclasses := sb, abstract := ab, collection := col, hasDel := false } := by unfold clsIn; rw [hC] <;> rfl
  have hal : alongIn K "__init__" (((.ref C :: bm : List Value).dropWhile (· != .ref D)).drop 1) = some (some (.ref f2)) := by
    unfold ks_superIn at hsup
    rw [hcl] at hsup
    exact hsup
  have hI1 : InstAt h1 a (exObj C none t0) C none := ⟨k1' _ _ ha, rfl, rfl, trivial⟩
  have hno : Looks (model prog w) h1 (opaqueClassAbove (.ref C)) none := looks_opaque X1 S.op
  have hmro : Looks (model prog w) h1 (mroOf (.ref C)) (.ref C :: bm) := fun A Q E s k q => wpAny_bind ((looks_clsIn X1 hcl) A _ E s k (wpAny_pure q))
  have haC : a ≠ C := ks_ne X1 hI1 hcl
  obtain ⟨of, hof, hofc⟩ : ∃ of, h1.get? f2 = some of ∧ of.cls = .type "function" := by
    have ht' : (K.lookup f2).map (·.cls) = some (.type "function") := hf2
    cases z : K.lookup f2 with
    | none =>
      rw [z] at ht'
      cases ht'
    | some of =>
      rw [z] at ht'
      exact ⟨of, X1 _ _ z, Option.some.inj ht'⟩
  refine ks_wpAny_getMethod_super hso hno hmro rfl X1 hal hof hofc haC (by decide) ?_
  show wpAny (model prog w) A (callWith p4 (.ref h1.objs.size) [] (backTo p4 (starEach [e] (callEnv fd L f))) []) _ E _
  rw [he]
  have k2' : ∀ y o, hh.get? y = some o → (h1.push (methodObj (.ref f2) (.ref a))).get? y = some o := fun y o z => Heap.get?_push_of_some _ (k1' y o z)
  refine callWith_of (P := MethP K h1.objs.size f2 (.ref a)) rfl (keeps_M hf3) (Calls.evalArgs_plain ?_)
  refine Calls.spliced_cons (hev _ _ (hn.keeps k2') fun v tk hv => Calls.spliced_nil ⟨⟨Heap.get?_push_at rfl rfl, X.keeps k2'⟩, ?_⟩)
  refine wpAny_call (ks_codeAny_call_bound (Heap.get?_push_at rfl rfl) ?_)
  refine hcall v hv _ t0 _ (M.keeps k2') (k2' _ _ ha) fun h' tk' dx t1 k' dn dne hx hnx => ?_
  have szm : hh.objs.size ≤ (h1.push (methodObj (.ref f2) (.ref a))).objs.size := Nat.le_trans lso (Nat.le_of_lt (Heap.lt_size (Heap.get?_push_of_some _ hso)))
  exact h v h' tk' dx t1 hv (fun b o hb z => k' b o hb (k2' b o z)) (Nat.le_trans szm dn) dne hx hnx
/-- a further field -/
theorem set_more {t0 dx : Addr} {fld : Str} {v : Value} {m0 : Str → Option Value} {nl : List Str} {Q : Unit → Shared → Prop} (X : K.In s.heap) (T : ExC EB K C) (ha : s.heap.get? a = some (exObj C (some dx) t0)) (hns : s.heap.Ns1 dx m0) (hw : Within m0 nl) (hz : nl.length ≤ 1000) (hno : findIn K (.ref C) fld = some none)
    (h : ∀ h' tk, (∀ b o, b ≠ dx → s.heap.get? b = some o → h'.get? b = some o) → h'.Ns1 dx (fun z => if z = fld then some v else m0 z) → Q () { s with heap := h', toks := tk }) :
    wpAny (model prog w) A (setAttr (.ref a) fld v) Q E s := by
  obtain ⟨nm, q, N, bs, bm, sn, sub, ab, col, dd, k0, k1, k2, k3, k5, hC, hbm⟩ := T.cls
  have hcl : clsIn K C = some { name := nm, bases := bs, mro := .ref C :: bm, ns := N, qualname := q, hasDict := true, slotNames := sn, subclasses := sub, abstract := ab, collection := col, hasDel := false } := by unfold clsIn; rw [hC] <;> rfl
  obtain ⟨hp, g, d, t, os⟩ := s
  obtain ⟨oD, _, _, hoD, _, _⟩ := hns.count hw
  refine set_plain X (ox := exObj C (some dx) t0) (od := some oD) ⟨ha, rfl, rfl, hoD⟩ T.sa ?_
  exact so_old (EB := EB) X ha hns hw hz hcl (show rowIs EB.tail (.ref C :: bm) = true from hbm) rfl rfl hno (fun h' tk' k hn => h h' tk' k hn)
/-- def __init__(self, y): super().__init__('text'); self.fld = y -/
theorem init2 {p0 p1 p2 p3 p4 p5 p6 p7 p8 p9 : Pos} {y fld fld2 x2 : Str} {j2 : Nat} {v : Value} {t0 f2 : Addr} {args : Args} {pl : Addr → Sem Bool} {R : Result → Shared → Prop} (S : SupFn prog K f fd D) (M : Md K mg s.heap) (hsm : mg "super" = none) (T : ExC EB K C)
    (ha : s.heap.get? a = some (exObj C none t0)) (sub : mroIn K C (.ref D) = some true) (hsup : ks_superIn K C D "__init__" = some (some (.ref f2))) (hf2 : typeIn K (.ref f2) = some (.type "function")) (hf3 : fnIn K f2 = true) (hroom : A.depth < recursionLimit)
    (hbody : fd.body = .stmts [.Expr (.Call (.Attribute (.Call (.Name "super" p0) [] [] p1) "__init__" p2) [.Constant (.str x2) j2 p3] [] p4) p5, .Assign [.Attribute (.Name "self" p6) fld p7] (.Name y p8) p9])
    (hcall : ∀ L tk, Does1 prog w K mg (A.deeper (callEnv fd L f)) f2 C a fld2 (.str x2 tk))
    (hbind : BindsTo s fd args [("self", .ref a), (y, v)]) (ky : fd.scope.names.lookup y = some .local) (hcell : ∀ x ∈ fd.scope.names, x.2 ≠ .cell) (hy : (y == ("self" : Str)) = false) (hyd : (y == ("__debug__" : Str)) = false)
    (hco : fd.scope.isCoroutine = false) (hgen : fd.scope.isGenerator = false) (hno : findIn K (.ref C) fld = some none) (hKa : K.lookup a = none)
    (hE : ∀ L, eval (.Call (.Attribute (.Call (.Name "super" p0) [] [] p1) "__init__" p2) [.Constant (.str x2) j2 p3] [] p4) (callEnv fd L f) = (do
      let ov ← attributeBase (.Call (.Name "super" p0) [] [] p1) "__init__" (callEnv fd L f) (eval (.Call (.Name "super" p0) [] [] p1) (callEnv fd L f))
      standAt p2.atName
      let (f', first) ← holding [ov] (getMethod ov "__init__" (pl L))
      callWith p4 f' first (backTo p4 (starEach [.Constant (.str x2) j2 p3] (callEnv fd L f))) []))
    (hi : ∀ L, interactive (callEnv fd L f) = false) (hs : ∀ L, swapsWith (.Call (.Attribute (.Call (.Name "super" p0) [] [] p1) "__init__" p2) [.Constant (.str x2) j2 p3] [] p4) none p5.line (callEnv fd L f) = pure false)
    (hs2 : ∀ L, swapsWith (.Name y p8) (some (.Attribute (.Name "self" p6) fld p7)) p9.line (callEnv fd L f) = pure false)
    (h : ∀ h' tk dx t1 tk2, (∀ b o, b ≠ a → s.heap.get? b = some o → h'.get? b = some o) → s.heap.objs.size ≤ dx → dx ≠ a → h'.get? a = some (exObj C (some dx) t1) → h'.Ns1 dx (fun z => if z = fld then some v else if z = fld2 then some (.str x2 tk2) else none) → R (.ok (.ret .none)) { s with heap := h', toks := tk }) :
    codeAny (model prog w) A (.call (.ref f) args) R s := by
  obtain ⟨oc, od, osl, lk⟩ := S.lk
  have hloc : ∀ x ∈ [(("self" : Str), Value.ref a), (y, v)], fd.scope.names.lookup x.1 = some .local := fun x hx => by
    rcases List.mem_cons.mp hx with rfl | hx
    · exact S.kself
    · rw [List.mem_singleton.mp hx]
      exact ky
  refine ks_codeAny_call_defAt hroom (M.kin _ _ lk) rfl M.lim (codeRec_of M.kin S.codeQ) hbody hbind hcell hloc (fun h₀ hns k0 => ?_) hco hgen S.kind
  have aL : a ≠ s.heap.objs.size := Nat.ne_of_lt (Heap.lt_size ha)
  have mself : (fun x : Str => ([(("self" : Str), Value.ref a), (y, v)] : List (Str × Value)).reverse.lookup x) "self" = some (.ref a) := by
    show List.lookup ("self" : Str) [(y, v), ("self", Value.ref a)] = _
    have : (("self" : Str) == y) = false := by
      rw [Bool.eq_false_iff] at hy ⊢
      exact fun e => hy (beq_iff_eq.mpr (beq_iff_eq.mp e).symm)
    simp [List.lookup, this]
  have my : (fun x : Str => ([(("self" : Str), Value.ref a), (y, v)] : List (Str × Value)).reverse.lookup x) y = some v := by
    show List.lookup y [(y, v), ("self", Value.ref a)] = _
    simp [List.lookup]
  generalize (fun x : Str => ([(("self" : Str), Value.ref a), (y, v)] : List (Str × Value)).reverse.lookup x) = m at hns mself my
  obtain ⟨hh, g, d, t, os⟩ := s
  have lL : hh.objs.size < h₀.objs.size := by
    obtain ⟨o, _, _, e, _⟩ := hns
    exact Heap.lt_size e
  refine ks_wpAt_execs_cons (wpAt_supCall (fld2 := fld2) (Pv := fun v => ∃ tk, v = .str x2 tk) S (M.keeps k0) hsm hns mself T (k0 _ _ ha) sub hsup hf2 hf3 (fun v hv => ?_) (fun s1 Q1 n1 q1 => ?_) rfl (hE _) (hi _) (hs _) fun v2 h1 tk dx t1 hv2 k1 dn dne e1 hn1 => ?_)
  · obtain ⟨tk, rfl⟩ := hv
    exact hcall _ _
  · obtain ⟨a1, a2, a3, a4, a5⟩ := s1
    exact Calls.Constant_str (q1 _ _ ⟨_, rfl⟩)
  · obtain ⟨tk2', rfl⟩ := hv2
    have n1 : h1.Ns hh.objs.size m := ns_at hns fun o z => k1 _ _ aL.symm z
    refine ks_wpAt_execs_cons (ks_wpAt_Assign_Attr (wpAt_of_wpAny (ld_loc S.kind ky n1 my ?_ hyd)) (hs2 _))
    refine ld_loc S.kind S.kself n1 mself ?_ (by decide)
    have X1 : K.In h1 := fun b o z => by
      have zb : b ≠ a := fun q => by
        rw [q, hKa] at z
        cases z
      exact k1 b o zb (k0 b o (M.kin b o z))
    refine set_more (s := ⟨h1, g, d, tk, os⟩) (nl := [fld2]) X1 T e1 hn1 (fun z hz => ?_) (by show 1 ≤ 1000; decide) hno fun h2 tk2 k2 hnx => ?_
    · by_cases q : z = fld2
      · rw [q]
        exact List.mem_singleton.mpr rfl
      · exact absurd (if_neg q) hz
    · have ne1 : ∀ b o, hh.get? b = some o → b ≠ dx := fun b o z => Nat.ne_of_lt (Nat.lt_of_lt_of_le (Nat.lt_trans (Heap.lt_size z) lL) dn)
      refine wpAt_of_wpAny (wpAny_pure ?_)
      exact h h2 tk2 dx t1 _ (fun b o hb z => k2 b o (ne1 b o z) (k1 b o hb (k0 b o z))) (Nat.le_trans (Nat.le_of_lt lL) dn) dne (k2 a _ dne.symm e1) hnx
end
end Fk
namespace Fk
open PySem PySem.Spec PyProof.Rows L2
section
open PySem.W
variable {EB : EBase} {P : Program} {w : World} {A : Around} {E : Value → Shared → Prop} {s : Shared} {K : PySem.W.Frag} {mg : Str → Option Value} {base : Heap} {f D C a L : Addr} {fd : FuncData}
/-- what __init__ of the class C promises: the fields -/
def spI (C : Addr) (mk : V → List (Str × V)) : Sp := fun vs H Q _ => ∃ (a : Addr) (x : V), vs = [.ref a, x] ∧ H a = some (exo a C none) ∧ ∀ dx, H dx = none → dx ≠ a → Q .non (upd (upd H dx (exd dx (mk x))) a (exo a C (some dx)))
/-- a class, the def's class D, its field: what the plain __init__ asks -/
structure In1 (EB : EBase) (K : PySem.W.Frag) (C D : Addr) (fld : Str) : Prop where
  c : ExC EB K C
  sub : mroIn K C (.ref D) = some true
  sup : ks_superIn K C D "__init__" = some (some (.builtin EB.ini))
  no : findIn K (.ref C) fld = some none
/-- the shape of such a def -/
structure De1 (fd : FuncData) (y fld : Str) : Prop where
  body : ∃ (p0 p1 p2 p3 p4 p5 p6 p7 p8 p9 : Pos) (pl : Addr → Addr → Sem Bool), fd.body = .stmts [.Expr (.Call (.Attribute (.Call (.Name "super" p0) [] [] p1) "__init__" p2) [.Name y p3] [] p4) p5, .Assign [.Attribute (.Name "self" p6) fld p7] (.Name y p8) p9] ∧ ∀ (f L : Addr), eval (.Call (.Attribute (.Call (.Name "super" p0) [] [] p1) "__init__" p2) [.Name y p3] [] p4) (callEnv fd L f) = (do
      let ov ← attributeBase (.Call (.Name "super" p0) [] [] p1) "__init__" (callEnv fd L f) (eval (.Call (.Name "super" p0) [] [] p1) (callEnv fd L f))
      standAt p2.atName
      let (f', first) ← holding [ov] (getMethod ov "__init__" (pl f L))
      callWith p4 f' first (backTo p4 (starEach [.Name y p3] (callEnv fd L f))) [])
  ky : fd.scope.names.lookup y = some .local
  cell : ∀ x ∈ fd.scope.names, x.2 ≠ .cell
  hy : (y == ("self" : Str)) = false
  hyd : (y == ("__debug__" : Str)) = false
  co : fd.scope.isCoroutine = false
  gen : fd.scope.isGenerator = false
theorem inter_no (h : fd.scope.kind = .function) : interactive (callEnv fd L f) = false := by
  show (fd.scope.kind == .module && _) = false
  rw [h]
  rfl
theorem run1 {y fld : Str} {v : Value} {t0 : Addr} {args : Args} {R : Result → Shared → Prop} (S : SupFn P K f fd D) (De : De1 fd y fld) (M : Md K mg s.heap) (hsm : mg "super" = none) (T : In1 EB K C D fld)
    (ha : s.heap.get? a = some (exObj C none t0)) (hroom : A.depth < recursionLimit) (hbind : BindsTo s fd args [("self", .ref a), (y, v)]) (hKa : K.lookup a = none)
    (h : ∀ h' tk dx t1, (∀ b o, b ≠ a → s.heap.get? b = some o → h'.get? b = some o) → s.heap.objs.size ≤ dx → dx ≠ a → h'.get? a = some (exObj C (some dx) t1) → h'.Ns1 dx (fun z => if z = fld then some v else none) → R (.ok (.ret .none)) { s with heap := h', toks := tk }) :
    codeAny (model P w) A (.call (.ref f) args) R s := by
  obtain ⟨p0, p1, p2, p3, p4, p5, p6, p7, p8, p9, pl, hbody, hev⟩ := De.body
  exact init1 S M hsm T.c ha T.sub T.sup hroom hbody hbind De.ky De.cell De.hy De.hyd De.co De.gen T.no hKa (fun L => hev f L) (fun L => inter_no S.kind) (fun L => rfl) (fun L => rfl) h
theorem ini1 {y fld : Str} (S : SupFn P K f fd D) (De : De1 fd y fld) (hsm : mg "super" = none) (T : In1 EB K C D fld) : FnOk P w K mg base CX0 1 f fd ["self", y] (spI C fun x => [(fld, x)]) := by
  refine ⟨fun vs H Q E h => ?_, fun A outer s H args us vs Q E hr e0 hb r h => ?_⟩
  · obtain ⟨a, x, rfl, _⟩ := h
    rfl
  · obtain ⟨a, x, rfl, e, q⟩ := h
    obtain ⟨u1, v, rfl, r1, r2⟩ := vals2 r
    obtain rfl : u1 = Value.ref a := r1
    obtain ⟨t0, ha⟩ := exo_at e0.hok e
    refine run1 S De (Env0.md e0) hsm T ha hr.depth hb (Env0.off e0 e) fun h' tk dx t1 k dn dne hx hn => ?_
    obtain ⟨U, O⟩ := exo_made (fs' := frs outer) (fs := [(fld, x)]) e0.hok e k dn dne hx hn (relO_put (fs := []) r2 fun g => True.intro)
    exact ⟨.non, _, rfl, e0.bare, U, O, rfl, q dx (e0.hok.fresh dn) dne⟩
/-- __init__ that says super().__init__('text') to such a def -/
structure De2 (fd : FuncData) (y fld x2 : Str) : Prop where
  body : ∃ (p0 p1 p2 p3 : Pos) (j : Nat) (p4 p5 p6 p7 p8 p9 : Pos) (pl : Addr → Addr → Sem Bool), fd.body = .stmts [.Expr (.Call (.Attribute (.Call (.Name "super" p0) [] [] p1) "__init__" p2) [.Constant (.str x2) j p3] [] p4) p5, .Assign [.Attribute (.Name "self" p6) fld p7] (.Name y p8) p9] ∧ ∀ (f L : Addr), eval (.Call (.Attribute (.Call (.Name "super" p0) [] [] p1) "__init__" p2) [.Constant (.str x2) j p3] [] p4) (callEnv fd L f) = (do
      let ov ← attributeBase (.Call (.Name "super" p0) [] [] p1) "__init__" (callEnv fd L f) (eval (.Call (.Name "super" p0) [] [] p1) (callEnv fd L f))
      standAt p2.atName
      let (f', first) ← holding [ov] (getMethod ov "__init__" (pl f L))
      callWith p4 f' first (backTo p4 (starEach [.Constant (.str x2) j p3] (callEnv fd L f))) [])
  ky : fd.scope.names.lookup y = some .local
  cell : ∀ x ∈ fd.scope.names, x.2 ≠ .cell
  hy : (y == ("self" : Str)) = false
  hyd : (y == ("__debug__" : Str)) = false
  co : fd.scope.isCoroutine = false
  gen : fd.scope.isGenerator = false
structure In2 (EB : EBase) (K : PySem.W.Frag) (C D D2 f2 : Addr) (fld fld2 : Str) : Prop where
  i : In1 EB K C D2 fld2
  sub : mroIn K C (.ref D) = some true
  sup : ks_superIn K C D "__init__" = some (some (.ref f2))
  ty : typeIn K (.ref f2) = some (.type "function")
  fn : fnIn K f2 = true
  no : findIn K (.ref C) fld = some none
theorem ini2 {D2 f2 : Addr} {fd2 : FuncData} {y y2 fld fld2 x2 : Str} (S : SupFn P K f fd D) (De : De2 fd y fld x2) (S2 : SupFn P K f2 fd2 D2) (Db : De1 fd2 y2 fld2) (hb2 : ∀ (s : Shared) (a v : Value), K.In s.heap → BindsTo s fd2 ⟨[a, v], []⟩ [("self", a), (y2, v)])
    (hsm : mg "super" = none) (T : In2 EB K C D D2 f2 fld fld2) : FnOk P w K mg base CX0 2 f fd ["self", y] (spI C fun x => [(fld, x), (fld2, .str x2)]) := by
  refine ⟨fun vs H Q E h => ?_, fun A outer s H args us vs Q E hr e0 hb r h => ?_⟩
  · obtain ⟨a, x, rfl, _⟩ := h
    rfl
  · obtain ⟨a, x, rfl, e, q⟩ := h
    obtain ⟨u1, v, rfl, r1, r2⟩ := vals2 r
    obtain rfl : u1 = Value.ref a := r1
    obtain ⟨t0, ha⟩ := exo_at e0.hok e
    obtain ⟨p0, p1, p2, p3, j, p4, p5, p6, p7, p8, p9, pl, hbody, hev⟩ := De.body
    refine init2 (fld2 := fld2) S (Env0.md e0) hsm T.i.c ha T.sub T.sup T.ty T.fn hr.depth hbody (fun L tk => ?_) hb De.ky De.cell De.hy De.hyd De.co De.gen T.no (Env0.off e0 e) (fun L => hev f L) (fun L => inter_no S.kind) (fun L => rfl) (fun L => rfl) fun h' tk dx t1 tk2 k dn dne hx hn => ?_
    · intro s1 t1 R M1 ha1 h1
      exact run1 S2 Db M1 hsm T.i ha1 (Room.depth (hr.deeper _)) (hb2 s1 _ _ M1.kin) (Env0.off e0 e) h1
    · obtain ⟨U, O⟩ := exo_made (fs' := frs outer) (fs := [(fld, x), (fld2, .str x2)]) e0.hok e k dn dne hx hn (relO_put (fs := [(fld2, .str x2)]) r2 (relO_put (fs := []) ⟨tk2, rfl⟩ fun g => True.intro))
      exact ⟨.non, _, rfl, e0.bare, U, O, rfl, q dx (e0.hok.fresh dn) dne⟩
/-! ### C(..) as a value -/
/-- what is said of the class C, its __init__ and their promise -/
structure Mkr (P : Program) (w : World) (K : PySem.W.Frag) (mg : Str → Option Value) (base : Heap) (C : Addr) (y : Str) (mk : V → List (Str × V)) : Prop where
  ex : ∃ (EB : EBase) (fI : Addr) (fd : FuncData), ExC EB K C ∧ findIn K (.ref C) "__init__" = some (some (.ref fI)) ∧ typeIn K (.ref fI) = some (.type "function") ∧ FnOk P w K mg base CX0 2 fI fd ["self", y] (spI C mk) ∧
    (∀ (s : Shared) (a v : Value), K.In s.heap → BindsTo s fd ⟨[a, v], []⟩ [("self", a), (y, v)]) ∧ ∀ (s : Shared) (a v : Value), K.In s.heap → BindsTo s fd ⟨[a], [(y, v)]⟩ [("self", a), (y, v)]
/-- .. that may be called without an argument -/
structure Mk0 (P : Program) (w : World) (K : PySem.W.Frag) (mg : Str → Option Value) (base : Heap) (C : Addr) (y : Str) (mk : V → List (Str × V)) (dv : V) : Prop where
  ex : ∃ (EB : EBase) (fI : Addr) (fd : FuncData) (d : Value), ExC EB K C ∧ findIn K (.ref C) "__init__" = some (some (.ref fI)) ∧ typeIn K (.ref fI) = some (.type "function") ∧ FnOk P w K mg base CX0 2 fI fd ["self", y] (spI C mk) ∧
    RelV dv d ∧ ∀ (s : Shared) (a : Value), K.In s.heap → BindsTo s fd ⟨[a], []⟩ [("self", a), (y, d)]
theorem upd3 {H : Hp} {a dx : Addr} {o e u : HO} (h : dx ≠ a) : upd (upd (upd H a o) dx e) a u = upd (upd H dx e) a u := by
  funext b
  by_cases hb : b = a
  · rw [hb, upd_same, upd_same]
  · rw [upd_ne hb, upd_ne hb]
    by_cases hd : b = dx
    · rw [hd, upd_same, upd_same]
    · rw [upd_ne hd, upd_ne hd, upd_ne hb]
theorem run_ex {X : Cx} {pins : List (Addr × Obj)} {σ : L2.St} {H : Hp} {Q : Value → Shared → Prop} {y : Str} {mk : V → List (Str × V)} {fI : Addr} {us : List Value} {kw : List (Str × Value)} {x : V} {v : Value} (T : ExC EB X.K C) (iC : findIn X.K (.ref C) "__init__" = some (some (.ref fI))) (tI : typeIn X.K (.ref fI) = some (.type "function"))
    (F1 : FnOk X.prog X.w X.K X.mg X.base CX0 2 fI fd ["self", y] (spI C mk)) (hr : Room 3 X.A) (hb : ∀ (s : Shared) (a : Value), X.K.In s.heap → BindsTo s fd ⟨a :: us, kw⟩ [("self", a), (y, v)]) (rv : RelV x v) (hl : us.length ≤ 10) (I : Inv X pins σ H s)
    (h : ∀ (s' : Shared) (a dx : Addr), s.heap.objs.size ≤ a → H a = none → H dx = none → dx ≠ a → (∃ hp2, (∀ b o, s.heap.get? b = some o → hp2.get? b = some o) ∧ Un (frs X.stack) [] (upd H a (exo a C none)) (upd (upd H dx (exd dx (mk x))) a (exo a C (some dx))) hp2 s'.heap) → HOk X.prog X.w (upd (upd H dx (exd dx (mk x))) a (exo a C (some dx))) s'.heap →
      s'.os = s.os → AllBare s'.gens → Inv X pins σ (upd (upd H dx (exd dx (mk x))) a (exo a C (some dx))) s' → Q (.ref a) s') : wpAny (model X.prog X.w) X.A (call (.ref C) us kw) Q X.xe s := by
  obtain ⟨nm, q, N, bs, bm, sn, sub, ab, col, dd, k0, k1, k2, k3, k5, hC, hbm⟩ := T.cls
  obtain ⟨i0, tl0, fb⟩ := EB.fn
  obtain ⟨hp, g, dr, tk, os⟩ := s
  have hsz : hp.objs.size ≤ hp.objs.size + 1 := Nat.le_succ _
  have hn : H (hp.objs.size + 1) = none := I.hok.fresh hsz
  have kk : ∀ b o, hp.get? b = some o → ((hp.push (PySem.W.kdv_tup us)).push (PySem.HandSPX.excO C hp.objs.size)).get? b = some o := fun b o e => Heap.get?_push_of_some _ (Heap.get?_push_of_some _ e)
  have hget : ((hp.push (PySem.W.kdv_tup us)).push (PySem.HandSPX.excO C hp.objs.size)).get? (hp.objs.size + 1) = some (PySem.HandSPX.excO C hp.objs.size) := by heap_get
  have I2 : Inv X pins σ (upd H (hp.objs.size + 1) (exo (hp.objs.size + 1) C none)) ⟨(hp.push (PySem.W.kdv_tup us)).push (PySem.HandSPX.excO C hp.objs.size), g, dr, tk, os⟩ :=
    I.laid (t' := tk) (a := hp.objs.size + 1) (o := exo (hp.objs.size + 1) C none) (h' := (hp.push (PySem.W.kdv_tup us)).push (PySem.HandSPX.excO C hp.objs.size)) kk hsz (exo_ok hget)
  have hT : bm.contains (.type EB.nb) = true ∧ bm.contains (.type "AttributeError") = false ∧ bm.contains (.type "NameError") = false := ⟨(tl_has _ _ hbm).trans EB.has, (tl_has _ _ hbm).trans EB.noA, (tl_has _ _ hbm).trans EB.noN⟩
  have hus : us.length ≤ sizeLine := by
    rw [sizeLine_eq]
    omega
  refine wpAny_call (cl_own fb hT (I.kIn _ _ hC) (PySem.W.looks_findIn I.kIn iC) (fun self => PySem.W.bind_fn I.kIn self tI) hus
    (codeAny_mono (F1.run _ X.stack _ _ ⟨Value.ref (hp.objs.size + 1) :: us, kw⟩ [Value.ref (hp.objs.size + 1), v] [V.ref (hp.objs.size + 1), x] (fun r H2 => r = .non ∧ ∃ dx, H dx = none ∧ dx ≠ hp.objs.size + 1 ∧ H2 = upd (upd H dx (exd dx (mk x))) (hp.objs.size + 1) (exo (hp.objs.size + 1) C (some dx))) (fun _ _ _ => False) (hr.make C us kw) (I2.env0.make C us kw) (hb _ _ I2.kIn) (.cons rfl (.cons rv .nil)) ⟨_, x, rfl, upd_same, fun dx h1 h2 => ⟨rfl, dx, by rw [upd_ne h2] at h1; exact h1, h2, upd3 h2⟩⟩) fun r s' hq' => ?_))
  cases r with
  | error er => exact hq'.elim
  | ok fl =>
    cases fl with
    | ret u =>
      have I3 := I2.after hq'
      obtain ⟨v', H2, os2, bare2, un2, hok2, rv', ev, dx, h1, h2, rfl⟩ := hq'
      subst ev
      obtain ⟨v3, H3, J, r3, ev3, dx3, h13, h23, e3⟩ := I3
      refine ⟨rv', h s' (hp.objs.size + 1) dx hsz hn h1 h2 ⟨_, kk, un2⟩ hok2 os2 bare2 ?_⟩
      obtain ⟨hh, g2, d2, t2, os'⟩ := s'
      obtain rfl : os' = os := os2
      exact I2.call (h' := hh) (g' := g2) (d' := d2) (t' := t2) (ch := []) un2 hok2 bare2 (fun b z => absurd z (by simp))
    | next => exact False.elim hq'
    | brk => exact False.elim hq'
    | cont => exact False.elim hq'
end
/-- C(e) | C(k = e) | C(), a new exception -/
def tMkE (C : Addr) (mk : V → List (Str × V)) (ta : TA) : TE := fun σ H Q => ta σ H fun vs H1 => ∃ x, vs = [x] ∧ ∀ a dx, H1 a = none → H1 dx = none → dx ≠ a → Q (.ref a) (upd (upd H1 dx (exd dx (mk x))) a (exo a C (some dx)))
section
variable {X : Cx} {x y : Str} {p pos kp : Pos} {e : Expr} {te : TE} {C : Addr} {mk : V → List (Str × V)} {dv : V}
theorem pe_mkE (M : Mkr X.prog X.w X.K X.mg X.base C y mk) (hr : Room 3 X.A) (hg : Gl X x) (hm : X.mg x = some (.ref C)) (he : PE X e te) (hdb : (x == ("__debug__" : Str)) = false := by decide)
    (hse : starEach [e] X.env = [(false, eval e X.env)] := by rfl) : PE X (.Call (.Name x p) [e] [] pos) (tMkE C mk (tCons te tNil)) := by
  obtain ⟨EB, fI, fd, T, iC, tI, F1, b1, b2⟩ := M.ex
  refine ⟨fun pins s σ H Q I h => ?_⟩
  refine wpAny_Call_Name_kw (ld_glob I hg hm ?_ hdb)
  have ha : PA X [e] (tCons te tNil) := pa_cons he pa_nil hse
  refine PySem.W.callWith_K (h₀ := X.base) I.ok.mod.kin T.kC (thn (ha.run pos pins s σ H (fun vs H1 => ∃ z, vs = [z] ∧ ∀ a dx, H1 a = none → H1 dx = none → dx ≠ a → Q (.ref a) (upd (upd H1 dx (exd dx (mk z))) a (exo a C (some dx)))) I h) fun us s1 ⟨vs, H1, I1, r1, z, ez, q1⟩ => ⟨I1.kIn, ?_⟩) hse rfl
  subst ez
  obtain ⟨v, rfl, rv⟩ := vals1 r1
  exact run_ex T iC tI F1 hr (fun s a k => b1 s a v k) rv (by show 1 ≤ 10; decide) I1 fun s' a dx _ h1 h2 h3 _ _ _ _ J => ⟨.ref a, _, J, rfl, q1 a dx h1 h2 h3⟩
theorem pe_mkEk (M : Mkr X.prog X.w X.K X.mg X.base C y mk) (hr : Room 3 X.A) (hg : Gl X x) (hm : X.mg x = some (.ref C)) (he : PE X e te) (hdb : (x == ("__debug__" : Str)) = false := by decide) :
    PE X (.Call (.Name x p) [] [⟨some y, e, kp⟩] pos) (tMkE C mk (tCons te tNil)) := by
  obtain ⟨EB, fI, fd, T, iC, tI, F1, b1, b2⟩ := M.ex
  refine ⟨fun pins s σ H Q I h => ?_⟩
  refine wpAny_Call_Name_kw (ld_glob I hg hm ?_ hdb)
  have ha : PK X [⟨some y, e, kp⟩] (tCons te tNil) := pk_cons he pk_nil
  refine PySem.W.callWith_KW0 (h₀ := X.base) I.ok.mod.kin T.kC rfl (thn (ha.run pos pins s σ H (fun vs H1 => ∃ z, vs = [z] ∧ ∀ a dx, H1 a = none → H1 dx = none → dx ≠ a → Q (.ref a) (upd (upd H1 dx (exd dx (mk z))) a (exo a C (some dx)))) I h) fun us s1 ⟨vs, H1, I1, r1, z, ez, q1⟩ => ⟨I1.kIn, ?_⟩)
  subst ez
  obtain ⟨v, rfl, rv⟩ := vals1 r1
  show wpAny _ _ (call (.ref C) [] [(y, v)]) _ _ _
  exact run_ex T iC tI F1 hr (fun s a k => b2 s a v k) rv (by show 0 ≤ 10; decide) I1 fun s' a dx _ h1 h2 h3 _ _ _ _ J => ⟨.ref a, _, J, rfl, q1 a dx h1 h2 h3⟩
theorem pe_mkE0 (M : Mk0 X.prog X.w X.K X.mg X.base C y mk dv) (hr : Room 3 X.A) (hg : Gl X x) (hm : X.mg x = some (.ref C)) (hdb : (x == ("__debug__" : Str)) = false := by decide) :
    PE X (.Call (.Name x p) [] [] pos) (tMkE C mk fun σ H Q => Q [dv] H) := by
  obtain ⟨EB, fI, fd, d, T, iC, tI, F1, rv, b1⟩ := M.ex
  refine ⟨fun pins s σ H Q I h => ?_⟩
  refine wpAny_Call_Name_kw (ld_glob I hg hm ?_ hdb)
  refine PySem.W.callWith_K0 I.kIn T.kC ?_
  obtain ⟨z, ez, q1⟩ := h
  obtain rfl : dv = z := (List.cons.inj ez).1
  exact run_ex (us := []) T iC tI F1 hr (fun s a k => b1 s a k) rv (by show 0 ≤ 10; decide) I fun s' a dx _ h1 h2 h3 _ _ _ _ J => ⟨.ref a, _, J, rfl, q1 a dx h1 h2 h3⟩
/-- the same, raised -/
def tMkX (C : Addr) (mk : V → List (Str × V)) (ta : TA) : L2.St → Hp → XK → Prop := fun σ H Q => ta σ H fun vs H1 => ∃ x, vs = [x] ∧ ∀ dx, H1 dx = none → Q (.ref C) (some dx) (upd H1 dx (.xd (mk x)))
theorem pmk_ex1 (M : Mkr X.prog X.w X.K X.mg X.base C y mk) (hr : Room 3 X.A) (hg : Gl X x) (hm : X.mg x = some (.ref C)) (he : PE X e te) (hdb : (x == ("__debug__" : Str)) = false := by decide)
    (hse : starEach [e] X.env = [(false, eval e X.env)] := by rfl) : PMk X (.Call (.Name x p) [e] [] pos) (tMkX C mk (tCons te tNil)) := by
  obtain ⟨EB, fI, fd, T, iC, tI, F1, b1, b2⟩ := M.ex
  intro pins s σ H Q I h
  refine wpAny_Call_Name_kw (ld_glob I hg hm ?_ hdb)
  have ha : PA X [e] (tCons te tNil) := pa_cons he pa_nil hse
  refine PySem.W.callWith_K (h₀ := X.base) I.ok.mod.kin T.kC (thn (ha.run pos pins s σ H (fun vs H1 => ∃ z, vs = [z] ∧ ∀ dx, H1 dx = none → Q (.ref C) (some dx) (upd H1 dx (.xd (mk z)))) I h) fun us s1 ⟨vs, H1, I1, r1, z, ez, q1⟩ => ⟨I1.kIn, ?_⟩) hse rfl
  subst ez
  obtain ⟨v, rfl, rv⟩ := vals1 r1
  refine run_ex T iC tI F1 hr (fun s a k => b1 s a v k) rv (by show 1 ≤ 10; decide) I1 fun s' a dx ha h1 h2 h3 hu hok ho hbr J => ?_
  obtain ⟨hp2, kk, un⟩ := hu
  obtain ⟨hp, g, dr, tk, os⟩ := s1
  obtain ⟨hp', g', dr', tk', os'⟩ := s'
  have e1 : (upd (upd H1 dx (exd dx (mk z))) a (exo a C (some dx))) dx = some (exd dx (mk z)) := by rw [upd_ne h3, upd_same]
  refine mk_end (raises_own T.exC T.tyC) I1 ha kk un hok ho hbr upd_same e1 h2 ?_
  have e2 : upd (del (upd (upd H1 dx (exd dx (mk z))) a (exo a C (some dx))) a) dx (.xd (mk z)) = upd H1 dx (.xd (mk z)) := by
    funext b
    by_cases hb : b = dx
    · rw [hb, upd_same, upd_same]
    · rw [upd_ne hb, upd_ne hb]
      by_cases hba : b = a
      · rw [hba, del_same, h1]
      · rw [del_ne hba, upd_ne hba, upd_ne hb]
  rw [e2]
  exact q1 dx h2
end
end Fk
namespace Fk
open PySem PySem.Spec PyProof.Rows L2
/-- isinstance(e, c), e an exception that is held as a value -/
def rIsX (K : PySem.W.Frag) : List V → Hp → VK → Prop := fun xs H Q => ∃ (a D dx : Addr) (fs : List (Str × V)) (c : V) (u : Value) (b : Bool), xs = [.ref a, c] ∧ H a = some (exo a D (some dx)) ∧ H dx = some (exd dx fs) ∧ ExcC K D ∧ ClsV c u ∧ PySem.W.kitOne K (.ref D) u = some b ∧ Q (.bl b) H
theorem cls_some {K : PySem.W.Frag} {D : Addr} (T : ExcC K D) : (PySem.W.clsIn K D).isSome = true := by
  obtain ⟨cd, hc, _⟩ := PySem.W.any_some T.hd
  rw [hc]
  rfl
theorem call_isX {X : Cx} : CallR X (.builtin "isinstance") (rIsX X.K) := by
  intro pins s σ H xs us Q I r h
  obtain ⟨a, D, dx, fs, c, u, b, rfl, ea, ed, T, k, e, q⟩ := h
  obtain ⟨u1, u2, rfl, r1, r2⟩ := vals2 r
  have e2 := k.eq r2
  subst e2
  cases (show u1 = Value.ref a from r1)
  obtain ⟨t1, ha⟩ := exo_at I.hok ea
  obtain ⟨mA, hns, _⟩ := exd_at I.hok ed
  obtain ⟨od, es, ep, ho, _⟩ := hns
  have J : PySem.W.InstAt s.heap a (exObj D (some dx) t1) D (some od) := ⟨ha, rfl, rfl, ho⟩
  exact PySem.W.kia_one (PySem.W.kitx_exc (cls_some T) T.hg T.hk T.hs T.ha T.hn T.ht T.hm) I.kIn J e (fun z => nomatch z) fun tk => ⟨.bl b, H, I.tok tk, rfl, q⟩
/-- e.f of such an exception -/
def tFx (K : PySem.W.Frag) (f : Str) (te : TE) : TE := fun σ H Q => te σ H fun x H1 => ∃ (a D dx : Addr) (fs : List (Str × V)) (v : V), x = .ref a ∧ H1 a = some (exo a D (some dx)) ∧ H1 dx = some (exd dx fs) ∧ XfC K D ∧ PySem.W.findIn K (.ref D) f = some none ∧ fs.lookup f = some v ∧ Q v H1
theorem pe_fx {X : Cx} {e : Expr} {te : TE} {pos : Pos} {f : Str} (he : PE X e te) (hb : attributeBase e f X.env (eval e X.env) = eval e X.env := by rfl) : PE X (.Attribute e f pos) (tFx X.K f te) := by
  refine ⟨fun pins s σ H Q I h => ?_⟩
  refine attr_of hb (thn (he.run pins s σ H _ I h) fun u s1 hh => ?_)
  obtain ⟨x, H1, I1, rx, a, D, dx, fs, v, ex, ea, ed, T, hno, l, q⟩ := hh
  subst ex
  obtain rfl : u = Value.ref a := rx
  obtain ⟨t1, ha⟩ := exo_at I1.hok ea
  obtain ⟨mA, hns, hr⟩ := exd_at I1.hok ed
  obtain ⟨od, ho, hl⟩ := lookIn_ns hns
  obtain ⟨u, hu, ru⟩ := RelO.some_of (v := v) (o := mA f) (by rw [← l]; exact hr f)
  have J : PySem.W.InstAt s1.heap a (exObj D (some dx) t1) D (some od) := ⟨ha, rfl, rfl, ho⟩
  exact HandSPX.exc_get I1.kIn J T.ga T.gg T.exC (PySem.W.findObj_own T.hdC hno rfl (by rw [hl, hu])) (handed_of ru) ⟨v, H1, I1.tok _, ru, q⟩
/-- isinstance(e, (c1, ..)), e the exception that the suite holds -/
def rIsS (K : PySem.W.Frag) (a : Addr) (cls : Value) (d : Option Addr) : List V → Hp → VK → Prop := fun xs H Q => ∃ (D tp dx : Addr) (fs : List (Str × V)) (cs : List V) (us : List Value) (b : Bool), xs = [.ref a, .ref tp] ∧ cls = .ref D ∧ ExcC K D ∧ d = some dx ∧ H dx = some (.xd fs) ∧ H tp = some (.tup cs) ∧ Paired ClsV cs us ∧ PySem.W.kitAny K (.ref D) us = some b ∧ Q (.bl b) H
theorem call_isS {X : Cx} {a : Addr} {oe : Obj} {cls : Value} {d : Option Addr} {pn : List (Addr × Obj)} (hz : Zc cls d oe) (hf : ∃ vs, oe.data = .fields vs) : CallR (X.suite a ((a, oe) :: pn)) (.builtin "isinstance") (rIsS X.K a cls d) := by
  intro pins s σ H xs us Q I r h
  obtain ⟨D, tp, dx, fs, cs, ws, b, rfl, rfl, T, rfl, ed, hT, k, e, q⟩ := h
  obtain ⟨u1, u2, rfl, r1, r2⟩ := vals2 r
  cases (show u1 = Value.ref a from r1)
  cases (show u2 = Value.ref tp from r2)
  obtain ⟨ha, _⟩ := I.pin (a, oe) (List.mem_append_left _ List.mem_cons_self)
  obtain ⟨vs, hd⟩ := hf
  have hx : ObjOk X.prog X.w H s.heap dx (.xd fs) := I.hok dx _ ed
  obtain ⟨mA, hns, _⟩ := hx
  obtain ⟨od, es, ep, ho, _⟩ := hns
  have J : PySem.W.InstAt s.heap a oe D (some od) := ⟨ha, hz.1, by unfold PySem.W.notCls; rw [hd] <;> rfl, by rw [hz.2]; exact ho⟩
  obtain ⟨_, its, rv, o, h1, h2, n, h3⟩ := (show ObjOk X.prog X.w H s.heap tp (.tup cs) from I.hok tp _ hT)
  have e3 := ClsV.all k rv
  subst e3
  obtain ⟨oc, od', dt, sl⟩ := o
  simp only at h2 h3
  subst h2 h3
  exact PySem.W.kia_tup (PySem.W.kitx_exc (cls_some T) T.hg T.hk T.hs T.ha T.hn T.ht T.hm) I.kIn J h1 e (fun z => nomatch z) fun tk => ⟨.bl b, H, I.tok tk, rfl, q⟩
end Fk
namespace Fk
open PySem PySem.Spec PyProof.Rows L2
/-! ### __init__ defs that say super() -/
abbrev IniW : Type := Option (Str × Arguments × FuncBody × Scope × Addr × Addr)
def fI (K : PySem.W.Frag) (c : Str) : Addr := He.fAd K (c, some "__init__")
def iniW (K : PySem.W.Frag) (c : Str) : IniW := match K.lookup (fI K c) with
  | some ⟨_, _, .func fd, _⟩ => some (fd.qualname, fd.params, fd.body, fd.scope, fd.globals, fd.builtins)
  | _ => none
structure IniD where
  cls : Str
  qual : Str
  params : Arguments
  body : List Stmt
  scope : Scope
  dfl : List He.Dv := []
def IniD.val (d : IniD) : IniW := some (d.qual, d.params, .stmts d.body, d.scope, mainGlobals, builtinsNs)
def cellB (K : PySem.W.Frag) (D : Addr) : List (Str × Addr) → Bool
  | [(n, cc)] => decide (n = "__class__") && (match K.lookup cc with
    | some ⟨_, _, .cell (some (.ref D')), _⟩ => decide (D' = D)
    | _ => false)
  | _ => false
def fileB (K : PySem.W.Frag) (file : Str) : Value → Bool
  | .ref cda => (match K.lookup cda with
    | some ⟨_, _, .fields vs, _⟩ => (match (vs : Array Value)[2]? with
      | some (Value.str fl _) => file == fl
      | _ => false)
    | _ => false)
  | _ => false
def IniD.ok (file : Str) (K : PySem.W.Frag) (d : IniD) : Bool := match K.lookup (fI K d.cls) with
  | some ⟨_, _, .func fd, _⟩ => PySem.W.codeIn K fd.code d.qual && (He.dflB K fd.defaults (d.dfl.map (He.Dv.v K)) && (cellB K (He.ga K d.cls) fd.closure && (fileB K file fd.code && ((PySem.W.clsIn K (He.ga K d.cls)).isSome && decide (PySem.W.nsIn K cStatics "thirdparty.any" = some none)))))
  | _ => false
theorem cellB_ok {K : PySem.W.Frag} {D : Addr} {l : List (Str × Addr)} (h : cellB K D l = true) : ∃ cc cl cld csl, l = [(("__class__" : Str), cc)] ∧ K.lookup cc = some ⟨cl, cld, .cell (some (.ref D)), csl⟩ := by
  unfold cellB at h
  split at h
  · rename_i n cc
    rw [Bool.and_eq_true] at h
    obtain ⟨h1, h2⟩ := h
    split at h2
    · rename_i c d D' sl e
      rw [of_decide_eq_true h1, ← of_decide_eq_true h2]
      exact ⟨_, _, _, _, rfl, e⟩
    · cases h2
  · cases h
theorem fileB_ok {K : PySem.W.Frag} {file : Str} {v : Value} (h : fileB K file v = true) : ∃ cda ccl cdd ccs vs fl tf, v = .ref cda ∧ K.lookup cda = some ⟨ccl, cdd, .fields vs, ccs⟩ ∧ vs[2]? = some (.str fl tf) ∧ (file == fl) = true := by
  unfold fileB at h
  split at h
  · split at h
    · split at h
      · rename_i e1 _ fl tf e2
        exact ⟨_, _, _, _, _, _, _, rfl, e1, e2, h⟩
      · cases h
    · cases h
  · cases h
/-- what is asked of such a def's scope -/
structure ScI (sc : Scope) (params : Arguments) (y : Str) : Prop where
  ks : sc.names.lookup ("super" : Str) = some .globalImplicit
  kc : sc.names.lookup ("__class__" : Str) = some .free
  kself : sc.names.lookup ("self" : Str) = some .local
  ky : sc.names.lookup y = some .local
  kind : sc.kind = .function
  co : sc.isCoroutine = false
  gen : sc.isGenerator = false
  cell : (sc.names.all fun x => decide (x.2 ≠ .cell)) = true
  par : ∃ ar, (params.posonlyargs ++ params.args).head? = some ar ∧ ar.arg = "self"
  hy : (y == ("self" : Str)) = false
  hyd : (y == ("__debug__" : Str)) = false
/-- the def, its facts -/
theorem IniD.get {P : Program} {K : PySem.W.Frag} {d : IniD} {y : Str} (e : iniW K d.cls = d.val) (c : d.ok P.main.file K = true) (S : ScI d.scope d.params y) (top : (P.main.scope.names.lookup ("super" : Str)).isSome = false) :
    ∃ fd, SupFn P K (fI K d.cls) fd (He.ga K d.cls) ∧ (∃ n1 clo dV n9 n10 n11 n12 n13 n14, fd = ⟨n1, d.qual, d.params, .stmts d.body, d.scope, mainGlobals, clo, dV, n9, n10, n11, n12, n13, n14, builtinsNs⟩ ∧ DflV K dV (d.dfl.map (He.Dv.v K))) := by
  unfold iniW at e
  unfold IniD.ok at c
  cases q : K.lookup (fI K d.cls) with
  | none =>
    rw [q] at c
    cases c
  | some o =>
    obtain ⟨oc, od, dt, osl⟩ := o
    rw [q] at c e
    cases dt with
    | func fd =>
      obtain ⟨n1, n2, n3, n4, n5, n6, n7, n8, n9, n10, n11, n12, n13, n14, n15⟩ := fd
      have e2 : (some (n2, n3, n4, n5, n6, n15) : IniW) = some (d.qual, d.params, .stmts d.body, d.scope, mainGlobals, builtinsNs) := e
      simp only [Option.some.injEq, Prod.mk.injEq] at e2
      obtain ⟨rfl, rfl, rfl, rfl, rfl, rfl⟩ := e2
      obtain ⟨c1, c⟩ := He.ba (show (PySem.W.codeIn K n13 d.qual && (He.dflB K n8 (d.dfl.map (He.Dv.v K)) && (cellB K (He.ga K d.cls) n7 && (fileB K P.main.file n13 && ((PySem.W.clsIn K (He.ga K d.cls)).isSome && decide (PySem.W.nsIn K cStatics "thirdparty.any" = some none)))))) = true from c)
      obtain ⟨c2, c⟩ := He.ba c
      obtain ⟨c3, c⟩ := He.ba c
      obtain ⟨c4, c⟩ := He.ba c
      obtain ⟨c5, c6⟩ := He.ba c
      refine ⟨_, ⟨⟨oc, od, osl, q⟩, rfl, rfl, fileB_ok c4, c1, cellB_ok c3, Option.isSome_iff_exists.mp c5, of_decide_eq_true c6, top, S.ks, S.kc, S.kself, S.kind, S.par⟩, n1, n7, n8, n9, n10, n11, n12, n13, n14, rfl, He.dflB_ok c2⟩
    | _ => cases c
/-! ### the classes -/
def eb (key : Bool) : EBase := if key then ebK else ebV
def clsB (EB : EBase) (K : PySem.W.Frag) (C : Addr) : Bool := (match K.lookup C with
  | some ⟨.type "type", _, .cls cd, sl⟩ => (match cd.mro, sl.toList with
    | .ref C' :: bm, [_, _, _, _, some (.builtin n), _] => C' == C && n == EB.nw && !cd.hasDel && cd.hasDict && rowIs EB.tail bm
    | _, _ => false)
  | _ => false) && (decide (PySem.W.findIn K (.ref C) "__setattr__" = some (some (.builtin "object.__setattr__"))) && (decide (PySem.W.subIn K (.ref C) (.type "BaseException") = some true) && (decide (PySem.W.typeIn K (.ref C) = some (.type "type")) && (PySem.W.keepIn K (.ref C) && decide (PySem.W.mroIn K C (.type EB.B) = some true)))))
theorem clsB_ok {EB : EBase} {K : PySem.W.Frag} {C : Addr} (h : clsB EB K C = true) : ExC EB K C := by
  obtain ⟨q, h⟩ := He.ba h
  obtain ⟨h1, h⟩ := He.ba h
  obtain ⟨h2, h⟩ := He.ba h
  obtain ⟨h3, h⟩ := He.ba h
  obtain ⟨h4, h5⟩ := He.ba h
  refine ⟨?_, of_decide_eq_true h1, of_decide_eq_true h2, of_decide_eq_true h3, h4, of_decide_eq_true h5⟩
  split at q
  · rename_i dd cd sl ho
    split at q
    · rename_i C' bm k0 k1 k2 k3 n k5 hm hs
      simp only [Bool.and_eq_true, beq_iff_eq, Bool.not_eq_true'] at q
      obtain ⟨⟨⟨⟨rfl, rfl⟩, z1⟩, z2⟩, z3⟩ := q
      obtain ⟨nm, bs, mro, ns, qn, hd, sn, sub, ab, col, del⟩ := cd
      dsimp only at hm z1 z2
      subst hm z1 z2
      obtain rfl : sl = #[k0, k1, k2, k3, some (.builtin EB.nw), k5] := by
        obtain ⟨l⟩ := sl
        simp only at hs
        rw [hs]
      exact ⟨nm, qn, ns, bs, bm, sn, sub, ab, col, dd, k0, k1, k2, k3, k5, ho, z3⟩
    · cases q
  · cases q
def exkB (K : PySem.W.Frag) (C : Addr) : Bool := xfB K C && (decide (PySem.W.findIn K (.ref C) "__class__" = some (some (.builtin "object.__class__"))) && (decide (PySem.W.specialIn K (.builtin "object.__class__") "__get__" = some (some (.builtin "getset_descriptor.__get__"))) && (decide (PySem.W.takesIn K (.builtin "object.__class__") = some true) && decide (PySem.W.mroIn K C (.type "object") = some true))))
theorem exkB_ok {K : PySem.W.Frag} {C : Addr} (h : exkB K C = true) : XfC K C ∧ ExcC K C := by
  obtain ⟨h0, h⟩ := He.ba h
  obtain ⟨h1, h⟩ := He.ba h
  obtain ⟨h2, h⟩ := He.ba h
  obtain ⟨h3, h4⟩ := He.ba h
  have z := xfB_ok h0
  exact ⟨z, z.ga, z.gg, z.exC, z.hdC, of_decide_eq_true h1, of_decide_eq_true h2, of_decide_eq_true h3, of_decide_eq_true h4⟩
/-- a class of errors: whose __init__ it has, the def over the built-in class, the fields -/
structure ErrD where
  cls : Str
  own : Str
  root : Str
  key : Bool
  fld : Str
  fld2 : Str
def ErrD.ok (K : PySem.W.Frag) (e : ErrD) : Bool := clsB (eb e.key) K (He.ga K e.cls) && (exkB K (He.ga K e.cls) && (decide (PySem.W.mroIn K (He.ga K e.cls) (.ref (He.ga K e.root)) = some true) && (decide (PySem.W.ks_superIn K (He.ga K e.cls) (He.ga K e.root) "__init__" = some (some (.builtin (eb e.key).ini))) &&
  (decide (PySem.W.findIn K (.ref (He.ga K e.cls)) e.fld = some none) && (decide (PySem.W.findIn K (.ref (He.ga K e.cls)) e.fld2 = some none) && (decide (PySem.W.findIn K (.ref (He.ga K e.cls)) "__init__" = some (some (.ref (fI K e.own)))) && (decide (PySem.W.typeIn K (.ref (fI K e.own)) = some (.type "function")) &&
  (decide (e.own = e.root) || (decide (PySem.W.mroIn K (He.ga K e.cls) (.ref (He.ga K e.own)) = some true) && (decide (PySem.W.ks_superIn K (He.ga K e.cls) (He.ga K e.own) "__init__" = some (some (.ref (fI K e.root)))) && (decide (PySem.W.typeIn K (.ref (fI K e.root)) = some (.type "function")) && PySem.W.fnIn K (fI K e.root))))))))))))
structure ErrOk (K : PySem.W.Frag) (e : ErrD) : Prop where
  c : ExC (eb e.key) K (He.ga K e.cls)
  xf : XfC K (He.ga K e.cls)
  xc : ExcC K (He.ga K e.cls)
  i1 : In1 (eb e.key) K (He.ga K e.cls) (He.ga K e.root) e.fld2
  no : PySem.W.findIn K (.ref (He.ga K e.cls)) e.fld = some none
  ini : PySem.W.findIn K (.ref (He.ga K e.cls)) "__init__" = some (some (.ref (fI K e.own)))
  ty : PySem.W.typeIn K (.ref (fI K e.own)) = some (.type "function")
  i2 : e.own ≠ e.root → In2 (eb e.key) K (He.ga K e.cls) (He.ga K e.own) (He.ga K e.root) (fI K e.root) e.fld e.fld2
theorem ErrD.get {K : PySem.W.Frag} {e : ErrD} (h : e.ok K = true) : ErrOk K e := by
  obtain ⟨h1, h⟩ := He.ba h
  obtain ⟨h2, h⟩ := He.ba h
  obtain ⟨h3, h⟩ := He.ba h
  obtain ⟨h4, h⟩ := He.ba h
  obtain ⟨h5, h⟩ := He.ba h
  obtain ⟨h6, h⟩ := He.ba h
  obtain ⟨h7, h⟩ := He.ba h
  obtain ⟨h8, h⟩ := He.ba h
  have i1 : In1 (eb e.key) K (He.ga K e.cls) (He.ga K e.root) e.fld2 := ⟨clsB_ok h1, of_decide_eq_true h3, of_decide_eq_true h4, of_decide_eq_true h6⟩
  refine ⟨clsB_ok h1, (exkB_ok h2).1, (exkB_ok h2).2, i1, of_decide_eq_true h5, of_decide_eq_true h7, of_decide_eq_true h8, fun hne => ?_⟩
  rcases Bool.or_eq_true_iff.mp h with h | h
  · exact absurd (of_decide_eq_true h) hne
  · obtain ⟨g1, h⟩ := He.ba h
    obtain ⟨g2, h⟩ := He.ba h
    obtain ⟨g3, g4⟩ := He.ba h
    exact ⟨i1, of_decide_eq_true g1, of_decide_eq_true g2, of_decide_eq_true g3, g4, of_decide_eq_true h5⟩
/-! ### the Hook -/
def asY (g : Addr → Option Obj) : Nat → List Addr
  | 0 => [mainGlobals, cStatics]
  | n + 1 => He.growD g (asY g n)
abbrev AlY : Type := He.AlD × Bool × List IniW
def obsY (file : Str) (fa : List He.Fa) (fn : List He.DefD) (ini : List IniD) (ex : PySem.W.Frag → Bool) (K : PySem.W.Frag) : AlY := (He.obsD fa fn K, (ini.all fun d => d.ok file K) && ex K, ini.map fun d => iniW K d.cls)
def valY (fn : List He.DefD) (ini : List IniD) : AlY := (He.valD fn, true, ini.map IniD.val)
structure SaysY (file : Str) (fa : List He.Fa) (fn : List He.DefD) (ini : List IniD) (ex : PySem.W.Frag → Bool) (K : PySem.W.Frag) : Prop where
  d : He.SaysD fa fn K
  ok : ∀ d ∈ ini, d.ok file K = true
  ex : ex K = true
  w : ini.map (fun d => iniW K d.cls) = ini.map IniD.val
theorem saysY_of {file : Str} {fa : List He.Fa} {fn : List He.DefD} {ini : List IniD} {ex : PySem.W.Frag → Bool} {K : PySem.W.Frag} (e : obsY file fa fn ini ex K = valY fn ini) : SaysY file fa fn ini ex K := by
  obtain ⟨h1, h2⟩ := He.ba (show ((ini.all fun d => d.ok file K) && ex K) = true from congrArg (fun z : AlY => z.2.1) e)
  exact ⟨congrArg (fun z : AlY => z.1) e, fun d hd => List.all_eq_true.mp h1 d hd, h2, congrArg (fun z : AlY => z.2.2) e⟩
theorem SaysY.ini {file : Str} {fa : List He.Fa} {fn : List He.DefD} {ini : List IniD} {ex : PySem.W.Frag → Bool} {K : PySem.W.Frag} (c : SaysY file fa fn ini ex K) (i : Nat) {d : IniD} (h : ini[i]? = some d) : iniW K d.cls = d.val ∧ d.ok file K = true := by
  refine ⟨?_, c.ok d (List.mem_of_getElem? h)⟩
  have e2 : (ini.map fun d => iniW K d.cls)[i]? = (ini.map IniD.val)[i]? := by rw [c.w]
  rw [List.getElem?_map, List.getElem?_map, h] at e2
  exact Option.some.inj e2
def obsYG (file : Str) (n : Nat) (fa : List He.Fa) (fn : List He.DefD) (ini : List IniD) (ex : PySem.W.Frag → Bool) (g : Addr → Option Obj) : AlY := obsY file fa fn ini ex (He.frG g (asY g n))
def hookY (file : Str) (n : Nat) (fa : List He.Fa) (fn : List He.DefD) (ini : List IniD) (ex : PySem.W.Frag → Bool) : PySem.W.Hook where
  α := AlY
  obs := fun s => obsYG file n fa fn ini ex s.heap.get?
  val := fun _ => valY fn ini
  says := fun _ h => ∃ K : PySem.W.Frag, K.In h ∧ SaysY file fa fn ini ex K
  of := fun _ _ e => ⟨_, He.frG_in, saysY_of e⟩
  keeps := fun _ _ _ ⟨K, hK, c⟩ k => ⟨K, PySem.W.Frag.In.keeps hK k, c⟩
theorem obsYG_eq {file : Str} {n : Nat} {fa : List He.Fa} {fn : List He.DefD} {ini : List IniD} {ex : PySem.W.Frag → Bool} {g : Addr → Option Obj} {s : Shared} (h : ∀ a, g a = s.heap.get? a) : obsYG file n fa fn ini ex g = (hookY file n fa fn ini ex).obs s := by
  have e : g = s.heap.get? := funext h
  rw [e] <;> rfl
end Fk
namespace K02
open PySem PySem.Spec PyProof.Rows L2
-- row forkhaul_k02_errors_and_their_kinds law at 37
def top (i : Nat) : Stmt := PySem.Challenge.pw_forkhaul_k02_errors_and_their_kinds.main.body.getD i (.Pass ⟨0, 0, 0, 0⟩)
abbrev s_ForkError___init__ : Stmt := inClass (top 1) 0
abbrev s_BadObject___init__ : Stmt := inClass (top 11) 0
abbrev s_BadPack___init__ : Stmt := inClass (top 12) 0
abbrev s_BadExpression___init__ : Stmt := inClass (top 13) 0
abbrev s_Clash___init__ : Stmt := inClass (top 14) 0
abbrev s_Conflict___init__ : Stmt := inClass (top 15) 0
abbrev s_Locked___init__ : Stmt := inClass (top 16) 0
abbrev s_Stale___init__ : Stmt := inClass (top 17) 0
abbrev s_NoObject___init__ : Stmt := inClass (top 18) 0
abbrev s_NoRef___init__ : Stmt := inClass (top 19) 0
abbrev s__law_cell_at : Stmt := top 21
abbrev s__law_well : Stmt := top 22
abbrev s__law_draw : Stmt := top 23
abbrev s__law_pick : Stmt := top 24
abbrev s__law_signs : Stmt := top 25
abbrev s__law_all_signs : Stmt := top 26
abbrev s__law_segment : Stmt := top 27
abbrev s__law_path : Stmt := top 28
abbrev s__law_text : Stmt := top 29
abbrev s__law_id : Stmt := top 30
abbrev s__law_marks : Stmt := top 31
abbrev s__law_bases : Stmt := top 32
abbrev s__law_plain : Stmt := top 33
abbrev s__law_fielded : Stmt := top 34
abbrev s__law_field : Stmt := top 35
abbrev s__law_catches : Stmt := top 36
abbrev s_law : Stmt := top 37
def d__law_cell_at : He.DefD := ⟨("_law_cell_at", none), "_law_cell_at", "_law_cell_at", defArgs s__law_cell_at, defBody s__law_cell_at, defScope s__law_cell_at, [], []⟩
def d__law_well : He.DefD := ⟨("_law_well", none), "_law_well", "_law_well", defArgs s__law_well, defBody s__law_well, defScope s__law_well, [], []⟩
def d__law_draw : He.DefD := ⟨("_law_draw", none), "_law_draw", "_law_draw", defArgs s__law_draw, defBody s__law_draw, defScope s__law_draw, [], []⟩
def d__law_pick : He.DefD := ⟨("_law_pick", none), "_law_pick", "_law_pick", defArgs s__law_pick, defBody s__law_pick, defScope s__law_pick, [], []⟩
def d__law_signs : He.DefD := ⟨("_law_signs", none), "_law_signs", "_law_signs", defArgs s__law_signs, defBody s__law_signs, defScope s__law_signs, [], []⟩
def d__law_all_signs : He.DefD := ⟨("_law_all_signs", none), "_law_all_signs", "_law_all_signs", defArgs s__law_all_signs, defBody s__law_all_signs, defScope s__law_all_signs, [], []⟩
def d__law_segment : He.DefD := ⟨("_law_segment", none), "_law_segment", "_law_segment", defArgs s__law_segment, defBody s__law_segment, defScope s__law_segment, [], []⟩
def d__law_path : He.DefD := ⟨("_law_path", none), "_law_path", "_law_path", defArgs s__law_path, defBody s__law_path, defScope s__law_path, [], []⟩
def d__law_text : He.DefD := ⟨("_law_text", none), "_law_text", "_law_text", defArgs s__law_text, defBody s__law_text, defScope s__law_text, [], []⟩
def d__law_id : He.DefD := ⟨("_law_id", none), "_law_id", "_law_id", defArgs s__law_id, defBody s__law_id, defScope s__law_id, [], []⟩
def d__law_marks : He.DefD := ⟨("_law_marks", none), "_law_marks", "_law_marks", defArgs s__law_marks, defBody s__law_marks, defScope s__law_marks, [], []⟩
def d__law_bases : He.DefD := ⟨("_law_bases", none), "_law_bases", "_law_bases", defArgs s__law_bases, defBody s__law_bases, defScope s__law_bases, [], []⟩
def d__law_plain : He.DefD := ⟨("_law_plain", none), "_law_plain", "_law_plain", defArgs s__law_plain, defBody s__law_plain, defScope s__law_plain, [], []⟩
def d__law_fielded : He.DefD := ⟨("_law_fielded", none), "_law_fielded", "_law_fielded", defArgs s__law_fielded, defBody s__law_fielded, defScope s__law_fielded, [], []⟩
def d__law_field : He.DefD := ⟨("_law_field", none), "_law_field", "_law_field", defArgs s__law_field, defBody s__law_field, defScope s__law_field, [], []⟩
def d__law_catches : He.DefD := ⟨("_law_catches", none), "_law_catches", "_law_catches", defArgs s__law_catches, defBody s__law_catches, defScope s__law_catches, [], []⟩
def d_law : He.DefD := ⟨("law", none), "law", "law", defArgs s_law, defBody s_law, defScope s_law, [], []⟩
def fn : List He.DefD := [d__law_cell_at, d__law_well, d__law_draw, d__law_pick, d__law_signs, d__law_all_signs, d__law_segment, d__law_path, d__law_text, d__law_id, d__law_marks, d__law_bases, d__law_plain, d__law_fielded, d__law_field, d__law_catches, d_law]
def i_ForkError : Fk.IniD := ⟨"ForkError", "ForkError.__init__", defArgs s_ForkError___init__, defBody s_ForkError___init__, defScope s_ForkError___init__, [.str ""]⟩
def i_BadObject : Fk.IniD := ⟨"BadObject", "BadObject.__init__", defArgs s_BadObject___init__, defBody s_BadObject___init__, defScope s_BadObject___init__, []⟩
def i_BadPack : Fk.IniD := ⟨"BadPack", "BadPack.__init__", defArgs s_BadPack___init__, defBody s_BadPack___init__, defScope s_BadPack___init__, []⟩
def i_BadExpression : Fk.IniD := ⟨"BadExpression", "BadExpression.__init__", defArgs s_BadExpression___init__, defBody s_BadExpression___init__, defScope s_BadExpression___init__, []⟩
def i_Clash : Fk.IniD := ⟨"Clash", "Clash.__init__", defArgs s_Clash___init__, defBody s_Clash___init__, defScope s_Clash___init__, []⟩
def i_Conflict : Fk.IniD := ⟨"Conflict", "Conflict.__init__", defArgs s_Conflict___init__, defBody s_Conflict___init__, defScope s_Conflict___init__, []⟩
def i_Locked : Fk.IniD := ⟨"Locked", "Locked.__init__", defArgs s_Locked___init__, defBody s_Locked___init__, defScope s_Locked___init__, []⟩
def i_Stale : Fk.IniD := ⟨"Stale", "Stale.__init__", defArgs s_Stale___init__, defBody s_Stale___init__, defScope s_Stale___init__, []⟩
def i_NoObject : Fk.IniD := ⟨"NoObject", "NoObject.__init__", defArgs s_NoObject___init__, defBody s_NoObject___init__, defScope s_NoObject___init__, []⟩
def i_NoRef : Fk.IniD := ⟨"NoRef", "NoRef.__init__", defArgs s_NoRef___init__, defBody s_NoRef___init__, defScope s_NoRef___init__, []⟩
def inis : List Fk.IniD := [i_ForkError, i_BadObject, i_BadPack, i_BadExpression, i_Clash, i_Conflict, i_Locked, i_Stale, i_NoObject, i_NoRef]
def e_ForkError : Fk.ErrD := ⟨"ForkError", "ForkError", "ForkError", false, "why", "why"⟩
def e_BadName : Fk.ErrD := ⟨"BadName", "ForkError", "ForkError", false, "why", "why"⟩
def e_BadPath : Fk.ErrD := ⟨"BadPath", "ForkError", "ForkError", false, "why", "why"⟩
def e_BadRef : Fk.ErrD := ⟨"BadRef", "ForkError", "ForkError", false, "why", "why"⟩
def e_BadChange : Fk.ErrD := ⟨"BadChange", "ForkError", "ForkError", false, "why", "why"⟩
def e_BadMark : Fk.ErrD := ⟨"BadMark", "ForkError", "ForkError", false, "why", "why"⟩
def e_BadLetter : Fk.ErrD := ⟨"BadLetter", "ForkError", "ForkError", false, "why", "why"⟩
def e_BadCommand : Fk.ErrD := ⟨"BadCommand", "ForkError", "ForkError", false, "why", "why"⟩
def e_Crash : Fk.ErrD := ⟨"Crash", "ForkError", "ForkError", false, "why", "why"⟩
def e_Cut : Fk.ErrD := ⟨"Cut", "ForkError", "ForkError", false, "why", "why"⟩
def e_BadObject : Fk.ErrD := ⟨"BadObject", "BadObject", "ForkError", false, "at", "why"⟩
def e_BadPack : Fk.ErrD := ⟨"BadPack", "BadPack", "ForkError", false, "at", "why"⟩
def e_BadExpression : Fk.ErrD := ⟨"BadExpression", "BadExpression", "ForkError", false, "at", "why"⟩
def e_Clash : Fk.ErrD := ⟨"Clash", "Clash", "ForkError", false, "name", "why"⟩
def e_Conflict : Fk.ErrD := ⟨"Conflict", "Conflict", "ForkError", false, "paths", "why"⟩
def e_Locked : Fk.ErrD := ⟨"Locked", "Locked", "ForkError", false, "ref", "why"⟩
def e_Stale : Fk.ErrD := ⟨"Stale", "Stale", "ForkError", false, "ref", "why"⟩
def e_NoObject : Fk.ErrD := ⟨"NoObject", "NoObject", "NoObject", true, "name", "name"⟩
def e_NoRef : Fk.ErrD := ⟨"NoRef", "NoRef", "NoRef", true, "name", "name"⟩
def errs : List Fk.ErrD := [e_ForkError, e_BadName, e_BadPath, e_BadRef, e_BadChange, e_BadMark, e_BadLetter, e_BadCommand, e_Crash, e_Cut, e_BadObject, e_BadPack, e_BadExpression, e_Clash, e_Conflict, e_Locked, e_Stale, e_NoObject, e_NoRef]
def fa0 : List He.Fa := [.glo "ForkError", .glo "BadName", .glo "BadPath", .glo "BadRef", .glo "BadChange", .glo "BadMark", .glo "BadLetter", .glo "BadCommand", .glo "Crash", .glo "Cut", .glo "BadObject", .glo "BadPack", .glo "BadExpression", .glo "Clash", .glo "Conflict", .glo "Locked", .glo "Stale", .glo "NoObject", .glo "NoRef", .glo "_law_cell_at", .glo "_law_well", .glo "_law_draw", .glo "_law_pick", .glo "_law_signs", .glo "_law_all_signs", .glo "_law_segment", .glo "_law_path", .glo "_law_text", .glo "_law_id", .glo "_law_marks"]
def fa1 : List He.Fa := [.glo "_law_bases", .glo "_law_plain", .glo "_law_fielded", .glo "_law_field", .glo "_law_catches", .glo "law", .free "len", .free "int", .free "range", .free "min", .free "isinstance", .free "str", .free "super", .free "ValueError", .free "KeyError", .free "IndexError", .free "RuntimeError", .free "TypeError"]
def fa : List He.Fa := fa0 ++ fa1
def loose0 : List PySem.Str := ["ForkError", "BadName", "BadPath", "BadRef", "BadChange", "BadMark", "BadLetter", "BadCommand", "Crash", "Cut", "BadObject", "BadPack", "BadExpression", "Clash", "Conflict", "Locked", "Stale", "NoObject", "NoRef", "_law_cell_at", "_law_well", "_law_draw", "_law_pick", "_law_signs", "_law_all_signs"]
def loose1 : List PySem.Str := ["_law_segment", "_law_path", "_law_text", "_law_id", "_law_marks", "_law_bases", "_law_plain", "_law_fielded", "_law_field", "_law_catches"]
def loose : List PySem.Str := loose0 ++ loose1
def own0 : List PySem.Str := ["BadName", "BadPath", "BadRef", "BadChange", "BadMark", "BadLetter", "BadCommand", "Crash", "Cut"]
def own1 : List PySem.Str := ["BadObject", "BadPack", "BadExpression", "Clash", "Conflict", "Locked", "Stale", "NoObject", "NoRef", "ForkError"]
def own : List PySem.Str := own0 ++ own1
def keys : List PySem.Str := ["NoObject", "NoRef"]
def kitF (c d : PySem.Str) : Bool := decide (c = d) || (decide (d = "ForkError") && !keys.contains c)
def blts : List String := ["ValueError", "KeyError", "IndexError", "RuntimeError", "TypeError"]
def kitG (c : PySem.Str) (b : String) : Bool := (decide (b = "ValueError") && !keys.contains c) || (decide (b = "KeyError") && keys.contains c)
def exx (K : PySem.W.Frag) : Bool := (errs.all fun e => e.ok K) && ((own.all fun c => own.all fun d => decide (PySem.W.kitOne K (.ref (He.ga K c)) (.ref (He.ga K d)) = some (kitF c d))) && ((own.all fun c => blts.all fun b => decide (PySem.W.kitOne K (.ref (He.ga K c)) (.type b) = some (kitG c b))) && (own.all fun c => decide (PySem.W.exmOne K (.ref (He.ga K c)) (.ref (He.ga K "ForkError")) = some (kitF c "ForkError")))))
abbrev FILE : Str := PySem.Challenge.pw_forkhaul_k02_errors_and_their_kinds.main.file
structure Ctx (K : PySem.W.Frag) (mg : Str → Option Value) : Prop where
  ex : ∃ h : Heap, K.In h ∧ h.Ns mainGlobals mg
  y : Fk.SaysY FILE fa fn inis exx K
theorem Ctx.c {K : PySem.W.Frag} {mg : Str → Option Value} (T : Ctx K mg) : He.SaysD fa fn K := T.y.d
section
variable {K : PySem.W.Frag} {mg : Str → Option Value}
theorem Ctx.glo (T : Ctx K mg) (i : Nat) {x : Str} (h : fa[i]? = some (.glo x) := by rfl) : mg x = some (.ref (He.ga K x)) := by
  obtain ⟨h0, X, G⟩ := T.ex
  exact He.glo_ok X G (T.c.fact i h)
theorem Ctx.fre (T : Ctx K mg) (i : Nat) {x : Str} (h : fa[i]? = some (.free x) := by rfl) : mg x = none := by
  obtain ⟨h0, X, G⟩ := T.ex
  exact He.free_ok X G (T.c.fact i h)
theorem Ctx.int (T : Ctx K mg) (i : Nat) {x : Str} {n : Int} (h : fa[i]? = some (.int x n) := by rfl) : ∃ t, mg x = some (.int n t) := by
  obtain ⟨h0, X, G⟩ := T.ex
  exact He.int_ok X G (T.c.fact i h)
theorem Ctx.str (T : Ctx K mg) (i : Nat) {x z : Str} (h : fa[i]? = some (.str x z) := by rfl) : ∃ t, mg x = some (.str z t) := by
  obtain ⟨h0, X, G⟩ := T.ex
  exact He.str_ok X G (T.c.fact i h)
theorem Ctx.g_ForkError (T : Ctx K mg) : mg "ForkError" = some (.ref (He.ga K "ForkError")) := T.glo 0
theorem Ctx.g_BadName (T : Ctx K mg) : mg "BadName" = some (.ref (He.ga K "BadName")) := T.glo 1
theorem Ctx.g_BadPath (T : Ctx K mg) : mg "BadPath" = some (.ref (He.ga K "BadPath")) := T.glo 2
theorem Ctx.g_BadRef (T : Ctx K mg) : mg "BadRef" = some (.ref (He.ga K "BadRef")) := T.glo 3
theorem Ctx.g_BadChange (T : Ctx K mg) : mg "BadChange" = some (.ref (He.ga K "BadChange")) := T.glo 4
theorem Ctx.g_BadMark (T : Ctx K mg) : mg "BadMark" = some (.ref (He.ga K "BadMark")) := T.glo 5
theorem Ctx.g_BadLetter (T : Ctx K mg) : mg "BadLetter" = some (.ref (He.ga K "BadLetter")) := T.glo 6
theorem Ctx.g_BadCommand (T : Ctx K mg) : mg "BadCommand" = some (.ref (He.ga K "BadCommand")) := T.glo 7
theorem Ctx.g_Crash (T : Ctx K mg) : mg "Crash" = some (.ref (He.ga K "Crash")) := T.glo 8
theorem Ctx.g_Cut (T : Ctx K mg) : mg "Cut" = some (.ref (He.ga K "Cut")) := T.glo 9
theorem Ctx.g_BadObject (T : Ctx K mg) : mg "BadObject" = some (.ref (He.ga K "BadObject")) := T.glo 10
theorem Ctx.g_BadPack (T : Ctx K mg) : mg "BadPack" = some (.ref (He.ga K "BadPack")) := T.glo 11
theorem Ctx.g_BadExpression (T : Ctx K mg) : mg "BadExpression" = some (.ref (He.ga K "BadExpression")) := T.glo 12
theorem Ctx.g_Clash (T : Ctx K mg) : mg "Clash" = some (.ref (He.ga K "Clash")) := T.glo 13
theorem Ctx.g_Conflict (T : Ctx K mg) : mg "Conflict" = some (.ref (He.ga K "Conflict")) := T.glo 14
theorem Ctx.g_Locked (T : Ctx K mg) : mg "Locked" = some (.ref (He.ga K "Locked")) := T.glo 15
theorem Ctx.g_Stale (T : Ctx K mg) : mg "Stale" = some (.ref (He.ga K "Stale")) := T.glo 16
theorem Ctx.g_NoObject (T : Ctx K mg) : mg "NoObject" = some (.ref (He.ga K "NoObject")) := T.glo 17
theorem Ctx.g_NoRef (T : Ctx K mg) : mg "NoRef" = some (.ref (He.ga K "NoRef")) := T.glo 18
theorem Ctx.g__law_cell_at (T : Ctx K mg) : mg "_law_cell_at" = some (.ref (He.ga K "_law_cell_at")) := T.glo 19
theorem Ctx.g__law_well (T : Ctx K mg) : mg "_law_well" = some (.ref (He.ga K "_law_well")) := T.glo 20
theorem Ctx.g__law_draw (T : Ctx K mg) : mg "_law_draw" = some (.ref (He.ga K "_law_draw")) := T.glo 21
theorem Ctx.g__law_pick (T : Ctx K mg) : mg "_law_pick" = some (.ref (He.ga K "_law_pick")) := T.glo 22
theorem Ctx.g__law_signs (T : Ctx K mg) : mg "_law_signs" = some (.ref (He.ga K "_law_signs")) := T.glo 23
theorem Ctx.g__law_all_signs (T : Ctx K mg) : mg "_law_all_signs" = some (.ref (He.ga K "_law_all_signs")) := T.glo 24
theorem Ctx.g__law_segment (T : Ctx K mg) : mg "_law_segment" = some (.ref (He.ga K "_law_segment")) := T.glo 25
theorem Ctx.g__law_path (T : Ctx K mg) : mg "_law_path" = some (.ref (He.ga K "_law_path")) := T.glo 26
theorem Ctx.g__law_text (T : Ctx K mg) : mg "_law_text" = some (.ref (He.ga K "_law_text")) := T.glo 27
theorem Ctx.g__law_id (T : Ctx K mg) : mg "_law_id" = some (.ref (He.ga K "_law_id")) := T.glo 28
theorem Ctx.g__law_marks (T : Ctx K mg) : mg "_law_marks" = some (.ref (He.ga K "_law_marks")) := T.glo 29
theorem Ctx.g__law_bases (T : Ctx K mg) : mg "_law_bases" = some (.ref (He.ga K "_law_bases")) := T.glo 30
theorem Ctx.g__law_plain (T : Ctx K mg) : mg "_law_plain" = some (.ref (He.ga K "_law_plain")) := T.glo 31
theorem Ctx.g__law_fielded (T : Ctx K mg) : mg "_law_fielded" = some (.ref (He.ga K "_law_fielded")) := T.glo 32
theorem Ctx.g__law_field (T : Ctx K mg) : mg "_law_field" = some (.ref (He.ga K "_law_field")) := T.glo 33
theorem Ctx.g__law_catches (T : Ctx K mg) : mg "_law_catches" = some (.ref (He.ga K "_law_catches")) := T.glo 34
theorem Ctx.g_law (T : Ctx K mg) : mg "law" = some (.ref (He.ga K "law")) := T.glo 35
theorem Ctx.f_len (T : Ctx K mg) : mg "len" = none := T.fre 36
theorem Ctx.f_int (T : Ctx K mg) : mg "int" = none := T.fre 37
theorem Ctx.f_range (T : Ctx K mg) : mg "range" = none := T.fre 38
theorem Ctx.f_min (T : Ctx K mg) : mg "min" = none := T.fre 39
theorem Ctx.f_isinstance (T : Ctx K mg) : mg "isinstance" = none := T.fre 40
theorem Ctx.f_str (T : Ctx K mg) : mg "str" = none := T.fre 41
theorem Ctx.f_super (T : Ctx K mg) : mg "super" = none := T.fre 42
theorem Ctx.f_ValueError (T : Ctx K mg) : mg "ValueError" = none := T.fre 43
theorem Ctx.f_KeyError (T : Ctx K mg) : mg "KeyError" = none := T.fre 44
theorem Ctx.f_IndexError (T : Ctx K mg) : mg "IndexError" = none := T.fre 45
theorem Ctx.f_RuntimeError (T : Ctx K mg) : mg "RuntimeError" = none := T.fre 46
theorem Ctx.f_TypeError (T : Ctx K mg) : mg "TypeError" = none := T.fre 47
end
abbrev R : PySem.W.OpenRow := PySem.W.OpenLaw.row PySem.Challenge.rw_forkhaul_k02_errors_and_their_kinds
abbrev hk : PySem.W.Hook := Fk.hookY FILE 6 fa fn inis exx
def ob (s : PySem.W.SharedT) : Fk.AlY := Fk.obsYG FILE 6 fa fn inis exx (HandSHeadRun.getT s)
theorem ob_eq (s : PySem.W.SharedT) : ob s = hk.obs s.abs := Fk.obsYG_eq (HandSHeadRun.getT_eq s)
theorem run (w : World) : HandSHeadRun.RunEq R (PySem.W.view R.prog [37]) hk ob 20000 loose w := by
  intro os
  kernel_rfl
end K02
namespace K02
open PySem PySem.Spec PyProof.Rows L2 Fk
abbrev PP : Program := PySem.Challenge.pw_forkhaul_k02_errors_and_their_kinds
theorem topS : (PP.main.scope.names.lookup ("super" : Str)).isSome = false := by decide +kernel
section
variable {w : World} {K : PySem.W.Frag} {mg : Str → Option Value} {base : Heap}
theorem Ctx.err (T : Ctx K mg) (i : Nat) {e : ErrD} (h : errs[i]? = some e := by rfl) : ErrOk K e := by
  obtain ⟨h1, _⟩ := He.ba (show ((errs.all fun e => e.ok K) && _) = true from T.y.ex)
  exact ErrD.get (List.all_eq_true.mp h1 e (List.mem_of_getElem? h))
/-- the def over ValueError, with its default -/
theorem scF : ScI i_ForkError.scope i_ForkError.params "why" := ⟨by rfl, by rfl, by rfl, by rfl, by rfl, by rfl, by rfl, by decide +kernel, ⟨_, rfl, rfl⟩, by decide, by decide⟩
structure RootF (w : World) (K : PySem.W.Frag) (mg : Str → Option Value) (fd : FuncData) : Prop where
  s : SupFn PP K (fI K "ForkError") fd (He.ga K "ForkError")
  d : De1 fd "why" "why"
  b : ∀ (s : Shared) (a v : Value), K.In s.heap → BindsTo s fd ⟨[a, v], []⟩ [("self", a), ("why", v)]
  bk : ∀ (s : Shared) (a v : Value), K.In s.heap → BindsTo s fd ⟨[a], [("why", v)]⟩ [("self", a), ("why", v)]
  b0 : ∃ d : Value, RelV (.str "") d ∧ ∀ (s : Shared) (a : Value), K.In s.heap → BindsTo s fd ⟨[a], []⟩ [("self", a), ("why", d)]
theorem rootF (T : Ctx K mg) : ∃ fd, RootF w K mg fd := by
  obtain ⟨e, c⟩ := T.y.ini 0 (d := i_ForkError) rfl
  obtain ⟨fd, S, n1, clo, dV, n9, n10, n11, n12, n13, n14, rfl, hD⟩ := IniD.get (P := PP) e c scF topS
  have De : De1 ⟨n1, i_ForkError.qual, i_ForkError.params, .stmts i_ForkError.body, i_ForkError.scope, mainGlobals, clo, dV, n9, n10, n11, n12, n13, n14, builtinsNs⟩ "why" "why" := ⟨⟨_, _, _, _, _, _, _, _, _, _, fun f L => _, rfl, fun f L => by rfl⟩, scF.ky, fun x hx => of_decide_eq_true (List.all_eq_true.mp scF.cell x hx), scF.hy, scF.hyd, scF.co, scF.gen⟩
  rcases hD with ⟨e0, _⟩ | ⟨_, TT, o, its, m, rfl, lT, oT, rT⟩
  · cases e0
  · obtain ⟨d, rfl, rd⟩ := vals1 (x := V.str "") rT
    refine ⟨_, S, De, fun s a v X => BindsTo.of_looks fun M => ?_, fun s a v X => BindsTo.of_looks fun M => ?_, d, rd, fun s a X => BindsTo.of_looks fun M => ?_⟩
    · obtain ⟨k, e1, e2⟩ : ∃ k, bindArgs ⟨n1, i_ForkError.qual, i_ForkError.params, .stmts i_ForkError.body, i_ForkError.scope, mainGlobals, clo, .ref TT, n9, n10, n11, n12, n13, n14, builtinsNs⟩ ⟨[a, v], []⟩ = seqItems? (.ref TT) >>= k ∧ k (some [d].toArray) = pure [(("self" : Str), a), (("why" : Str), v)] := ⟨_, rfl, by kernel_rfl⟩
      rw [e1]
      exact looks_items X lT oT (.of_pure e2)
    · obtain ⟨k, e1, e2⟩ : ∃ k, bindArgs ⟨n1, i_ForkError.qual, i_ForkError.params, .stmts i_ForkError.body, i_ForkError.scope, mainGlobals, clo, .ref TT, n9, n10, n11, n12, n13, n14, builtinsNs⟩ ⟨[a], [("why", v)]⟩ = seqItems? (.ref TT) >>= k ∧ k (some [d].toArray) = pure [(("self" : Str), a), (("why" : Str), v)] := ⟨_, rfl, by kernel_rfl⟩
      rw [e1]
      exact looks_items X lT oT (.of_pure e2)
    · obtain ⟨k, e1, e2⟩ : ∃ k, bindArgs ⟨n1, i_ForkError.qual, i_ForkError.params, .stmts i_ForkError.body, i_ForkError.scope, mainGlobals, clo, .ref TT, n9, n10, n11, n12, n13, n14, builtinsNs⟩ ⟨[a], []⟩ = seqItems? (.ref TT) >>= k ∧ k (some [d].toArray) = pure [(("self" : Str), a), (("why" : Str), d)] := ⟨_, rfl, by kernel_rfl⟩
      rw [e1]
      exact looks_items X lT oT (.of_pure e2)
theorem mkW (T : Ctx K mg) {e : ErrD} (E : ErrOk K e) (h1 : e.own = "ForkError") (h2 : e.root = "ForkError") (h3 : e.fld2 = "why") : Mkr PP w K mg base (He.ga K e.cls) "why" fun x => [("why", x)] := by
  obtain ⟨fd, r⟩ := rootF (w := w) T
  have i1 := E.i1
  have ini := E.ini
  have ty := E.ty
  rw [h2, h3] at i1
  rw [h1] at ini ty
  exact ⟨eb e.key, fI K "ForkError", fd, E.c, ini, ty, (ini1 r.s r.d T.f_super i1).mono (by decide), r.b, r.bk⟩
theorem mkW0 (T : Ctx K mg) {e : ErrD} (E : ErrOk K e) (h1 : e.own = "ForkError") (h2 : e.root = "ForkError") (h3 : e.fld2 = "why") : Mk0 PP w K mg base (He.ga K e.cls) "why" (fun x => [("why", x)]) (.str "") := by
  obtain ⟨fd, r⟩ := rootF (w := w) T
  obtain ⟨d, rd, b0⟩ := r.b0
  have i1 := E.i1
  have ini := E.ini
  have ty := E.ty
  rw [h2, h3] at i1
  rw [h1] at ini ty
  exact ⟨eb e.key, fI K "ForkError", fd, d, E.c, ini, ty, (ini1 r.s r.d T.f_super i1).mono (by decide), rd, b0⟩
/-- a def with one parameter and no default -/
theorem bind2 {n1 y : Str} {d : IniD} {clo : List (Str × Addr)} {dV n9 n10 n11 : Value} {n12 : Option Addr} {n13 n14 : Value} (hd : d.dfl = []) (hD : DflV K dV (d.dfl.map (He.Dv.v K)))
    (h1 : ∀ a v : Value, bindArgs ⟨n1, d.qual, d.params, .stmts d.body, d.scope, mainGlobals, clo, .none, n9, n10, n11, n12, n13, n14, builtinsNs⟩ ⟨[a, v], []⟩ = pure [(("self" : Str), a), (y, v)])
    (h2 : ∀ a v : Value, bindArgs ⟨n1, d.qual, d.params, .stmts d.body, d.scope, mainGlobals, clo, .none, n9, n10, n11, n12, n13, n14, builtinsNs⟩ ⟨[a], [(y, v)]⟩ = pure [(("self" : Str), a), (y, v)]) :
    (∀ (s : Shared) (a v : Value), K.In s.heap → BindsTo s ⟨n1, d.qual, d.params, .stmts d.body, d.scope, mainGlobals, clo, dV, n9, n10, n11, n12, n13, n14, builtinsNs⟩ ⟨[a, v], []⟩ [("self", a), (y, v)]) ∧
    ∀ (s : Shared) (a v : Value), K.In s.heap → BindsTo s ⟨n1, d.qual, d.params, .stmts d.body, d.scope, mainGlobals, clo, dV, n9, n10, n11, n12, n13, n14, builtinsNs⟩ ⟨[a], [(y, v)]⟩ [("self", a), (y, v)] := by
  rw [hd] at hD
  rcases hD with ⟨_, rfl⟩ | ⟨e, _⟩
  · exact ⟨fun s a v _ => .of_eq (h1 a v), fun s a v _ => .of_eq (h2 a v)⟩
  · exact absurd rfl e
theorem sc_BadObject : ScI i_BadObject.scope i_BadObject.params "at" := ⟨by rfl, by rfl, by rfl, by rfl, by rfl, by rfl, by rfl, by decide +kernel, ⟨_, rfl, rfl⟩, by decide, by decide⟩
theorem mk_BadObject (T : Ctx K mg) : Mkr PP w K mg base (He.ga K "BadObject") "at" fun x => [("at", x), ("why", .str "not an object")] := by
  obtain ⟨fd, r⟩ := rootF (w := w) T
  obtain ⟨e, c⟩ := T.y.ini 1 (d := i_BadObject) rfl
  obtain ⟨fd1, S, n1, clo, dV, n9, n10, n11, n12, n13, n14, rfl, hD⟩ := IniD.get (P := PP) e c sc_BadObject topS
  have E := T.err 10 (e := e_BadObject)
  have De : De2 ⟨n1, i_BadObject.qual, i_BadObject.params, .stmts i_BadObject.body, i_BadObject.scope, mainGlobals, clo, dV, n9, n10, n11, n12, n13, n14, builtinsNs⟩ "at" "at" "not an object" := ⟨⟨_, _, _, _, _, _, _, _, _, _, _, fun f L => _, rfl, fun f L => by rfl⟩, sc_BadObject.ky, fun x hx => of_decide_eq_true (List.all_eq_true.mp sc_BadObject.cell x hx), sc_BadObject.hy, sc_BadObject.hyd, sc_BadObject.co, sc_BadObject.gen⟩
  obtain ⟨b1, b2⟩ := bind2 (d := i_BadObject) (y := "at") (n1 := n1) (clo := clo) (n9 := n9) (n10 := n10) (n11 := n11) (n12 := n12) (n13 := n13) (n14 := n14) rfl hD (fun _ _ => by kernel_rfl) (fun _ _ => by kernel_rfl)
  exact ⟨ebV, fI K "BadObject", _, E.c, E.ini, E.ty, ini2 S De r.s r.d r.b T.f_super (E.i2 (by decide)), b1, b2⟩
theorem sc_BadPack : ScI i_BadPack.scope i_BadPack.params "at" := ⟨by rfl, by rfl, by rfl, by rfl, by rfl, by rfl, by rfl, by decide +kernel, ⟨_, rfl, rfl⟩, by decide, by decide⟩
theorem mk_BadPack (T : Ctx K mg) : Mkr PP w K mg base (He.ga K "BadPack") "at" fun x => [("at", x), ("why", .str "not a pack")] := by
  obtain ⟨fd, r⟩ := rootF (w := w) T
  obtain ⟨e, c⟩ := T.y.ini 2 (d := i_BadPack) rfl
  obtain ⟨fd1, S, n1, clo, dV, n9, n10, n11, n12, n13, n14, rfl, hD⟩ := IniD.get (P := PP) e c sc_BadPack topS
  have E := T.err 11 (e := e_BadPack)
  have De : De2 ⟨n1, i_BadPack.qual, i_BadPack.params, .stmts i_BadPack.body, i_BadPack.scope, mainGlobals, clo, dV, n9, n10, n11, n12, n13, n14, builtinsNs⟩ "at" "at" "not a pack" := ⟨⟨_, _, _, _, _, _, _, _, _, _, _, fun f L => _, rfl, fun f L => by rfl⟩, sc_BadPack.ky, fun x hx => of_decide_eq_true (List.all_eq_true.mp sc_BadPack.cell x hx), sc_BadPack.hy, sc_BadPack.hyd, sc_BadPack.co, sc_BadPack.gen⟩
  obtain ⟨b1, b2⟩ := bind2 (d := i_BadPack) (y := "at") (n1 := n1) (clo := clo) (n9 := n9) (n10 := n10) (n11 := n11) (n12 := n12) (n13 := n13) (n14 := n14) rfl hD (fun _ _ => by kernel_rfl) (fun _ _ => by kernel_rfl)
  exact ⟨ebV, fI K "BadPack", _, E.c, E.ini, E.ty, ini2 S De r.s r.d r.b T.f_super (E.i2 (by decide)), b1, b2⟩
theorem sc_BadExpression : ScI i_BadExpression.scope i_BadExpression.params "at" := ⟨by rfl, by rfl, by rfl, by rfl, by rfl, by rfl, by rfl, by decide +kernel, ⟨_, rfl, rfl⟩, by decide, by decide⟩
theorem mk_BadExpression (T : Ctx K mg) : Mkr PP w K mg base (He.ga K "BadExpression") "at" fun x => [("at", x), ("why", .str "not an expression")] := by
  obtain ⟨fd, r⟩ := rootF (w := w) T
  obtain ⟨e, c⟩ := T.y.ini 3 (d := i_BadExpression) rfl
  obtain ⟨fd1, S, n1, clo, dV, n9, n10, n11, n12, n13, n14, rfl, hD⟩ := IniD.get (P := PP) e c sc_BadExpression topS
  have E := T.err 12 (e := e_BadExpression)
  have De : De2 ⟨n1, i_BadExpression.qual, i_BadExpression.params, .stmts i_BadExpression.body, i_BadExpression.scope, mainGlobals, clo, dV, n9, n10, n11, n12, n13, n14, builtinsNs⟩ "at" "at" "not an expression" := ⟨⟨_, _, _, _, _, _, _, _, _, _, _, fun f L => _, rfl, fun f L => by rfl⟩, sc_BadExpression.ky, fun x hx => of_decide_eq_true (List.all_eq_true.mp sc_BadExpression.cell x hx), sc_BadExpression.hy, sc_BadExpression.hyd, sc_BadExpression.co, sc_BadExpression.gen⟩
  obtain ⟨b1, b2⟩ := bind2 (d := i_BadExpression) (y := "at") (n1 := n1) (clo := clo) (n9 := n9) (n10 := n10) (n11 := n11) (n12 := n12) (n13 := n13) (n14 := n14) rfl hD (fun _ _ => by kernel_rfl) (fun _ _ => by kernel_rfl)
  exact ⟨ebV, fI K "BadExpression", _, E.c, E.ini, E.ty, ini2 S De r.s r.d r.b T.f_super (E.i2 (by decide)), b1, b2⟩
theorem sc_Clash : ScI i_Clash.scope i_Clash.params "name" := ⟨by rfl, by rfl, by rfl, by rfl, by rfl, by rfl, by rfl, by decide +kernel, ⟨_, rfl, rfl⟩, by decide, by decide⟩
theorem mk_Clash (T : Ctx K mg) : Mkr PP w K mg base (He.ga K "Clash") "name" fun x => [("name", x), ("why", .str "another object has this id")] := by
  obtain ⟨fd, r⟩ := rootF (w := w) T
  obtain ⟨e, c⟩ := T.y.ini 4 (d := i_Clash) rfl
  obtain ⟨fd1, S, n1, clo, dV, n9, n10, n11, n12, n13, n14, rfl, hD⟩ := IniD.get (P := PP) e c sc_Clash topS
  have E := T.err 13 (e := e_Clash)
  have De : De2 ⟨n1, i_Clash.qual, i_Clash.params, .stmts i_Clash.body, i_Clash.scope, mainGlobals, clo, dV, n9, n10, n11, n12, n13, n14, builtinsNs⟩ "name" "name" "another object has this id" := ⟨⟨_, _, _, _, _, _, _, _, _, _, _, fun f L => _, rfl, fun f L => by rfl⟩, sc_Clash.ky, fun x hx => of_decide_eq_true (List.all_eq_true.mp sc_Clash.cell x hx), sc_Clash.hy, sc_Clash.hyd, sc_Clash.co, sc_Clash.gen⟩
  obtain ⟨b1, b2⟩ := bind2 (d := i_Clash) (y := "name") (n1 := n1) (clo := clo) (n9 := n9) (n10 := n10) (n11 := n11) (n12 := n12) (n13 := n13) (n14 := n14) rfl hD (fun _ _ => by kernel_rfl) (fun _ _ => by kernel_rfl)
  exact ⟨ebV, fI K "Clash", _, E.c, E.ini, E.ty, ini2 S De r.s r.d r.b T.f_super (E.i2 (by decide)), b1, b2⟩
theorem sc_Conflict : ScI i_Conflict.scope i_Conflict.params "paths" := ⟨by rfl, by rfl, by rfl, by rfl, by rfl, by rfl, by rfl, by decide +kernel, ⟨_, rfl, rfl⟩, by decide, by decide⟩
theorem mk_Conflict (T : Ctx K mg) : Mkr PP w K mg base (He.ga K "Conflict") "paths" fun x => [("paths", x), ("why", .str "conflicting paths")] := by
  obtain ⟨fd, r⟩ := rootF (w := w) T
  obtain ⟨e, c⟩ := T.y.ini 5 (d := i_Conflict) rfl
  obtain ⟨fd1, S, n1, clo, dV, n9, n10, n11, n12, n13, n14, rfl, hD⟩ := IniD.get (P := PP) e c sc_Conflict topS
  have E := T.err 14 (e := e_Conflict)
  have De : De2 ⟨n1, i_Conflict.qual, i_Conflict.params, .stmts i_Conflict.body, i_Conflict.scope, mainGlobals, clo, dV, n9, n10, n11, n12, n13, n14, builtinsNs⟩ "paths" "paths" "conflicting paths" := ⟨⟨_, _, _, _, _, _, _, _, _, _, _, fun f L => _, rfl, fun f L => by rfl⟩, sc_Conflict.ky, fun x hx => of_decide_eq_true (List.all_eq_true.mp sc_Conflict.cell x hx), sc_Conflict.hy, sc_Conflict.hyd, sc_Conflict.co, sc_Conflict.gen⟩
  obtain ⟨b1, b2⟩ := bind2 (d := i_Conflict) (y := "paths") (n1 := n1) (clo := clo) (n9 := n9) (n10 := n10) (n11 := n11) (n12 := n12) (n13 := n13) (n14 := n14) rfl hD (fun _ _ => by kernel_rfl) (fun _ _ => by kernel_rfl)
  exact ⟨ebV, fI K "Conflict", _, E.c, E.ini, E.ty, ini2 S De r.s r.d r.b T.f_super (E.i2 (by decide)), b1, b2⟩
theorem sc_Locked : ScI i_Locked.scope i_Locked.params "ref" := ⟨by rfl, by rfl, by rfl, by rfl, by rfl, by rfl, by rfl, by decide +kernel, ⟨_, rfl, rfl⟩, by decide, by decide⟩
theorem mk_Locked (T : Ctx K mg) : Mkr PP w K mg base (He.ga K "Locked") "ref" fun x => [("ref", x), ("why", .str "locked")] := by
  obtain ⟨fd, r⟩ := rootF (w := w) T
  obtain ⟨e, c⟩ := T.y.ini 6 (d := i_Locked) rfl
  obtain ⟨fd1, S, n1, clo, dV, n9, n10, n11, n12, n13, n14, rfl, hD⟩ := IniD.get (P := PP) e c sc_Locked topS
  have E := T.err 15 (e := e_Locked)
  have De : De2 ⟨n1, i_Locked.qual, i_Locked.params, .stmts i_Locked.body, i_Locked.scope, mainGlobals, clo, dV, n9, n10, n11, n12, n13, n14, builtinsNs⟩ "ref" "ref" "locked" := ⟨⟨_, _, _, _, _, _, _, _, _, _, _, fun f L => _, rfl, fun f L => by rfl⟩, sc_Locked.ky, fun x hx => of_decide_eq_true (List.all_eq_true.mp sc_Locked.cell x hx), sc_Locked.hy, sc_Locked.hyd, sc_Locked.co, sc_Locked.gen⟩
  obtain ⟨b1, b2⟩ := bind2 (d := i_Locked) (y := "ref") (n1 := n1) (clo := clo) (n9 := n9) (n10 := n10) (n11 := n11) (n12 := n12) (n13 := n13) (n14 := n14) rfl hD (fun _ _ => by kernel_rfl) (fun _ _ => by kernel_rfl)
  exact ⟨ebV, fI K "Locked", _, E.c, E.ini, E.ty, ini2 S De r.s r.d r.b T.f_super (E.i2 (by decide)), b1, b2⟩
theorem sc_Stale : ScI i_Stale.scope i_Stale.params "ref" := ⟨by rfl, by rfl, by rfl, by rfl, by rfl, by rfl, by rfl, by decide +kernel, ⟨_, rfl, rfl⟩, by decide, by decide⟩
theorem mk_Stale (T : Ctx K mg) : Mkr PP w K mg base (He.ga K "Stale") "ref" fun x => [("ref", x), ("why", .str "stale")] := by
  obtain ⟨fd, r⟩ := rootF (w := w) T
  obtain ⟨e, c⟩ := T.y.ini 7 (d := i_Stale) rfl
  obtain ⟨fd1, S, n1, clo, dV, n9, n10, n11, n12, n13, n14, rfl, hD⟩ := IniD.get (P := PP) e c sc_Stale topS
  have E := T.err 16 (e := e_Stale)
  have De : De2 ⟨n1, i_Stale.qual, i_Stale.params, .stmts i_Stale.body, i_Stale.scope, mainGlobals, clo, dV, n9, n10, n11, n12, n13, n14, builtinsNs⟩ "ref" "ref" "stale" := ⟨⟨_, _, _, _, _, _, _, _, _, _, _, fun f L => _, rfl, fun f L => by rfl⟩, sc_Stale.ky, fun x hx => of_decide_eq_true (List.all_eq_true.mp sc_Stale.cell x hx), sc_Stale.hy, sc_Stale.hyd, sc_Stale.co, sc_Stale.gen⟩
  obtain ⟨b1, b2⟩ := bind2 (d := i_Stale) (y := "ref") (n1 := n1) (clo := clo) (n9 := n9) (n10 := n10) (n11 := n11) (n12 := n12) (n13 := n13) (n14 := n14) rfl hD (fun _ _ => by kernel_rfl) (fun _ _ => by kernel_rfl)
  exact ⟨ebV, fI K "Stale", _, E.c, E.ini, E.ty, ini2 S De r.s r.d r.b T.f_super (E.i2 (by decide)), b1, b2⟩
theorem sc_NoObject : ScI i_NoObject.scope i_NoObject.params "name" := ⟨by rfl, by rfl, by rfl, by rfl, by rfl, by rfl, by rfl, by decide +kernel, ⟨_, rfl, rfl⟩, by decide, by decide⟩
theorem mk_NoObject (T : Ctx K mg) : Mkr PP w K mg base (He.ga K "NoObject") "name" fun x => [("name", x)] := by
  obtain ⟨e, c⟩ := T.y.ini 8 (d := i_NoObject) rfl
  obtain ⟨fd1, S, n1, clo, dV, n9, n10, n11, n12, n13, n14, rfl, hD⟩ := IniD.get (P := PP) e c sc_NoObject topS
  have E := T.err 17 (e := e_NoObject)
  have De : De1 ⟨n1, i_NoObject.qual, i_NoObject.params, .stmts i_NoObject.body, i_NoObject.scope, mainGlobals, clo, dV, n9, n10, n11, n12, n13, n14, builtinsNs⟩ "name" "name" := ⟨⟨_, _, _, _, _, _, _, _, _, _, fun f L => _, rfl, fun f L => by rfl⟩, sc_NoObject.ky, fun x hx => of_decide_eq_true (List.all_eq_true.mp sc_NoObject.cell x hx), sc_NoObject.hy, sc_NoObject.hyd, sc_NoObject.co, sc_NoObject.gen⟩
  obtain ⟨b1, b2⟩ := bind2 (d := i_NoObject) (y := "name") (n1 := n1) (clo := clo) (n9 := n9) (n10 := n10) (n11 := n11) (n12 := n12) (n13 := n13) (n14 := n14) rfl hD (fun _ _ => by kernel_rfl) (fun _ _ => by kernel_rfl)
  exact ⟨ebK, fI K "NoObject", _, E.c, E.ini, E.ty, (ini1 S De T.f_super E.i1).mono (by decide), b1, b2⟩
theorem sc_NoRef : ScI i_NoRef.scope i_NoRef.params "name" := ⟨by rfl, by rfl, by rfl, by rfl, by rfl, by rfl, by rfl, by decide +kernel, ⟨_, rfl, rfl⟩, by decide, by decide⟩
theorem mk_NoRef (T : Ctx K mg) : Mkr PP w K mg base (He.ga K "NoRef") "name" fun x => [("name", x)] := by
  obtain ⟨e, c⟩ := T.y.ini 9 (d := i_NoRef) rfl
  obtain ⟨fd1, S, n1, clo, dV, n9, n10, n11, n12, n13, n14, rfl, hD⟩ := IniD.get (P := PP) e c sc_NoRef topS
  have E := T.err 18 (e := e_NoRef)
  have De : De1 ⟨n1, i_NoRef.qual, i_NoRef.params, .stmts i_NoRef.body, i_NoRef.scope, mainGlobals, clo, dV, n9, n10, n11, n12, n13, n14, builtinsNs⟩ "name" "name" := ⟨⟨_, _, _, _, _, _, _, _, _, _, fun f L => _, rfl, fun f L => by rfl⟩, sc_NoRef.ky, fun x hx => of_decide_eq_true (List.all_eq_true.mp sc_NoRef.cell x hx), sc_NoRef.hy, sc_NoRef.hyd, sc_NoRef.co, sc_NoRef.gen⟩
  obtain ⟨b1, b2⟩ := bind2 (d := i_NoRef) (y := "name") (n1 := n1) (clo := clo) (n9 := n9) (n10 := n10) (n11 := n11) (n12 := n12) (n13 := n13) (n14 := n14) rfl hD (fun _ _ => by kernel_rfl) (fun _ _ => by kernel_rfl)
  exact ⟨ebK, fI K "NoRef", _, E.c, E.ini, E.ty, (ini1 S De T.f_super E.i1).mono (by decide), b1, b2⟩
end
end K02
namespace K02
open PySem PySem.Spec PyProof.Rows L2 Fk
section
variable {P : Program} {w : World} {K : PySem.W.Frag} {mg : Str → Option Value} {base : Heap}
/-! ### draws -/
def spDraw : Sp := fun vs H Q _ => ∃ (u : Addr) (n : Nat) (m : Int), vs = [.ref u, .int m] ∧ Wl H u (n + 1) ∧ 0 < m ∧ m ≤ 1000000 ∧
  ∀ (r : Int) (H' : Hp), 0 ≤ r → r < m → Wl H' u n → Kp u H H' → Q (.int r) H'
def N__law_draw : List Str := ["_law_well_here", "_law_size", "_law_found", "_law_seed", "_law_mixed"]
theorem sc__law_draw : FnScope N__law_draw ["_law_well_here", "_law_size"] (defScope s__law_draw) := ⟨rfl, rfl, rfl, by decide +kernel, rfl, by decide +kernel, by decide +kernel⟩
theorem ok__law_draw (T : Ctx K mg) : Ok P w K mg base 1 "_law_draw" ["_law_well_here", "_law_size"] spDraw := by
  obtain ⟨fd, F⟩ := T.c.def_ 2 (d := d__law_draw) rfl
  refine ⟨⟨fd, F.ok sc__law_draw (fun vs H Q E h => ?_) (fun cdv A outer s H vs Q E hr h => ?_), F.bindsN fun _ _ _ _ _ _ us hl => match us, hl with | [_, _], _ => rfl⟩, F.kp, T.g__law_draw⟩
  · obtain ⟨u, n, m, rfl, _⟩ := h
    rfl
  · obtain ⟨u, n, m, rfl, ⟨a, b, c, h1, ha, hc, hn⟩, hm, hm2, k⟩ := h
    have m0 : m ≠ 0 := by omega
    have ms : m.natAbs < 1073741824 := by omega
    refine ⟨_, PSs.nox (pss_cons (ps_if (pt_cmpR op_gt (pe_ix ix_list (pv 0) pe_int (fun _ _ => rfl)) pe_int (nomark _))
        (pss_cons (ps_set (i := 2) sc__law_draw.nd rfl (Or.inl rfl) (pe_op op_modN (pe_callTy call_int1 (by rfl) T.f_int (by decide +kernel) (pa_cons (pe_ix ix_list (pv 0) pe_int (fun _ _ => rfl)) pa_nil)) (pv 1)))
        (pss_cons (ps_asg (pe_op op_fdivN (pe_ix ix_list (pv 0) pe_int (fun _ _ => rfl)) (pv 1)) (pg_sub (pv 0) pe_int set_list))
        (pss_one (ps_ret (pv 2)))))
        pss_nil)
      (pss_cons (ps_asg (pe_op op_add (pe_ix ix_list (pv 0) pe_int (fun _ _ => rfl)) pe_int) (pg_sub (pv 0) pe_int set_list))
      (pss_cons (ps_set (i := 3) sc__law_draw.nd rfl (Or.inl rfl) (pe_op op_add (pe_op op_modN (pe_callTy call_int1 (by rfl) T.f_int (by decide +kernel) (pa_cons (pe_ix ix_list (pv 0) pe_int (fun _ _ => rfl)) pa_nil)) pe_int) (pe_op op_mul (pe_op op_modN (pe_callTy call_int1 (by rfl) T.f_int (by decide +kernel) (pa_cons (pe_op op_fdivW (pe_ix ix_list (pv 0) pe_int (fun _ _ => rfl)) pe_int) pa_nil)) pe_int) pe_int)))
      (pss_cons (ps_set (i := 4) sc__law_draw.nd rfl (Or.inl rfl) (pe_op op_modN (pe_callTy call_int1 (by rfl) T.f_int (by decide +kernel) (pa_cons (pe_op op_pow (pe_op op_add (pe_op op_add (pv 3) (pe_op op_mul pe_int (pe_ix ix_list (pv 0) pe_int (fun _ _ => rfl)))) pe_int) pe_int) pa_nil)) pe_int))
      (pss_cons (ps_set (i := 4) sc__law_draw.nd rfl (Or.inl rfl) (pe_op op_modN (pe_callTy call_int1 (by rfl) T.f_int (by decide +kernel) (pa_cons (pe_op op_mul (pv 4) (pe_op op_add (pe_op op_add (pe_op op_fdivN (pv 4) pe_int) pe_int) (pe_ix ix_list (pv 0) pe_int (fun _ _ => rfl)))) pa_nil)) pe_int))
      (pss_one (ps_ret (pe_op op_modN (pe_callTy call_int1 (by rfl) T.f_int (by decide +kernel) (pa_cons (pe_op op_modN (pe_callTy call_int1 (by rfl) T.f_int (by decide +kernel) (pa_cons (pe_op op_mul (pv 4) (pe_op op_add (pe_op op_fdivN (pv 4) pe_int) pe_int)) pa_nil)) pe_int) pa_nil)) (pv 1))))))))), ?_⟩
    refine ⟨_, rfl, u, _, _, .int a, rfl, rfl, SqL.of h1, rfl, _, _, rfl, rfl, _, rfl, ?_⟩
    refine ite2 (fun g => ?_) (fun g => ?_)
    · refine ⟨_, rfl, u, _, _, .int a, rfl, rfl, SqL.of h1, rfl, .inl ⟨_, rfl, _, rfl, _, _, rfl, rfl, m0, ?_⟩⟩
      refine ⟨_, rfl, u, _, _, .int a, rfl, rfl, SqL.of h1, rfl, _, rfl, _, _, rfl, rfl, ⟨m0, ms⟩, _, rfl, u, _, _, 0, rfl, rfl, h1, rfl, ?_⟩
      refine ⟨_, rfl, ?_⟩
      refine k _ _ (Int.fmod_nonneg_of_pos _ hm) (Int.fmod_lt_of_pos _ hm) ⟨_, _, _, upd_same, ?_, hc, by omega⟩ (Kp.refl _ _).put
      exact Int.fdiv_nonneg ha (by omega)
    · refine ⟨_, rfl, u, _, _, .int c, rfl, rfl, SqL.of h1, rfl, _, _, rfl, rfl, _, rfl, u, _, _, 2, rfl, rfl, h1, rfl, ?_⟩
      have h2 : upd H u (.lst ([V.int a, V.int b, V.int c].set 2 (V.int (c + 1)))) u = some (.lst [.int a, .int b, .int (c + 1)]) := upd_same
      generalize eH : upd H u (.lst ([V.int a, V.int b, V.int c].set 2 (V.int (c + 1)))) = H1 at h2
      have kp : Kp u H H1 := by
        rw [← eH]
        exact (Kp.refl _ _).put
      refine ⟨_, rfl, u, _, _, .int b, rfl, rfl, SqL.of h2, rfl, .inl ⟨_, rfl, _, _, rfl, rfl, (show (2147483549 : Int) ≠ 0 by decide), _, rfl, u, _, _, .int b, rfl, rfl, SqL.of h2, rfl, _, _, rfl, rfl, ⟨by decide, by decide +kernel⟩, .inl ⟨_, rfl, _, _, rfl, rfl, (show (80021 : Int) ≠ 0 by decide), _, _, rfl, rfl, .inr ⟨by decide, by decide⟩, _, _, rfl, rfl, ?_⟩⟩⟩
      have f1 := Int.fmod_nonneg_of_pos b (show (0 : Int) < 2147483549 by decide)
      have f2 := Int.fmod_lt_of_pos b (show (0 : Int) < 2147483549 by decide)
      have f3 := Int.fmod_nonneg_of_pos (b / 2147483549) (show (0 : Int) < 80021 by decide)
      have f4 := Int.fmod_lt_of_pos (b / 2147483549) (show (0 : Int) < 80021 by decide)
      generalize b.fmod 2147483549 = r1 at f1 f2 ⊢
      generalize (b / 2147483549).fmod 80021 = r2 at f3 f4 ⊢
      refine ⟨_, rfl, _, rfl, u, _, _, .int (c + 1), rfl, rfl, SqL.of h2, rfl, _, _, rfl, rfl, .inl ⟨by decide, by decide⟩, _, _, rfl, rfl, _, _, rfl, rfl, _, _, rfl, rfl, ⟨by decide, by decide, ?_⟩, .inl ⟨_, rfl, _, _, rfl, rfl, (show (2147483647 : Int) ≠ 0 by decide), ?_⟩⟩
      · omega
      have f5 := Int.fmod_nonneg_of_pos ((r1 + r2 * 37 + 5843 * (c + 1) + 17) ^ (5 : Int).toNat) (show (0 : Int) < 2147483647 by decide)
      have f6 := Int.fmod_lt_of_pos ((r1 + r2 * 37 + 5843 * (c + 1) + 17) ^ (5 : Int).toNat) (show (0 : Int) < 2147483647 by decide)
      dsimp only
      generalize ((r1 + r2 * 37 + 5843 * (c + 1) + 17) ^ (5 : Int).toNat).fmod 2147483647 = m1 at f5 f6 ⊢
      refine ⟨_, rfl, _, rfl, _, _, rfl, rfl, (show CDivN _ 953 from ⟨by decide, by decide⟩), _, _, rfl, rfl, _, rfl, u, _, _, .int (c + 1), rfl, rfl, SqL.of h2, rfl, _, _, rfl, rfl, _, _, rfl, rfl, .inl ⟨by omega, by omega⟩, .inl ⟨_, rfl, _, _, rfl, rfl, (show (2147483629 : Int) ≠ 0 by decide), ?_⟩⟩
      have f7 := Int.fmod_nonneg_of_pos (m1 * (m1.fdiv 953 + 40993 + (c + 1))) (show (0 : Int) < 2147483629 by decide)
      have f8 := Int.fmod_lt_of_pos (m1 * (m1.fdiv 953 + 40993 + (c + 1))) (show (0 : Int) < 2147483629 by decide)
      dsimp only
      generalize (m1 * (m1.fdiv 953 + 40993 + (c + 1))).fmod 2147483629 = m2 at f7 f8 ⊢
      refine ⟨_, rfl, _, rfl, _, _, rfl, rfl, (show CDivN _ 2011 from ⟨by decide, by decide⟩), _, _, rfl, rfl, _, _, rfl, rfl, .inl ⟨by omega, by omega⟩, .inl ⟨_, rfl, _, _, rfl, rfl, (show (2147483587 : Int) ≠ 0 by decide), .inl ⟨_, rfl, _, rfl, _, _, rfl, rfl, m0, ?_⟩⟩⟩
      exact k _ _ (Int.fmod_nonneg_of_pos _ hm) (Int.fmod_lt_of_pos _ hm) ⟨_, _, _, h2, ha, by omega, by omega⟩ kp
/-- one of some things -/
def spPick : Sp := fun vs H Q _ => ∃ (u p : Addr) (n : Nat) (xs : List V), vs = [.ref u, .ref p] ∧ Wl H u (n + 1) ∧ p ≠ u ∧ H p = some (.lst xs) ∧ xs ≠ [] ∧ xs.length ≤ 1000 ∧
  ∀ (x : V) (H' : Hp), x ∈ xs → Wl H' u n → Kp u H H' → Q x H'
theorem atI_mem {xs : List V} {r : Int} (h0 : 0 ≤ r) (h1 : r < xs.length) : ∃ x, x ∈ xs ∧ atI xs r = some x := by
  have hl : r.toNat < xs.length := by omega
  refine ⟨xs[r.toNat], List.getElem_mem hl, ?_⟩
  have e := atI_nat (xs := xs) (j := r.toNat) (v := xs[r.toNat]) (List.getElem?_eq_getElem hl)
  rw [Int.toNat_of_nonneg h0] at e
  exact e
def N__law_pick : List Str := ["_law_well_here", "_law_some"]
theorem sc__law_pick : FnScope N__law_pick ["_law_well_here", "_law_some"] (defScope s__law_pick) := ⟨rfl, rfl, rfl, by decide +kernel, rfl, by decide +kernel, by decide +kernel⟩
theorem ok__law_pick (T : Ctx K mg) : Ok P w K mg base 2 "_law_pick" ["_law_well_here", "_law_some"] spPick := by
  obtain ⟨fd, F⟩ := T.c.def_ 3 (d := d__law_pick) rfl
  refine ⟨⟨fd, F.ok sc__law_pick (fun vs H Q E h => ?_) (fun cdv A outer s H vs Q E hr h => ?_), F.bindsN fun _ _ _ _ _ _ us hl => match us, hl with | [_, _], _ => rfl⟩, F.kp, T.g__law_pick⟩
  · obtain ⟨u, p, n, xs, rfl, _⟩ := h
    rfl
  · obtain ⟨u, p, n, xs, rfl, hw, np, hp, ne, hl, k⟩ := h
    refine ⟨_, PSs.nox (pss_one (ps_ret (pe_ix ix_list (pv 1) (pe_own (ok__law_draw T) (hr.mono (by decide)) (by rfl) (pa_cons (pv 0) (pa_cons (pe_callB call_len_seq (by rfl) T.f_len PySem.boot_len (pa_cons (pv 1) pa_nil)) pa_nil))) (fun _ _ => rfl)))), ?_⟩
    have pos : 0 < xs.length := List.length_pos_iff.mpr ne
    refine ⟨_, rfl, _, rfl, _, rfl, p, _, rfl, .inl (SqL.of hp), u, n, _, rfl, hw, by omega, by omega, fun r H' h0 h1 hw' kp => ?_⟩
    obtain ⟨x, hx, ex⟩ := atI_mem h0 h1
    exact ⟨p, xs, r, x, rfl, rfl, SqL.of (kp p _ hp np), ex, k x H' hx hw' kp⟩
end
end K02
namespace K02
open PySem PySem.Spec PyProof.Rows L2 Fk TL
/-! ### texts -/
def only (t g : Str) : Bool := (tl t).all fun c => decide (c ∈ tl g)
def rng (t : Str) (a b : Int) : Bool := decide (a ≤ (t.length : Int)) && decide ((t.length : Int) ≤ b)
def occ (t s : Str) : Bool := !(Builtin.Str.occurrences t s 0 t.length 1).isEmpty
abbrev SMALL : Str := "abcdefghijklmnopqrstuvwxyz"
abbrev FIGS : Str := "0123456789"
def SEGS : Str := SMALL ++ FIGS ++ ("._-" : Str)
def REFS : Str := SMALL ++ FIGS ++ ("-" : Str)
def okc (c : Nat) : Bool := ((!decide ([c] < tl (" " : Str))) && !decide (tl ("~" : Str) < [c])) || decide (sg c = V.str "\n")
def parts (t : Str) : List Str := Txt.split t "/"
def fId : Option Str → Bool
  | none => false
  | some t => decide (V.int (t.length : Int) = V.int 16) && only t "0123456789abcdef"
def fSeg : Option Str → Bool
  | none => false
  | some t => rng t 1 12 && (only t SEGS && (!decide (V.str t = V.str ".") && !(occ t "..")))
def fPath : Option Str → Bool
  | none => false
  | some t => decide ((((parts t).map V.str).length : Int) ≤ 6) && (parts t).all fun s => fSeg (some s)
def fRseg (t : Str) : Bool := rng t 1 12 && only t REFS
def fRef : Option Str → Bool
  | none => false
  | some t => decide ((((parts t).map V.str).length : Int) ≤ if decide (V.str ((parts t).headD "") = V.str "far") = true then 7 else 5) && (parts t).all fRseg
def fAuth : Option Str → Bool
  | none => false
  | some t => rng t 1 12 && only t SMALL
def fText (most : Int) : Option Str → Bool
  | none => false
  | some t => !decide ((t.length : Int) > most) && (tl t).all okc
theorem fSeg_some (t : Str) : fSeg (some t) = (rng t 1 12 && (only t SEGS && (!decide (V.str t = V.str ".") && !(occ t "..")))) := rfl
theorem fPath_some (t : Str) : fPath (some t) = (decide ((((parts t).map V.str).length : Int) ≤ 6) && (parts t).all fun s => fSeg (some s)) := rfl
theorem fRef_some (t : Str) : fRef (some t) = (decide ((((parts t).map V.str).length : Int) ≤ if decide (V.str ((parts t).headD "") = V.str "far") = true then 7 else 5) && (parts t).all fRseg) := rfl
theorem fAuth_some (t : Str) : fAuth (some t) = (rng t 1 12 && only t SMALL) := rfl
theorem fText_some (m : Int) (t : Str) : fText m (some t) = (!decide ((t.length : Int) > m) && (tl t).all okc) := rfl
/-! ### things: texts, and others -/
def Asc (t : Str) : Prop := ∀ c ∈ tl t, c < 128
inductive Thg (K : PySem.W.Frag) (H : Hp) : V → Option Str → Prop where
  | str (t : Str) (h : t.length ≤ 100000) (a : Asc t) : Thg K H (.str t) (some t)
  | oth {x : V} {n : String} (h : TyX K H x (.type n)) (e : kitB n "str" = some false) : Thg K H x none
theorem Thg.isi {K : PySem.W.Frag} {H : Hp} {x : V} {o : Option Str} (h : Thg K H x o) : ∃ t, TyX K H x t ∧ PySem.W.kitOne K t (.type "str") = some o.isSome := by
  cases h with
  | str t h a => exact ⟨_, .base (.str t), kit_ty (show kitB "str" "str" = some true by decide +kernel)⟩
  | oth h e => exact ⟨_, h, kit_ty e⟩
def spIs (K : PySem.W.Frag) (f : Option Str → Bool) : Sp := fun vs H Q _ => ∃ (x : V) (o : Option Str), vs = [x] ∧ Thg K H x o ∧ ∀ H', Same H H' → Q (.bl (f o)) H'
theorem sz5 {n : Nat} (h : n ≤ 100000) : n ≤ sizeLine := Nat.le_trans h (by decide)
theorem joinL_le {S : List Nat} : ∀ {ps : List (List Nat)} {p : List Nat}, p ∈ ps → p.length ≤ (joinL S ps).length
  | [], _, h => by cases h
  | [q], p, h => by
    rw [List.mem_singleton.mp h]
    exact Nat.le_refl _
  | q :: r :: l, p, h => by
    show p.length ≤ (q ++ (S ++ joinL S (r :: l))).length
    rw [List.length_append, List.length_append]
    rcases List.mem_cons.mp h with e | h
    · rw [e]
      omega
    · have := joinL_le (S := S) h
      omega
theorem joinL_len {S : List Nat} : ∀ {ps : List (List Nat)}, 0 < S.length → ps.length ≤ (joinL S ps).length + 1
  | [], _ => Nat.zero_le _
  | [q], _ => by
    show 1 ≤ _
    omega
  | q :: r :: l, h => by
    show (r :: l).length + 1 ≤ (q ++ (S ++ joinL S (r :: l))).length + 1
    rw [List.length_append, List.length_append]
    have := joinL_len (S := S) (ps := r :: l) h
    omega
theorem parts_join (t : Str) : joinL (tl ("/" : Str)) ((parts t).map tl) = tl t := by
  rw [← tl_join]
  exact congrArg tl (StrLaws.join_split t "/")
theorem parts_le {t p : Str} (h : p ∈ parts t) : p.length ≤ t.length := by
  have := joinL_le (S := tl ("/" : Str)) (List.mem_map_of_mem (f := tl) h)
  rw [parts_join] at this
  exact this
theorem joinL_mem {S : List Nat} {c : Nat} : ∀ {ps : List (List Nat)} {p : List Nat}, p ∈ ps → c ∈ p → c ∈ joinL S ps
  | [], _, h, _ => by cases h
  | [q], p, h, hc => by
    rw [List.mem_singleton.mp h] at hc
    exact hc
  | q :: r :: l, p, h, hc => by
    show c ∈ q ++ (S ++ joinL S (r :: l))
    rw [List.mem_append, List.mem_append]
    rcases List.mem_cons.mp h with e | h
    · rw [e] at hc
      exact .inl hc
    · exact .inr (.inr (joinL_mem h hc))
theorem parts_mem {t p : Str} (h : p ∈ parts t) {c : Nat} (hc : c ∈ tl p) : c ∈ tl t := by
  have := joinL_mem (S := tl ("/" : Str)) (List.mem_map_of_mem (f := tl) h) hc
  rw [parts_join] at this
  exact this
theorem parts_asc {t p : Str} (h : p ∈ parts t) (a : Asc t) : Asc p := fun c hc => a c (parts_mem h hc)
theorem parts_len (t : Str) : (parts t).length ≤ t.length + 1 := by
  have := joinL_len (S := tl ("/" : Str)) (ps := (parts t).map tl) (by decide)
  rw [parts_join, List.length_map] at this
  exact this
section
variable {P : Program} {w : World} {K : PySem.W.Frag} {mg : Str → Option Value} {base : Heap}
def spOnly : Sp := fun vs H Q _ => ∃ t g : Str, vs = [.str t, .str g] ∧ t.length ≤ 100000 ∧ ∀ H', Same H H' → Q (.bl (only t g)) H'
theorem filter_yes {α : Type} (l : List α) : l.filter (fun _ => true) = l := by simp
theorem fin {f v : Bool} {H H' : Hp} {Q : VK} (k : ∀ H', Same H H' → Q (.bl f) H') (s : Same H H') (e : f = v) : Q (.bl v) H' := by
  rw [← e]
  exact k H' s
theorem nb2 {b : Bool} (h : (!b) = true) : b = false := by
  cases b with
  | false => rfl
  | true => cases h
theorem nn2 {b : Bool} (h : ¬ (!b) = true) : b = true := by
  cases b with
  | true => rfl
  | false => exact absurd rfl h
def liftS (f : Str → Bool) : V → V
  | .str s => .bl (f s)
  | v => v
theorem lift_eq (f : Str → Bool) (l : List Str) : some (HO.lst (((l.map V.str).filter fun _ => true).map (liftS f))) = some (HO.lst ((l.map f).map V.bl)) := by
  rw [filter_yes, List.map_map, List.map_map]
  rfl
theorem sz7 {n : Nat} (h : n ≤ 100000) : n + 2 ≤ sizeLine := Nat.le_trans (Nat.add_le_add_right h 2) (by decide)
theorem parts_sz {t : Str} (h : t.length ≤ 100000) : ((parts t).map V.str).length < sizeLine := by
  rw [List.length_map]
  exact Nat.lt_of_le_of_lt (Nat.le_trans (parts_len t) (Nat.add_le_add_right h 1)) (by decide)
theorem parts_ne (t : Str) : parts t ≠ [] := fun e => by
  have h := parts_join t
  rw [e] at h
  have h2 : t = (⟨#[]⟩ : Str) := by
    obtain ⟨c⟩ := t
    have h3 : c.toList = [] := h.symm
    rw [Array.toList_eq_nil_iff.mp h3]
  rw [h2] at e
  exact absurd e (by decide +kernel)
theorem parts_hd (t : Str) : atI ((parts t).map V.str) 0 = some (V.str ((parts t).headD "")) := by
  cases e : parts t with
  | nil => exact absurd e (parts_ne t)
  | cons a l => exact atI_nat (j := 0) rfl
def spRseg : Sp := fun vs H Q _ => ∃ t : Str, vs = [.str t] ∧ t.length ≤ 100000 ∧ ∀ H', Same H H' → Q (.bl (fRseg t)) H'
def spText (K : PySem.W.Frag) : Sp := fun vs H Q _ => ∃ (x : V) (m : Int) (o : Option Str), vs = [x, .int m] ∧ Thg K H x o ∧ ∀ H', Same H H' → Q (.bl (fText m o)) H'
end
end K02
namespace K02
open PySem PySem.Spec PyProof.Rows L2 Fk TL
/-! ### mathematics of texts -/
theorem joinL_ones (cs : List Nat) : joinL [] (cs.map fun c => [c]) = cs := by
  induction cs with
  | nil => rfl
  | cons a l ih =>
    cases l with
    | nil => rfl
    | cons b r =>
      show [a] ++ ([] ++ joinL [] ((b :: r).map fun c => [c])) = a :: b :: r
      rw [ih]
      rfl
theorem join_ones (cs : List Nat) : tl (Txt.join ("" : Str) (cs.map fun c => (⟨#[c]⟩ : Str))) = cs := by
  rw [join_eq, tl_join, List.map_map]
  exact joinL_ones cs
theorem len_tl (t : Str) : t.length = (tl t).length := rfl
def LETTERS : Str := "abcdefghijklmnopqrstuvwxyz0123456789_-"
theorem letters_in : ∀ c ∈ tl LETTERS, c ∈ tl SEGS ∧ c ≠ 46 ∧ c ≠ 47 := by decide +kernel
theorem only_of {t g : Str} (h : ∀ c ∈ tl t, c ∈ tl g) : only t g = true := by
  unfold only
  rw [List.all_eq_true]
  intro c hc
  exact decide_eq_true (h c hc)
/-- at most one dot -/
def Dot1 (l : List Nat) : Prop := 46 ∉ l ∨ ∃ a b, l = a ++ 46 :: b ∧ 46 ∉ a ∧ 46 ∉ b
theorem dot_no {l : List Nat} (h : Dot1 l) {i : Nat} (h1 : l[i]? = some 46) (h2 : l[i + 1]? = some 46) : False := by
  rcases h with h | ⟨a, b, rfl, ha, hb⟩
  · exact h (List.mem_of_getElem? h1)
  · have key : ∀ j, (a ++ 46 :: b)[j]? = some 46 → j = a.length := fun j hj => by
      rcases Nat.lt_trichotomy j a.length with hlt | heq | hgt
      · rw [List.getElem?_append_left hlt] at hj
        exact absurd (List.mem_of_getElem? hj) ha
      · exact heq
      · rw [List.getElem?_append_right (Nat.le_of_lt hgt)] at hj
        obtain ⟨m, hm⟩ : ∃ m, j - a.length = m + 1 := ⟨j - a.length - 1, by omega⟩
        rw [hm, List.getElem?_cons_succ] at hj
        exact absurd (List.mem_of_getElem? hj) hb
    have e1 := key _ h1
    have e2 := key _ h2
    omega
theorem occ_no {t : Str} (h : Dot1 (tl t)) : occ t ".." = false := by
  rw [Bool.eq_false_iff]
  intro e
  obtain ⟨i, hi, hs⟩ := (StrLaws.found_iff t "..").mp e
  have h1 : t.cps.extract i (i + 2) = #[46, 46] := eq_of_beq hs
  have h2 : ((tl t).drop i).take 2 = [46, 46] := by
    have := congrArg Array.toList h1
    rw [Array.toList_extract] at this
    simpa [List.extract] using this
  have g : ∀ k, k < 2 → (tl t)[i + k]? = [46, 46][k]? := fun k hk => by
    rw [← h2, List.getElem?_take_of_lt hk, List.getElem?_drop]
  exact dot_no h (g 0 (by decide)) (g 1 (by decide))
theorem seg_ok {t : Str} (h1 : 1 ≤ t.length) (h2 : t.length ≤ 12) (h3 : ∀ c ∈ tl t, c ∈ tl SEGS) (h4 : Dot1 (tl t)) (h5 : t ≠ ".") : fSeg (some t) = true := by
  rw [fSeg_some, only_of h3, occ_no h4]
  unfold rng
  have e : decide (V.str t = V.str ".") = false := decide_eq_false fun q => h5 (V.str.inj q)
  rw [decide_eq_true (show (1 : Int) ≤ (t.length : Int) by omega), decide_eq_true (show (t.length : Int) ≤ 12 by omega), e]
  rfl
theorem mem_ones {g : Str} : ∀ {ys : List V}, (∀ y ∈ ys, ∃ c, c ∈ tl g ∧ y = sg c) → ∃ cs : List Nat, ys = cs.map sg ∧ ∀ c ∈ cs, c ∈ tl g
  | [], _ => ⟨[], rfl, fun c h => by cases h⟩
  | y :: ys, h => by
    obtain ⟨c, hc, e⟩ := h y (List.mem_cons_self ..)
    obtain ⟨cs, e2, h2⟩ := mem_ones (ys := ys) fun z hz => h z (List.mem_cons_of_mem _ hz)
    refine ⟨c :: cs, by rw [e, e2]; rfl, fun d hd => ?_⟩
    rcases List.mem_cons.mp hd with rfl | hd
    · exact hc
    · exact h2 d hd
theorem sum_ones (cs : List Nat) : ((cs.map fun c => (⟨#[c]⟩ : Str)).map (·.length)).sum = cs.length := by
  induction cs with
  | nil => rfl
  | cons a l ih =>
    show 1 + ((l.map fun c => (⟨#[c]⟩ : Str)).map (·.length)).sum = l.length + 1
    rw [ih]
    omega
theorem cut_hi (t : Str) (j : Nat) : tl (cutS t none (some (j : Int))) = (tl t).take j := by
  show ((tl t).drop 0).take (HT.sIx t.length t.length (some (j : Int)) - 0) = _
  rw [HT.sIx_nat, List.drop_zero, Nat.sub_zero, len_tl]
  by_cases h : j ≤ (tl t).length
  · rw [Nat.min_eq_left h]
  · rw [Nat.min_eq_right (by omega), List.take_length, List.take_of_length_le (by omega)]
theorem cut_lo (t : Str) (j : Nat) : tl (cutS t (some (j : Int)) none) = (tl t).drop j := by
  show ((tl t).drop (HT.sIx t.length 0 (some (j : Int)))).take (t.length - HT.sIx t.length 0 (some (j : Int))) = _
  rw [HT.sIx_nat, len_tl]
  by_cases h : j ≤ (tl t).length
  · rw [Nat.min_eq_left h, List.take_of_length_le (by rw [List.length_drop]; omega)]
  · rw [Nat.min_eq_right (by omega), List.drop_length, List.drop_eq_nil_of_le (by omega), List.take_nil]
theorem dot_in : 46 ∈ tl SEGS := by decide +kernel
section
variable {P : Program} {w : World} {K : PySem.W.Frag} {mg : Str → Option Value} {base : Heap}
def spCell (K : PySem.W.Frag) : Sp := fun vs H Q _ => ∃ (a : Addr) (ns : List Int) (j : Int), vs = [.ref a, .int j] ∧ SqL K H a (ns.map V.int) ∧ 0 ≤ j ∧ ∀ n : Int, Q (.int n) H
def N__law_cell_at : List Str := ["_law_script", "_law_k"]
theorem sc__law_cell_at : FnScope N__law_cell_at ["_law_script", "_law_k"] (defScope s__law_cell_at) := ⟨rfl, rfl, rfl, by decide +kernel, rfl, by decide +kernel, by decide +kernel⟩
theorem ok__law_cell_at (T : Ctx K mg) : Ok P w K mg base 1 "_law_cell_at" ["_law_script", "_law_k"] (spCell K) := by
  obtain ⟨fd, F⟩ := T.c.def_ 0 (d := d__law_cell_at) rfl
  refine ⟨⟨fd, F.ok sc__law_cell_at (fun vs H Q E h => ?_) (fun cdv A outer s H vs Q E hr h => ?_), F.bindsN fun _ _ _ _ _ _ us hl => match us, hl with | [_, _], _ => rfl⟩, F.kp, T.g__law_cell_at⟩
  · obtain ⟨a, ns, j, rfl, _⟩ := h
    rfl
  · obtain ⟨a, ns, j, rfl, hS, hj, k⟩ := h
    refine ⟨_, PSs.nox (pss_cons (ps_if (pt_cmpR op_lt (pv 1) (pe_callB call_len_seq (by rfl) T.f_len PySem.boot_len (pa_cons (pv 0) pa_nil)) (nomark _))
        (pss_one (ps_ret (pe_ix ix_list (pv 0) (pv 1) (fun _ _ => rfl))))
        pss_nil)
      (pss_one (ps_ret pe_int))), ?_⟩
    refine ⟨_, rfl, _, rfl, a, _, rfl, .inl hS, _, _, rfl, rfl, _, rfl, ?_⟩
    refine ite2 (fun g => ?_) (fun g => k 0)
    have g' : j < ((ns.map V.int).length : Int) := of_decide_eq_true g
    have hl : j.toNat < ns.length := by
      rw [List.length_map] at g'
      omega
    refine ⟨_, rfl, _, rfl, a, _, _, .int ns[j.toNat], rfl, rfl, hS, ?_, k _⟩
    have e := atI_nat (xs := ns.map V.int) (j := j.toNat) (v := .int ns[j.toNat]) (by rw [List.getElem?_map, List.getElem?_eq_getElem hl]; rfl)
    rw [Int.toNat_of_nonneg hj] at e
    exact e
def spWell : Sp := fun vs H Q _ => ∃ n : Int, vs = [.int n] ∧ ∀ (p : Addr) (H' : Hp), H p = none → Same H H' → Wl H' p 1000000 → Q (.ref p) H'
def N__law_well : List Str := ["_law_cell"]
theorem sc__law_well : FnScope N__law_well ["_law_cell"] (defScope s__law_well) := ⟨rfl, rfl, rfl, by decide +kernel, rfl, by decide +kernel, by decide +kernel⟩
theorem ok__law_well (T : Ctx K mg) : Ok P w K mg base 1 "_law_well" ["_law_cell"] spWell := by
  obtain ⟨fd, F⟩ := T.c.def_ 1 (d := d__law_well) rfl
  refine ⟨⟨fd, F.ok sc__law_well (fun vs H Q E h => ?_) (fun cdv A outer s H vs Q E hr h => ?_), F.bindsN fun _ _ _ _ _ _ us hl => match us, hl with | [_], _ => rfl⟩, F.kp, T.g__law_well⟩
  · obtain ⟨n, rfl, _⟩ := h
    rfl
  · obtain ⟨n, rfl, k⟩ := h
    refine ⟨_, PSs.nox (pss_one (ps_ret (pe_lst (pa_cons (pe_op op_mul (pv 0) (pe_callTy call_int1 (by rfl) T.f_int (by decide +kernel) (pa_cons (pe_cmpR op_ge (pv 0) (pe_op op_pow pe_int pe_int) (nomark _)) pa_nil))) (pa_cons (pv 0) (pa_cons pe_int pa_nil)))))), ?_⟩
    refine ⟨_, rfl, _, rfl, _, _, rfl, rfl, ⟨by decide, by decide, by decide⟩, _, _, rfl, rfl, .inr ⟨_, rfl, _, _, rfl, rfl, .inr ?_, _, rfl, (by show 3 ≤ sizeLine; decide), fun p hp => ?_⟩⟩
    · cases decide (n ≥ 10 ^ (18 : Int).toNat) <;> exact ⟨by decide, by decide⟩
    · refine k p _ hp (same_new hp) ⟨_, _, _, upd_same, ?_, by decide, by decide⟩
      by_cases h : n ≥ 10 ^ (18 : Int).toNat
      · rw [decide_eq_true h]
        show 0 ≤ n * 1
        have : (10 : Int) ^ (18 : Int).toNat ≥ 0 := by decide
        omega
      · rw [decide_eq_false h]
        show 0 ≤ n * 0
        omega
def spSigns : Sp := fun vs H Q _ => ∃ (u : Addr) (g : Str) (lo hi : Int) (n : Nat), vs = [.ref u, .str g, .int lo, .int hi] ∧ 0 ≤ lo ∧ lo ≤ hi ∧ hi ≤ 100 ∧ 0 < g.length ∧ g.length ≤ 1000 ∧ Wl H u (n + 101) ∧
  ∀ (t : Str) (H' : Hp), lo ≤ (t.length : Int) → (t.length : Int) ≤ hi → (∀ c ∈ tl t, c ∈ tl g) → Wl H' u n → Kp u H H' → Q (.str t) H'
def N__law_signs : List Str := ["_law_well_here", "_law_signs_here", "_law_least", "_law_most", "_law_k"]
theorem sc__law_signs : FnScope N__law_signs ["_law_well_here", "_law_signs_here", "_law_least", "_law_most"] (defScope s__law_signs) := ⟨rfl, rfl, rfl, by decide +kernel, rfl, by decide +kernel, by decide +kernel⟩
theorem ok__law_signs (T : Ctx K mg) : Ok P w K mg base 2 "_law_signs" ["_law_well_here", "_law_signs_here", "_law_least", "_law_most"] spSigns := by
  obtain ⟨fd, F⟩ := T.c.def_ 4 (d := d__law_signs) rfl
  refine ⟨⟨fd, F.ok sc__law_signs (fun vs H Q E h => ?_) (fun cdv A outer s H vs Q E hr h => ?_), F.bindsN fun _ _ _ _ _ _ us hl => match us, hl with | [_, _, _, _], _ => rfl⟩, F.kp, T.g__law_signs⟩
  · obtain ⟨u, g, lo, hi, n, rfl, _⟩ := h
    rfl
  · obtain ⟨u, g, lo, hi, n, rfl, h0, h1, h2, g0, g1, hw, k⟩ := h
    refine ⟨_, PSs.nox (pss_one (ps_ret (pe_join pe_str (pe_lc (own := [("_law_k", 4)]) (g := gName 4) rfl sc__law_signs.nd (pi_range1 (by rfl) T.f_range (pa_cons (pe_op op_add (pv 2) (pe_own (ok__law_draw T) (hr.mono (by decide)) (by rfl) (pa_cons (pv 0) (pa_cons (pe_op op_add (pe_op op_sub (pv 3) (pv 2)) pe_int) pa_nil)))) pa_nil)) (blkOk_by (N := N__law_signs) (sc := defScope s__law_signs) (by decide +kernel)) (fun _ _ _ _ _ => pg_name (i := 4) sc__law_signs.nd rfl (Or.inl rfl)) (fun _ _ _ _ _ => pts_nil) (fun _ _ _ _ _ => (pe_ix ix_str (pv 1) (pe_own (ok__law_draw T) (hr.mono (by decide)) (by rfl) (pa_cons (pv 0) (pa_cons (pe_callB call_len_str (by rfl) T.f_len PySem.boot_len (pa_cons (pv 1) pa_nil)) pa_nil))) (fun _ _ => rfl))))))), ?_⟩
    have hw1 : Wl H u ((n + 100) + 1) := hw
    refine ⟨⟨_, rfl⟩, _, rfl, _, rfl, _, rfl, _, rfl, _, _, rfl, rfl, _, _, rfl, rfl, u, n + 100, _, rfl, hw1, by omega, by omega, fun r H1 r0 r1 hw2 kp1 => ?_⟩
    refine ⟨_, _, rfl, rfl, _, rfl, by omega, by omega, fun D hD => ?_⟩
    have hN : (lo + r).toNat ≤ 100 := by omega
    refine lc_wl (i := 4) (N := (lo + r).toNat) walk_range (fun _ _ _ _ y => y.1) (fun y => ∃ c, c ∈ tl g ∧ y = sg c) (u := u) (n := n) (k := 1) (hw2.le (by omega)) (Nat.lt_of_le_of_lt hN (by decide)) hD (fun x H2 m Q2 hw3 kp2 q2 => ?_) fun H2 ys kp2 hw3 hD2 hl hP => ?_
    · refine ⟨_, rfl, _, rfl, _, rfl, g, rfl, Nat.le_trans g1 (by decide), u, m, _, rfl, hw3, by omega, by omega, fun r2 H3 r20 r21 hw4 kp3 => ?_⟩
      have hr2 : r2.toNat < (tl g).length := by
        rw [← len_tl]
        omega
      have e := atI_nat (xs := tl g) (j := r2.toNat) (v := (tl g)[r2.toNat]) (List.getElem?_eq_getElem hr2)
      rw [Int.toNat_of_nonneg r20] at e
      exact ⟨g, r2, (tl g)[r2.toNat], rfl, rfl, Nat.le_trans g1 (by decide), e, q2 _ _ ⟨_, List.getElem_mem hr2, rfl⟩ hw4 kp3⟩
    · obtain ⟨cs, rfl, hcs⟩ := mem_ones hP
      rw [List.length_map] at hl
      have ej := join_ones cs
      refine ⟨_, D, cs.map fun c => (⟨#[c]⟩ : Str), rfl, rfl, .inl (SqL.of (hD2.trans (by rw [List.map_map]; rfl))), ?_, k _ _ ?_ ?_ ?_ hw3 (kp1.trans kp2)⟩
      · rw [sum_ones, List.length_map]
        show cs.length + cs.length * 0 ≤ 16777216
        omega
      · rw [len_tl, ej]
        omega
      · rw [len_tl, ej]
        omega
      · intro c hc
        rw [ej] at hc
        exact hcs c hc
def FOUND : Str := " !\"#$&'()*+,-./0123456789:;<=>?@ABCDEFGHIJKLMNOPQRSTUVWXYZ[]^_`abcdefghijklmnopqrstuvwxyz{|}~"
def ALLS : Str := FOUND ++ ("\\" : Str) ++ ("\n" : Str)
def spAll : Sp := fun vs H Q _ => vs = [] ∧ Q (.str ALLS) H
def N__law_all_signs : List Str := ["_law_found"]
theorem sc__law_all_signs : FnScope N__law_all_signs [] (defScope s__law_all_signs) := ⟨rfl, rfl, rfl, by decide +kernel, rfl, by decide +kernel, by decide +kernel⟩
theorem ok__law_all_signs (T : Ctx K mg) : Ok P w K mg base 1 "_law_all_signs" [] spAll := by
  obtain ⟨fd, F⟩ := T.c.def_ 5 (d := d__law_all_signs) rfl
  refine ⟨⟨fd, F.ok sc__law_all_signs (fun vs H Q E h => ?_) (fun cdv A outer s H vs Q E hr h => ?_), F.bindsN fun _ _ _ _ _ _ us hl => match us, hl with | [], _ => rfl⟩, F.kp, T.g__law_all_signs⟩
  · obtain ⟨rfl, _⟩ := h
    rfl
  · obtain ⟨rfl, k⟩ := h
    refine ⟨_, PSs.nox (pss_cons (ps_set (i := 0) sc__law_all_signs.nd rfl (Or.inl rfl) pe_str)
      (pss_one (ps_ret (pe_op op_add_str (pe_op op_add_str (pv 0) pe_str) pe_str)))), ?_⟩
    exact ⟨_, rfl, _, _, rfl, rfl, (by decide +kernel), _, _, rfl, rfl, (by decide +kernel), k⟩
theorem mem3 {x : V} {a b c : Int} (h : x ∈ [V.int a, V.int b, V.int c]) : x = .int a ∨ x = .int b ∨ x = .int c := by
  rcases List.mem_cons.mp h with h | h
  · exact .inl h
  · rcases List.mem_cons.mp h with h | h
    · exact .inr (.inl h)
    · exact .inr (.inr (List.mem_singleton.mp h))
def spSeg : Sp := fun vs H Q _ => ∃ (u : Addr) (n : Nat), vs = [.ref u] ∧ Wl H u (n + 104) ∧ ∀ (t : Str) (H' : Hp), fSeg (some t) = true → t.length ≤ 12 → 47 ∉ tl t → Wl H' u n → Kp u H H' → Q (.str t) H'
def N__law_segment : List Str := ["_law_well_here", "_law_letters", "_law_text_here", "_law_spot"]
theorem sc__law_segment : FnScope N__law_segment ["_law_well_here"] (defScope s__law_segment) := ⟨rfl, rfl, rfl, by decide +kernel, rfl, by decide +kernel, by decide +kernel⟩
theorem ok__law_segment (T : Ctx K mg) : Ok P w K mg base 3 "_law_segment" ["_law_well_here"] spSeg := by
  obtain ⟨fd, F⟩ := T.c.def_ 6 (d := d__law_segment) rfl
  refine ⟨⟨fd, F.ok sc__law_segment (fun vs H Q E h => ?_) (fun cdv A outer s H vs Q E hr h => ?_), F.bindsN fun _ _ _ _ _ _ us hl => match us, hl with | [_], _ => rfl⟩, F.kp, T.g__law_segment⟩
  · obtain ⟨u, n, rfl, _⟩ := h
    rfl
  · obtain ⟨u, n, rfl, hw, k⟩ := h
    refine ⟨_, PSs.nox (pss_cons (ps_set (i := 1) sc__law_segment.nd rfl (Or.inl rfl) pe_str)
      (pss_cons (ps_set (i := 2) sc__law_segment.nd rfl (Or.inl rfl) (pe_own (ok__law_signs T) (hr.mono (by decide)) (by rfl) (pa_cons (pv 0) (pa_cons (pv 1) (pa_cons pe_int (pa_cons (pe_own (ok__law_pick T) (hr.mono (by decide)) (by rfl) (pa_cons (pv 0) (pa_cons (pe_lst (pa_cons pe_int (pa_cons pe_int (pa_cons pe_int pa_nil)))) pa_nil))) pa_nil))))))
      (pss_cons (ps_if (PW.pt (pw_and (pt_cmpR op_lt (pe_callB call_len_str (by rfl) T.f_len PySem.boot_len (pa_cons (pv 2) pa_nil)) pe_int (nomark _)) (pw_and1 (pt_cmpR op_eq (pe_own (ok__law_draw T) (hr.mono (by decide)) (by rfl) (pa_cons (pv 0) (pa_cons pe_int pa_nil))) pe_int (nomark _)))))
        (pss_cons (ps_set (i := 3) sc__law_segment.nd rfl (Or.inl rfl) (pe_own (ok__law_draw T) (hr.mono (by decide)) (by rfl) (pa_cons (pv 0) (pa_cons (pe_op op_add (pe_callB call_len_str (by rfl) T.f_len PySem.boot_len (pa_cons (pv 2) pa_nil)) pe_int) pa_nil))))
        (pss_one (ps_set (i := 2) sc__law_segment.nd rfl (Or.inl rfl) (pe_op op_add_str (pe_op op_add_str (pe_slice sl_str (pv 2) po_none (po_some (pv 3))) pe_str) (pe_slice sl_str (pv 2) (po_some (pv 3)) po_none)))))
        pss_nil)
      (pss_one (ps_ret (pv 2)))))), ?_⟩
    refine ⟨_, rfl, _, rfl, _, rfl, (by show 3 ≤ sizeLine; decide), fun p hp => ?_⟩
    have hw0 : Wl H u ((n + 103) + 1) := hw
    refine ⟨u, p, n + 103, _, rfl, hw0.new hp, hw.ne hp, upd_same, (by simp), (by decide), fun x H1 hx hw1 kp1 => ?_⟩
    obtain ⟨m, rfl, m1, m2⟩ : ∃ m : Int, x = .int m ∧ 1 ≤ m ∧ m ≤ 12 := by
      rcases mem3 hx with rfl | rfl | rfl
      · exact ⟨_, rfl, by decide, by decide⟩
      · exact ⟨_, rfl, by decide, by decide⟩
      · exact ⟨_, rfl, by decide, by decide⟩
    refine ⟨u, LETTERS, 1, m, n + 2, rfl, by decide, m1, by omega, by decide, by decide, hw1.le (by omega), fun t H2 t1 t2 tc hw2 kp2 => ?_⟩
    have kp : Kp u H H2 := ((Kp.refl _ _).new hp).trans (kp1.trans kp2)
    have ok0 : fSeg (some t) = true := seg_ok (by omega) (by omega) (fun c hc => (letters_in c (tc c hc)).1) (.inl fun h => (letters_in 46 (tc 46 h)).2.1 rfl) fun e => by
      rw [e] at tc
      exact (letters_in 46 (tc 46 (by decide))).2.1 rfl
    have sl0 : 47 ∉ tl t := fun h => (letters_in 47 (tc 47 h)).2.2 rfl
    refine ⟨_, rfl, t, rfl, Nat.le_trans (show t.length ≤ 100 by omega) (by decide), _, _, rfl, rfl, _, rfl, ?_⟩
    refine ite2 (fun q1 => ?_) (fun q1 => ?_)
    · have q1' : (t.length : Int) < 12 := of_decide_eq_true q1
      refine ⟨_, rfl, u, n + 1, _, rfl, hw2, by decide, by decide, fun r H3 r0 r1 hw3 kp3 => ?_⟩
      refine ⟨rfl, _, rfl, ?_⟩
      refine ite2 (fun q2 => ?_) (fun q2 => ?_)
      · refine ⟨_, rfl, _, rfl, t, rfl, Nat.le_trans (show t.length ≤ 100 by omega) (by decide), _, _, rfl, rfl, u, n, _, rfl, hw3, by omega, by omega, fun r2 H4 s0 s1 hw4 kp4 => ?_⟩
        have z1 : t.length ≤ sizeLine := Nat.le_trans (show t.length ≤ 100 by omega) (by decide)
        obtain ⟨j, rfl⟩ : ∃ j : Nat, r2 = (j : Int) := ⟨r2.toNat, by omega⟩
        have ea : tl (cutS t none (some (j : Int))) = (tl t).take j := cut_hi t j
        have eb : tl (cutS t (some (j : Int)) none) = (tl t).drop j := cut_lo t j
        have la : (cutS t none (some (j : Int))).length ≤ 12 := Nat.le_trans (cutS_length _ _ _) (by omega)
        have lb : (cutS t (some (j : Int)) none).length ≤ 12 := Nat.le_trans (cutS_length _ _ _) (by omega)
        refine ⟨_, rfl, _, rfl, _, rfl, t, rfl, z1, _, _, rfl, rfl, Nat.le_trans (Nat.add_le_add la (show ("." : Str).length ≤ 1 by decide)) (by decide), _, rfl, _, rfl, _, rfl, t, rfl, z1, _, _, rfl, rfl, ?_, ?_⟩
        · have l2 : (cutS t none (some (j : Int)) ++ ("." : Str)).length ≤ 13 := by
            rw [len_tl, tl_append, List.length_append]
            show (cutS t none (some (j : Int))).length + 1 ≤ 13
            omega
          exact Nat.le_trans (Nat.add_le_add l2 lb) (by decide)
        · have et : tl (cutS t none (some (j : Int)) ++ ("." : Str) ++ cutS t (some (j : Int)) none) = (tl t).take j ++ 46 :: (tl t).drop j := by
            rw [tl_append, tl_append, ea, eb, List.append_assoc]
            rfl
          have el : (cutS t none (some (j : Int)) ++ ("." : Str) ++ cutS t (some (j : Int)) none).length = t.length + 1 := by
            rw [len_tl, et, List.length_append, List.length_cons, List.length_take, List.length_drop, len_tl]
            have : j ≤ (tl t).length := by
              rw [← len_tl]
              omega
            omega
          have hm : ∀ c ∈ (tl t).take j ++ 46 :: (tl t).drop j, c = 46 ∨ c ∈ tl t := fun c hc => by
            rcases List.mem_append.mp hc with h | h
            · exact .inr (List.mem_of_mem_take h)
            · rcases List.mem_cons.mp h with h | h
              · exact .inl h
              · exact .inr (List.mem_of_mem_drop h)
          refine ⟨_, rfl, k _ _ (seg_ok (by omega) (by omega) (fun c hc => ?_) ?_ fun e => ?_) (by omega) (fun h => ?_) hw4 (kp.trans (kp3.trans kp4))⟩
          · rw [et] at hc
            rcases hm c hc with rfl | h
            · exact dot_in
            · exact (letters_in c (tc c h)).1
          · rw [et]
            exact .inr ⟨_, _, rfl, fun h => (letters_in 46 (tc 46 (List.mem_of_mem_take h))).2.1 rfl, fun h => (letters_in 46 (tc 46 (List.mem_of_mem_drop h))).2.1 rfl⟩
          · have := congrArg Str.length e
            rw [el] at this
            have h1 : ("." : Str).length = 1 := by decide
            omega
          · rw [et] at h
            rcases hm 47 h with e | h
            · cases e
            · exact sl0 h
      · exact ⟨_, rfl, k t H3 ok0 (by omega) sl0 (hw3.le (by omega)) (kp.trans kp3)⟩
    · exact ⟨_, rfl, k t H2 ok0 (by omega) sl0 (hw2.le (by omega)) kp⟩
theorem mem_strs {R : Str → Prop} : ∀ {ys : List V}, (∀ y ∈ ys, ∃ s, y = .str s ∧ R s) → ∃ ss : List Str, ys = ss.map V.str ∧ ∀ s ∈ ss, R s
  | [], _ => ⟨[], rfl, fun c h => by cases h⟩
  | y :: ys, h => by
    obtain ⟨c, e, hc⟩ := h y (List.mem_cons_self ..)
    obtain ⟨cs, e2, h2⟩ := mem_strs (R := R) (ys := ys) fun z hz => h z (List.mem_cons_of_mem _ hz)
    refine ⟨c :: cs, by rw [e, e2]; rfl, fun d hd => ?_⟩
    rcases List.mem_cons.mp hd with rfl | hd
    · exact hc
    · exact h2 d hd
theorem sum_le {k : Nat} : ∀ {ss : List Str}, (∀ s ∈ ss, s.length ≤ k) → (ss.map (·.length)).sum ≤ ss.length * k
  | [], _ => Nat.zero_le _
  | s :: ss, h => by
    show s.length + (ss.map (·.length)).sum ≤ (ss.length + 1) * k
    have h1 := h s (List.mem_cons_self ..)
    have h2 := sum_le (k := k) (ss := ss) fun z hz => h z (List.mem_cons_of_mem _ hz)
    rw [Nat.succ_mul]
    omega
theorem joinL_bound {S : List Nat} {k : Nat} : ∀ {ps : List (List Nat)}, (∀ p ∈ ps, p.length ≤ k) → (joinL S ps).length ≤ ps.length * (k + S.length)
  | [], _ => Nat.zero_le _
  | [p], h => by
    show p.length ≤ 1 * (k + S.length)
    have := h p (List.mem_cons_self ..)
    omega
  | p :: q :: r, h => by
    show (p ++ (S ++ joinL S (q :: r))).length ≤ ((q :: r).length + 1) * (k + S.length)
    have h1 := h p (List.mem_cons_self ..)
    have h2 := joinL_bound (S := S) (k := k) (ps := q :: r) fun z hz => h z (List.mem_cons_of_mem _ hz)
    rw [List.length_append, List.length_append, Nat.succ_mul]
    omega
theorem join_len {y : Str} {k : Nat} {ss : List Str} (h : ∀ s ∈ ss, s.length ≤ k) : (Txt.join y ss).length ≤ ss.length * (k + y.length) := by
  rw [len_tl, join_eq, tl_join]
  have := joinL_bound (S := tl y) (k := k) (ps := ss.map tl) fun p hp => by
    obtain ⟨s, hs, rfl⟩ := List.mem_map.mp hp
    exact h s hs
  rw [List.length_map] at this
  exact this
theorem joinL_chars {S : List Nat} {R : Nat → Prop} (hS : ∀ c ∈ S, R c) : ∀ {ps : List (List Nat)}, (∀ p ∈ ps, ∀ c ∈ p, R c) → ∀ c ∈ joinL S ps, R c
  | [], _, c, h => by cases h
  | [p], h, c, hc => h p (List.mem_cons_self ..) c hc
  | p :: q :: r, h, c, hc => by
    rcases List.mem_append.mp (show c ∈ p ++ (S ++ joinL S (q :: r)) from hc) with hc | hc
    · exact h p (List.mem_cons_self ..) c hc
    · rcases List.mem_append.mp hc with hc | hc
      · exact hS c hc
      · exact joinL_chars hS (ps := q :: r) (fun z hz => h z (List.mem_cons_of_mem _ hz)) c hc
theorem join_chars {y : Str} {R : Nat → Prop} {ss : List Str} (hy : ∀ c ∈ tl y, R c) (h : ∀ s ∈ ss, ∀ c ∈ tl s, R c) : ∀ c ∈ tl (Txt.join y ss), R c := by
  rw [join_eq, tl_join]
  refine joinL_chars hy fun p hp => ?_
  obtain ⟨s, hs, rfl⟩ := List.mem_map.mp hp
  exact h s hs
theorem only_iff {t g : Str} (h : only t g = true) : ∀ c ∈ tl t, c ∈ tl g := fun c hc => of_decide_eq_true (List.all_eq_true.mp h c hc)
theorem segs_asc : ∀ c ∈ tl SEGS, c < 128 := by decide +kernel
theorem seg_asc {t : Str} (h : fSeg (some t) = true) : Asc t := fun c hc => by
  rw [fSeg_some] at h
  have h2 := (Bool.and_eq_true_iff.mp (Bool.and_eq_true_iff.mp h).2).1
  exact segs_asc c (only_iff h2 c hc)
def spPath : Sp := fun vs H Q _ => ∃ (u : Addr) (n : Nat), vs = [.ref u] ∧ Wl H u (n + 626) ∧ ∀ (t : Str) (H' : Hp), fPath (some t) = true → t.length ≤ 2000 → Asc t → Wl H' u n → Kp u H H' → Q (.str t) H'
def N__law_path : List Str := ["_law_well_here", "_law_k"]
theorem sc__law_path : FnScope N__law_path ["_law_well_here"] (defScope s__law_path) := ⟨rfl, rfl, rfl, by decide +kernel, rfl, by decide +kernel, by decide +kernel⟩
theorem ok__law_path (T : Ctx K mg) : Ok P w K mg base 4 "_law_path" ["_law_well_here"] spPath := by
  obtain ⟨fd, F⟩ := T.c.def_ 7 (d := d__law_path) rfl
  refine ⟨⟨fd, F.ok sc__law_path (fun vs H Q E h => ?_) (fun cdv A outer s H vs Q E hr h => ?_), F.bindsN fun _ _ _ _ _ _ us hl => match us, hl with | [_], _ => rfl⟩, F.kp, T.g__law_path⟩
  · obtain ⟨u, n, rfl, _⟩ := h
    rfl
  · obtain ⟨u, n, rfl, hw, k⟩ := h
    refine ⟨_, PSs.nox (pss_one (ps_ret (pe_join pe_str (pe_lc (own := [("_law_k", 1)]) (g := gName 1) rfl sc__law_path.nd (pi_range1 (by rfl) T.f_range (pa_cons (pe_op op_add pe_int (pe_own (ok__law_draw T) (hr.mono (by decide)) (by rfl) (pa_cons (pv 0) (pa_cons (pe_own (ok__law_pick T) (hr.mono (by decide)) (by rfl) (pa_cons (pv 0) (pa_cons (pe_lst (pa_cons pe_int (pa_cons pe_int (pa_cons pe_int pa_nil)))) pa_nil))) pa_nil)))) pa_nil)) (blkOk_by (N := N__law_path) (sc := defScope s__law_path) (by decide +kernel)) (fun _ _ _ _ _ => pg_name (i := 1) sc__law_path.nd rfl (Or.inl rfl)) (fun _ _ _ _ _ => pts_nil) (fun _ _ _ _ _ => (pe_own (ok__law_segment T) (hr.mono (by decide)) (by rfl) (pa_cons (pv 0) pa_nil))))))), ?_⟩
    refine ⟨⟨_, rfl⟩, _, rfl, _, rfl, (by show 3 ≤ sizeLine; decide), fun p hp => ?_⟩
    have hw0 : Wl H u ((n + 625) + 1) := hw
    refine ⟨u, p, n + 625, _, rfl, hw0.new hp, hw.ne hp, upd_same, (by simp), (by decide), fun x H1 hx hw1 kp1 => ?_⟩
    obtain ⟨m, rfl, m1, m2⟩ : ∃ m : Int, x = .int m ∧ 1 ≤ m ∧ m ≤ 6 := by
      rcases mem3 hx with rfl | rfl | rfl
      · exact ⟨_, rfl, by decide, by decide⟩
      · exact ⟨_, rfl, by decide, by decide⟩
      · exact ⟨_, rfl, by decide, by decide⟩
    refine ⟨u, n + 624, _, rfl, hw1, by omega, by omega, fun r H2 r0 r1 hw2 kp2 => ?_⟩
    refine ⟨_, _, rfl, rfl, _, rfl, by omega, by omega, fun D hD => ?_⟩
    have kp : Kp u H H2 := ((Kp.refl _ _).new hp).trans (kp1.trans kp2)
    have hN : (1 + r).toNat ≤ 6 := by omega
    have hN1 : 1 ≤ (1 + r).toNat := by omega
    refine lc_wl (i := 1) (N := (1 + r).toNat) walk_range (fun _ _ _ _ y => y.1) (fun y => ∃ s, y = .str s ∧ (fSeg (some s) = true ∧ s.length ≤ 12 ∧ 47 ∉ tl s)) (u := u) (n := n) (k := 104) (hw2.le (by omega)) (Nat.lt_of_le_of_lt hN (by decide)) hD (fun x H3 m3 Q3 hw3 kp3 q3 => ?_) fun H3 ys kp3 hw3 hD3 hl hP => ?_
    · exact ⟨_, rfl, u, m3, rfl, hw3, fun t H4 t1 t2 t3 hw4 kp4 => q3 _ _ ⟨t, rfl, t1, t2, t3⟩ hw4 kp4⟩
    · obtain ⟨ss, rfl, hss⟩ := mem_strs hP
      rw [List.length_map] at hl
      have hs12 := sum_le (k := 12) fun s hs => (hss s hs).2.1
      have hne : ss ≠ [] := fun e => by
        rw [e] at hl
        exact absurd hl (by show ¬ 0 = _; omega)
      have ep : parts (Txt.join ("/" : Str) ss) = ss := split_join (s := 47) (S := []) rfl (by decide +kernel) hne fun s hs => (hss s hs).2.2
      refine ⟨_, D, ss, rfl, rfl, .inl (SqL.of hD3), ?_, k _ _ ?_ ?_ ?_ hw3 (kp.trans kp3)⟩
      · show (ss.map (·.length)).sum + ss.length * 1 ≤ 16777216
        omega
      · rw [fPath_some, ep, List.length_map, decide_eq_true (show (ss.length : Int) ≤ 6 by omega), Bool.true_and, List.all_eq_true]
        exact fun s hs => (hss s hs).1
      · have := join_len (y := ("/" : Str)) (k := 12) (ss := ss) fun s hs => (hss s hs).2.1
        have h1 : ("/" : Str).length = 1 := by decide
        rw [h1] at this
        omega
      · exact join_chars (R := fun c => c < 128) (by decide) fun s hs => seg_asc (hss s hs).1
/-! ### texts of files -/
theorem foldl_app (a : Array Nat) : ∀ (n : Nat) (acc : Array Nat), ((List.replicate n a).foldl (· ++ ·) acc).toList = acc.toList ++ (List.replicate n a.toList).flatten
  | 0, acc => by simp
  | n + 1, acc => by
    rw [List.replicate_succ, List.foldl_cons, foldl_app a n, List.replicate_succ, List.flatten_cons, Array.toList_append, List.append_assoc]
theorem mul_chars (z : Str) (i : Int) : ∀ c ∈ tl (Txt.mul z i), c ∈ tl z := by
  intro c hc
  unfold Txt.mul at hc
  split at hc
  · exact absurd hc (by simp [tl, Str.empty])
  · split at hc
    · exact hc
    · have e : tl (⟨(List.replicate i.toNat z.cps).foldl (· ++ ·) #[]⟩ : Str) = _ := foldl_app z.cps i.toNat #[]
      rw [e] at hc
      simp only [List.nil_append, List.mem_flatten] at hc
      obtain ⟨l, hl, hc⟩ := hc
      rw [(List.mem_replicate.mp hl).2] at hc
      exact hc
theorem mul_len (z : Str) (i : Int) : (Txt.mul z i).length ≤ z.length * i.toNat := by
  unfold Txt.mul
  split
  · exact Nat.zero_le _
  · rename_i h
    split
    · have : 1 ≤ i.toNat := by omega
      exact Nat.le_mul_of_pos_right _ this
    · rw [len_tl]
      have e : tl (⟨(List.replicate i.toNat z.cps).foldl (· ++ ·) #[]⟩ : Str) = _ := foldl_app z.cps i.toNat #[]
      rw [e]
      simp [List.length_flatten, List.map_replicate, List.sum_replicate_nat, Nat.mul_comm, len_tl]
theorem alls_ok : ∀ c ∈ tl ALLS, okc c = true ∧ c < 128 := by decide +kernel
theorem text_ok {t : Str} (h1 : t.length ≤ 2000) (h2 : ∀ c ∈ tl t, c ∈ tl ALLS) : fText 2000 (some t) = true := by
  rw [fText_some, decide_eq_false (show ¬ (t.length : Int) > 2000 by omega)]
  show (tl t).all okc = true
  rw [List.all_eq_true]
  exact fun c hc => (alls_ok c (h2 c hc)).1
def spTxt : Sp := fun vs H Q _ => ∃ (u : Addr) (n : Nat), vs = [.ref u] ∧ Wl H u (n + 103) ∧ ∀ (t : Str) (H' : Hp), fText 2000 (some t) = true → t.length ≤ 2000 → Asc t → Wl H' u n → Kp u H H' → Q (.str t) H'
def N__law_text : List Str := ["_law_well_here", "_law_size", "_law_text_here"]
theorem sc__law_text : FnScope N__law_text ["_law_well_here"] (defScope s__law_text) := ⟨rfl, rfl, rfl, by decide +kernel, rfl, by decide +kernel, by decide +kernel⟩
theorem ok__law_text (T : Ctx K mg) : Ok P w K mg base 3 "_law_text" ["_law_well_here"] spTxt := by
  obtain ⟨fd, F⟩ := T.c.def_ 8 (d := d__law_text) rfl
  refine ⟨⟨fd, F.ok sc__law_text (fun vs H Q E h => ?_) (fun cdv A outer s H vs Q E hr h => ?_), F.bindsN fun _ _ _ _ _ _ us hl => match us, hl with | [_], _ => rfl⟩, F.kp, T.g__law_text⟩
  · obtain ⟨u, n, rfl, _⟩ := h
    rfl
  · obtain ⟨u, n, rfl, hw, k⟩ := h
    refine ⟨_, PSs.nox (pss_cons (ps_set (i := 1) sc__law_text.nd rfl (Or.inl rfl) (pe_own (ok__law_pick T) (hr.mono (by decide)) (by rfl) (pa_cons (pv 0) (pa_cons (pe_lst (pa_cons pe_int (pa_cons pe_int (pa_cons pe_int (pa_cons pe_int pa_nil))))) pa_nil))))
      (pss_cons (ps_set (i := 2) sc__law_text.nd rfl (Or.inl rfl) (pe_own (ok__law_signs T) (hr.mono (by decide)) (by rfl) (pa_cons (pv 0) (pa_cons (pe_own0 (ok__law_all_signs T) (hr.mono (by decide)) (by rfl)) (pa_cons pe_int (pa_cons (pe_callB (call_min2 rfl) (by rfl) T.f_min (by decide +kernel) (pa_cons (pv 1) (pa_cons pe_int pa_nil))) pa_nil))))))
      (pss_cons (ps_if (PW.pt (pw_and (pt_cmpR op_ne (pv 2) pe_str (nomark _)) (pw_and1 (pt_cmpR op_eq (pv 1) pe_int (nomark _)))))
        (pss_one (ps_set (i := 2) sc__law_text.nd rfl (Or.inl rfl) (pe_slice sl_str (pe_op op_mul_str (pv 2) pe_int) po_none (po_some (pe_own (ok__law_pick T) (hr.mono (by decide)) (by rfl) (pa_cons (pv 0) (pa_cons (pe_lst (pa_cons pe_int (pa_cons pe_int (pa_cons pe_int pa_nil)))) pa_nil)))))))
        pss_nil)
      (pss_one (ps_ret (pv 2)))))), ?_⟩
    refine ⟨_, rfl, (by show 4 ≤ sizeLine; decide), fun p hp => ?_⟩
    have hw0 : Wl H u ((n + 102) + 1) := hw
    refine ⟨u, p, n + 102, _, rfl, hw0.new hp, hw.ne hp, upd_same, (by simp), (by decide), fun x H1 hx hw1 kp1 => ?_⟩
    obtain ⟨m, rfl, m1, m2⟩ : ∃ m : Int, x = .int m ∧ 0 ≤ m ∧ m ≤ 2000 := by
      simp only [List.mem_cons, List.not_mem_nil, or_false] at hx
      rcases hx with rfl | rfl | rfl | rfl
      all_goals exact ⟨_, rfl, by decide, by decide⟩
    refine ⟨_, rfl, rfl, _, rfl, _, _, rfl, ?_⟩
    have hm : 0 ≤ (if (30 : Int) < m then 30 else m) ∧ (if (30 : Int) < m then 30 else m) ≤ 30 := by
      split <;> omega
    refine ⟨u, ALLS, 0, _, n + 1, rfl, by decide, hm.1, by omega, by decide +kernel, by decide +kernel, hw1, fun t H2 t1 t2 tc hw2 kp2 => ?_⟩
    have t30 : t.length ≤ 30 := by omega
    have kp : Kp u H H2 := ((Kp.refl _ _).new hp).trans (kp1.trans kp2)
    have asc : ∀ s : Str, (∀ c ∈ tl s, c ∈ tl ALLS) → Asc s := fun s h c hc => (alls_ok c (h c hc)).2
    refine ⟨_, rfl, rfl, _, rfl, ?_⟩
    refine ite2 (fun q1 => ?_) (fun q1 => ?_)
    · refine ⟨_, rfl, rfl, _, rfl, ?_⟩
      refine ite2 (fun q2 => ?_) (fun q2 => ?_)
      · have l2 : (Txt.mul t 2000).length ≤ 60000 := Nat.le_trans (mul_len t 2000) (by show t.length * 2000 ≤ 60000; omega)
        refine ⟨_, rfl, _, _, rfl, rfl, ⟨by decide, by decide, by omega, by show t.length * 2000 ≤ 1000000; omega⟩, _, rfl, (by show 3 ≤ sizeLine; decide), fun p2 hp2 => ?_⟩
        refine ⟨u, p2, n, _, rfl, hw2.new hp2, hw2.ne hp2, upd_same, (by simp), (by decide), fun y H3 hy hw3 kp3 => ?_⟩
        obtain ⟨j, rfl, j2⟩ : ∃ j : Nat, y = .int (j : Int) ∧ j ≤ 2000 := by
          rcases mem3 hy with rfl | rfl | rfl
          · exact ⟨2000, rfl, by decide⟩
          · exact ⟨1999, rfl, by decide⟩
          · exact ⟨1000, rfl, by decide⟩
        have ec := cut_hi (Txt.mul t 2000) j
        have hc : ∀ c ∈ tl (cutS (Txt.mul t 2000) none (some (j : Int))), c ∈ tl ALLS := fun c hc => by
          rw [ec] at hc
          exact tc c (mul_chars t 2000 c (List.mem_of_mem_take hc))
        have hl : (cutS (Txt.mul t 2000) none (some (j : Int))).length ≤ 2000 := by
          rw [len_tl, ec, List.length_take]
          omega
        exact ⟨_, rfl, _, rfl, Nat.le_trans l2 (by decide), _, rfl, k _ _ (text_ok hl hc) hl (asc _ hc) hw3 ((kp.trans ((Kp.refl _ _).new hp2)).trans kp3)⟩
      · exact ⟨_, rfl, k _ _ (text_ok (by omega) tc) (by omega) (asc _ tc) (hw2.le (by omega)) kp⟩
    · exact ⟨_, rfl, k _ _ (text_ok (by omega) tc) (by omega) (asc _ tc) (hw2.le (by omega)) kp⟩
def HEXS : Str := "0123456789abcdef"
theorem hex_asc : ∀ c ∈ tl HEXS, c < 128 := by decide +kernel
def spId : Sp := fun vs H Q _ => ∃ (u : Addr) (n : Nat), vs = [.ref u] ∧ Wl H u (n + 101) ∧ ∀ (t : Str) (H' : Hp), fId (some t) = true → t.length ≤ 2000 → Asc t → Wl H' u n → Kp u H H' → Q (.str t) H'
def N__law_id : List Str := ["_law_well_here"]
theorem sc__law_id : FnScope N__law_id ["_law_well_here"] (defScope s__law_id) := ⟨rfl, rfl, rfl, by decide +kernel, rfl, by decide +kernel, by decide +kernel⟩
theorem ok__law_id (T : Ctx K mg) : Ok P w K mg base 3 "_law_id" ["_law_well_here"] spId := by
  obtain ⟨fd, F⟩ := T.c.def_ 9 (d := d__law_id) rfl
  refine ⟨⟨fd, F.ok sc__law_id (fun vs H Q E h => ?_) (fun cdv A outer s H vs Q E hr h => ?_), F.bindsN fun _ _ _ _ _ _ us hl => match us, hl with | [_], _ => rfl⟩, F.kp, T.g__law_id⟩
  · obtain ⟨u, n, rfl, _⟩ := h
    rfl
  · obtain ⟨u, n, rfl, hw, k⟩ := h
    refine ⟨_, PSs.nox (pss_one (ps_ret (pe_own (ok__law_signs T) (hr.mono (by decide)) (by rfl) (pa_cons (pv 0) (pa_cons pe_str (pa_cons pe_int (pa_cons pe_int pa_nil))))))), ?_⟩
    refine ⟨_, rfl, u, HEXS, 16, 16, n, rfl, by decide, by decide, by decide, by decide, by decide, hw, fun t H2 t1 t2 tc hw2 kp2 => ?_⟩
    refine k _ _ ?_ (by omega) (fun c hc => hex_asc c (tc c hc)) hw2 kp2
    show (decide _ && _) = true
    rw [show only t "0123456789abcdef" = true from only_of tc, show (t.length : Int) = 16 by omega]
    rfl
end
end K02
namespace K02
open PySem PySem.Spec PyProof.Rows L2 Fk TL
/-! ### the errors by their numbers -/
def nm (i : Nat) : Str := own.getD i ""
def fl (i : Nat) : Str := if i < 9 then "why" else if i < 12 then "at" else if i = 13 then "paths" else if i = 14 then "ref" else if i = 15 then "ref" else if i = 18 then "why" else "name"
theorem kitF_nm : ∀ i < 19, ∀ j < 18, kitF (nm i) (nm j) = decide (i = j) := by decide +kernel
theorem kitF_base : ∀ i < 19, kitF (nm i) "ForkError" = decide (i ≠ 16 ∧ i ≠ 17) := by decide +kernel
theorem nm_mem : ∀ i < 19, nm i ∈ own := by decide +kernel
theorem kitG_V : ∀ i < 19, kitG (nm i) "ValueError" = decide (i ≠ 16 ∧ i ≠ 17) := by decide +kernel
theorem kitG_K : ∀ i < 19, kitG (nm i) "KeyError" = decide (i = 16 ∨ i = 17) := by decide +kernel
theorem kitG_o : ∀ i < 19, kitG (nm i) "IndexError" = false ∧ kitG (nm i) "RuntimeError" = false ∧ kitG (nm i) "TypeError" = false := by decide +kernel
theorem err_nm : ∀ i < 19, ∃ e, e ∈ errs ∧ e.cls = nm i ∧ e.fld = fl i := by decide +kernel
section
variable {P : Program} {w : World} {K : PySem.W.Frag} {mg : Str → Option Value} {base : Heap}
theorem Ctx.kit0 (T : Ctx K mg) {c d : Str} (hc : c ∈ own) (hd : d ∈ own) : PySem.W.kitOne K (.ref (He.ga K c)) (.ref (He.ga K d)) = some (kitF c d) := by
  obtain ⟨_, h⟩ := He.ba (show ((errs.all fun e => e.ok K) && _) = true from T.y.ex)
  obtain ⟨h, _⟩ := He.ba h
  exact of_decide_eq_true (List.all_eq_true.mp (List.all_eq_true.mp h c hc) d hd)
theorem Ctx.kitB (T : Ctx K mg) {c : Str} {b : String} (hc : c ∈ own) (hb : b ∈ blts) : PySem.W.kitOne K (.ref (He.ga K c)) (.type b) = some (kitG c b) := by
  obtain ⟨_, h⟩ := He.ba (show ((errs.all fun e => e.ok K) && _) = true from T.y.ex)
  obtain ⟨_, h⟩ := He.ba h
  obtain ⟨h, _⟩ := He.ba h
  exact of_decide_eq_true (List.all_eq_true.mp (List.all_eq_true.mp h c hc) b hb)
theorem Ctx.exm (T : Ctx K mg) {c : Str} (hc : c ∈ own) : PySem.W.exmOne K (.ref (He.ga K c)) (.ref (He.ga K "ForkError")) = some (kitF c "ForkError") := by
  obtain ⟨_, h⟩ := He.ba (show ((errs.all fun e => e.ok K) && _) = true from T.y.ex)
  obtain ⟨_, h⟩ := He.ba h
  obtain ⟨_, h⟩ := He.ba h
  exact of_decide_eq_true (List.all_eq_true.mp h c hc)
theorem Ctx.kit (T : Ctx K mg) {i : Nat} (hi : i < 19) (j : Nat) (hj : j < 18 := by decide) : PySem.W.kitOne K (.ref (He.ga K (nm i))) (.ref (He.ga K (nm j))) = some (decide (i = j)) := by
  rw [T.kit0 (nm_mem i hi) (nm_mem j (by omega)), kitF_nm i hi j hj]
theorem Ctx.eok (T : Ctx K mg) {i : Nat} (hi : i < 19) : XfC K (He.ga K (nm i)) ∧ ExcC K (He.ga K (nm i)) ∧ PySem.W.findIn K (.ref (He.ga K (nm i))) (fl i) = some none := by
  obtain ⟨e, he, h1, h2⟩ := err_nm i hi
  obtain ⟨h, _⟩ := He.ba (show ((errs.all fun e => e.ok K) && _) = true from T.y.ex)
  have E := ErrD.get (List.all_eq_true.mp h e he)
  rw [← h1, ← h2]
  exact ⟨E.xf, E.xc, E.no⟩
/-- at a: an error of the class i with the field v -/
def Er (K : PySem.W.Frag) (H : Hp) (a : Addr) (i : Nat) (v : V) : Prop := ∃ (dx : Addr) (fs : List (Str × V)), H a = some (exo a (He.ga K (nm i)) (some dx)) ∧ H dx = some (exd dx fs) ∧ fs.lookup (fl i) = some v
theorem Er.same {H H' : Hp} {a : Addr} {i : Nat} {v : V} (h : Er K H a i v) (s : Same H H') : Er K H' a i v := by
  obtain ⟨dx, fs, h1, h2, h3⟩ := h
  exact ⟨dx, fs, s _ _ h1, s _ _ h2, h3⟩
theorem mk_BadName (T : Ctx K mg) : Mkr PP w K mg base (He.ga K "BadName") "why" fun x => [("why", x)] := mkW T (T.err 1 (e := e_BadName)) rfl rfl rfl
theorem mk0_BadName (T : Ctx K mg) : Mk0 PP w K mg base (He.ga K "BadName") "why" (fun x => [("why", x)]) (.str "") := mkW0 T (T.err 1 (e := e_BadName)) rfl rfl rfl
theorem mk_BadPath (T : Ctx K mg) : Mkr PP w K mg base (He.ga K "BadPath") "why" fun x => [("why", x)] := mkW T (T.err 2 (e := e_BadPath)) rfl rfl rfl
theorem mk0_BadPath (T : Ctx K mg) : Mk0 PP w K mg base (He.ga K "BadPath") "why" (fun x => [("why", x)]) (.str "") := mkW0 T (T.err 2 (e := e_BadPath)) rfl rfl rfl
theorem mk_BadRef (T : Ctx K mg) : Mkr PP w K mg base (He.ga K "BadRef") "why" fun x => [("why", x)] := mkW T (T.err 3 (e := e_BadRef)) rfl rfl rfl
theorem mk0_BadRef (T : Ctx K mg) : Mk0 PP w K mg base (He.ga K "BadRef") "why" (fun x => [("why", x)]) (.str "") := mkW0 T (T.err 3 (e := e_BadRef)) rfl rfl rfl
theorem mk_BadChange (T : Ctx K mg) : Mkr PP w K mg base (He.ga K "BadChange") "why" fun x => [("why", x)] := mkW T (T.err 4 (e := e_BadChange)) rfl rfl rfl
theorem mk0_BadChange (T : Ctx K mg) : Mk0 PP w K mg base (He.ga K "BadChange") "why" (fun x => [("why", x)]) (.str "") := mkW0 T (T.err 4 (e := e_BadChange)) rfl rfl rfl
theorem mk_BadMark (T : Ctx K mg) : Mkr PP w K mg base (He.ga K "BadMark") "why" fun x => [("why", x)] := mkW T (T.err 5 (e := e_BadMark)) rfl rfl rfl
theorem mk0_BadMark (T : Ctx K mg) : Mk0 PP w K mg base (He.ga K "BadMark") "why" (fun x => [("why", x)]) (.str "") := mkW0 T (T.err 5 (e := e_BadMark)) rfl rfl rfl
theorem mk_BadLetter (T : Ctx K mg) : Mkr PP w K mg base (He.ga K "BadLetter") "why" fun x => [("why", x)] := mkW T (T.err 6 (e := e_BadLetter)) rfl rfl rfl
theorem mk0_BadLetter (T : Ctx K mg) : Mk0 PP w K mg base (He.ga K "BadLetter") "why" (fun x => [("why", x)]) (.str "") := mkW0 T (T.err 6 (e := e_BadLetter)) rfl rfl rfl
theorem mk_BadCommand (T : Ctx K mg) : Mkr PP w K mg base (He.ga K "BadCommand") "why" fun x => [("why", x)] := mkW T (T.err 7 (e := e_BadCommand)) rfl rfl rfl
theorem mk0_BadCommand (T : Ctx K mg) : Mk0 PP w K mg base (He.ga K "BadCommand") "why" (fun x => [("why", x)]) (.str "") := mkW0 T (T.err 7 (e := e_BadCommand)) rfl rfl rfl
theorem mk_Crash (T : Ctx K mg) : Mkr PP w K mg base (He.ga K "Crash") "why" fun x => [("why", x)] := mkW T (T.err 8 (e := e_Crash)) rfl rfl rfl
theorem mk0_Crash (T : Ctx K mg) : Mk0 PP w K mg base (He.ga K "Crash") "why" (fun x => [("why", x)]) (.str "") := mkW0 T (T.err 8 (e := e_Crash)) rfl rfl rfl
theorem mk_Cut (T : Ctx K mg) : Mkr PP w K mg base (He.ga K "Cut") "why" fun x => [("why", x)] := mkW T (T.err 9 (e := e_Cut)) rfl rfl rfl
theorem mk0_Cut (T : Ctx K mg) : Mk0 PP w K mg base (He.ga K "Cut") "why" (fun x => [("why", x)]) (.str "") := mkW0 T (T.err 9 (e := e_Cut)) rfl rfl rfl
theorem mk_ForkError (T : Ctx K mg) : Mkr PP w K mg base (He.ga K "ForkError") "why" fun x => [("why", x)] := mkW T (T.err 0 (e := e_ForkError)) rfl rfl rfl
theorem mk0_ForkError (T : Ctx K mg) : Mk0 PP w K mg base (He.ga K "ForkError") "why" (fun x => [("why", x)]) (.str "") := mkW0 T (T.err 0 (e := e_ForkError)) rfl rfl rfl
theorem sfree {H H' : Hp} {p : Addr} (s : Same H H') (h : H' p = none) : H p = none := by
  cases q : H p with
  | none => rfl
  | some o =>
    rw [s p o q] at h
    cases h
/-! ### isinstance, class by class -/
def marks (i : Nat) : List Bool := (List.range 18).map fun j => decide (i = j)
def spMarks (K : PySem.W.Frag) : Sp := fun vs H Q _ => ∃ (a : Addr) (i : Nat) (v : V), vs = [.ref a] ∧ i < 19 ∧ Er K H a i v ∧ ∀ (p : Addr) (H' : Hp), H p = none → Same H H' → H' p = some (.lst ((marks i).map V.bl)) → Q (.ref p) H'
def N__law_marks : List Str := ["_law_e", "_law_found"]
theorem sc__law_marks : FnScope N__law_marks ["_law_e"] (defScope s__law_marks) := ⟨rfl, rfl, rfl, by decide +kernel, rfl, by decide +kernel, by decide +kernel⟩
theorem ok__law_marks (T : Ctx K mg) : Ok P w K mg base 1 "_law_marks" ["_law_e"] (spMarks K) := by
  obtain ⟨fd, F⟩ := T.c.def_ 10 (d := d__law_marks) rfl
  refine ⟨⟨fd, F.ok sc__law_marks (fun vs H Q E h => ?_) (fun cdv A outer s H vs Q E hr h => ?_), F.bindsN fun _ _ _ _ _ _ us hl => match us, hl with | [_], _ => rfl⟩, F.kp, T.g__law_marks⟩
  · obtain ⟨a, i, v, rfl, _⟩ := h
    rfl
  · obtain ⟨a, i, v, rfl, hi, ⟨dx, fs, ea, ed, hf⟩, k⟩ := h
    obtain ⟨xf, xc, no⟩ := T.eok hi
    refine ⟨_, PSs.nox (pss_cons (ps_set (i := 1) sc__law_marks.nd rfl (Or.inl rfl) (pe_lst (pa_cons (pe_callB call_isX (by rfl) T.f_isinstance (by decide +kernel) (pa_cons (pv 0) (pa_cons (pe_gref (T.g_BadName) (by rfl)) pa_nil))) (pa_cons (pe_callB call_isX (by rfl) T.f_isinstance (by decide +kernel) (pa_cons (pv 0) (pa_cons (pe_gref (T.g_BadPath) (by rfl)) pa_nil))) (pa_cons (pe_callB call_isX (by rfl) T.f_isinstance (by decide +kernel) (pa_cons (pv 0) (pa_cons (pe_gref (T.g_BadRef) (by rfl)) pa_nil))) (pa_cons (pe_callB call_isX (by rfl) T.f_isinstance (by decide +kernel) (pa_cons (pv 0) (pa_cons (pe_gref (T.g_BadChange) (by rfl)) pa_nil))) pa_nil))))))
      (pss_cons (ps_set (i := 1) sc__law_marks.nd rfl (Or.inl rfl) (pe_op op_cat (pv 1) (pe_lst (pa_cons (pe_callB call_isX (by rfl) T.f_isinstance (by decide +kernel) (pa_cons (pv 0) (pa_cons (pe_gref (T.g_BadMark) (by rfl)) pa_nil))) (pa_cons (pe_callB call_isX (by rfl) T.f_isinstance (by decide +kernel) (pa_cons (pv 0) (pa_cons (pe_gref (T.g_BadLetter) (by rfl)) pa_nil))) (pa_cons (pe_callB call_isX (by rfl) T.f_isinstance (by decide +kernel) (pa_cons (pv 0) (pa_cons (pe_gref (T.g_BadCommand) (by rfl)) pa_nil))) pa_nil))))))
      (pss_cons (ps_set (i := 1) sc__law_marks.nd rfl (Or.inl rfl) (pe_op op_cat (pv 1) (pe_lst (pa_cons (pe_callB call_isX (by rfl) T.f_isinstance (by decide +kernel) (pa_cons (pv 0) (pa_cons (pe_gref (T.g_Crash) (by rfl)) pa_nil))) (pa_cons (pe_callB call_isX (by rfl) T.f_isinstance (by decide +kernel) (pa_cons (pv 0) (pa_cons (pe_gref (T.g_Cut) (by rfl)) pa_nil))) (pa_cons (pe_callB call_isX (by rfl) T.f_isinstance (by decide +kernel) (pa_cons (pv 0) (pa_cons (pe_gref (T.g_BadObject) (by rfl)) pa_nil))) (pa_cons (pe_callB call_isX (by rfl) T.f_isinstance (by decide +kernel) (pa_cons (pv 0) (pa_cons (pe_gref (T.g_BadPack) (by rfl)) pa_nil))) pa_nil)))))))
      (pss_cons (ps_expr (pe_bm PySem.F.plainAttrs_list PySem.F.slot_list_append PySem.F.type_list_append mt_append (pv 1) (pa_cons (pe_callB call_isX (by rfl) T.f_isinstance (by decide +kernel) (pa_cons (pv 0) (pa_cons (pe_gref (T.g_BadExpression) (by rfl)) pa_nil))) pa_nil)))
      (pss_cons (ps_set (i := 1) sc__law_marks.nd rfl (Or.inl rfl) (pe_op op_cat (pv 1) (pe_lst (pa_cons (pe_callB call_isX (by rfl) T.f_isinstance (by decide +kernel) (pa_cons (pv 0) (pa_cons (pe_gref (T.g_Clash) (by rfl)) pa_nil))) (pa_cons (pe_callB call_isX (by rfl) T.f_isinstance (by decide +kernel) (pa_cons (pv 0) (pa_cons (pe_gref (T.g_Conflict) (by rfl)) pa_nil))) (pa_cons (pe_callB call_isX (by rfl) T.f_isinstance (by decide +kernel) (pa_cons (pv 0) (pa_cons (pe_gref (T.g_Locked) (by rfl)) pa_nil))) (pa_cons (pe_callB call_isX (by rfl) T.f_isinstance (by decide +kernel) (pa_cons (pv 0) (pa_cons (pe_gref (T.g_Stale) (by rfl)) pa_nil))) pa_nil)))))))
      (pss_one (ps_ret (pe_op op_cat (pv 1) (pe_lst (pa_cons (pe_callB call_isX (by rfl) T.f_isinstance (by decide +kernel) (pa_cons (pv 0) (pa_cons (pe_gref (T.g_NoObject) (by rfl)) pa_nil))) (pa_cons (pe_callB call_isX (by rfl) T.f_isinstance (by decide +kernel) (pa_cons (pv 0) (pa_cons (pe_gref (T.g_NoRef) (by rfl)) pa_nil))) pa_nil))))))))))), ?_⟩
    refine ⟨_, rfl, a, _, dx, fs, _, _, _, rfl, ea, ed, xc, .own _, T.kit hi 0, _, rfl, a, _, dx, fs, _, _, _, rfl, ea, ed, xc, .own _, T.kit hi 1, _, rfl, a, _, dx, fs, _, _, _, rfl, ea, ed, xc, .own _, T.kit hi 2, _, rfl, a, _, dx, fs, _, _, _, rfl, ea, ed, xc, .own _, T.kit hi 3, (by show 4 ≤ sizeLine; decide), fun p1 hp1 => ?_⟩
    have s1 := same_new hp1 (o := .lst [V.bl (decide (i = 0)), V.bl (decide (i = 1)), V.bl (decide (i = 2)), V.bl (decide (i = 3))])
    have e1 : upd H p1 (.lst [V.bl (decide (i = 0)), V.bl (decide (i = 1)), V.bl (decide (i = 2)), V.bl (decide (i = 3))]) p1 = _ := upd_same
    dsimp only
    generalize upd H p1 (.lst [V.bl (decide (i = 0)), V.bl (decide (i = 1)), V.bl (decide (i = 2)), V.bl (decide (i = 3))]) = H1 at s1 e1 ⊢
    have ea1 := s1 _ _ ea
    have ed1 := s1 _ _ ed
    refine ⟨_, rfl, _, rfl, a, _, dx, fs, _, _, _, rfl, ea1, ed1, xc, .own _, T.kit hi 4, _, rfl, a, _, dx, fs, _, _, _, rfl, ea1, ed1, xc, .own _, T.kit hi 5, _, rfl, a, _, dx, fs, _, _, _, rfl, ea1, ed1, xc, .own _, T.kit hi 6, (by show 3 ≤ sizeLine; decide), fun q2 hq2 => ?_⟩
    have t2 := same_new hq2 (o := .lst [V.bl (decide (i = 4)), V.bl (decide (i = 5)), V.bl (decide (i = 6))])
    have f2 : upd H1 q2 (.lst [V.bl (decide (i = 4)), V.bl (decide (i = 5)), V.bl (decide (i = 6))]) q2 = _ := upd_same
    dsimp only
    generalize upd H1 q2 (.lst [V.bl (decide (i = 4)), V.bl (decide (i = 5)), V.bl (decide (i = 6))]) = G2 at t2 f2 ⊢
    refine ⟨p1, q2, _, _, rfl, rfl, t2 _ _ e1, f2, (by show 7 ≤ sizeLine; decide), fun p2 hp2 => ?_⟩
    have s2 := (s1.trans t2).trans (same_new hp2 (o := .lst ([V.bl (decide (i = 0)), V.bl (decide (i = 1)), V.bl (decide (i = 2)), V.bl (decide (i = 3))] ++ [V.bl (decide (i = 4)), V.bl (decide (i = 5)), V.bl (decide (i = 6))])))
    have e2 : upd G2 p2 (.lst ([V.bl (decide (i = 0)), V.bl (decide (i = 1)), V.bl (decide (i = 2)), V.bl (decide (i = 3))] ++ [V.bl (decide (i = 4)), V.bl (decide (i = 5)), V.bl (decide (i = 6))])) p2 = _ := upd_same
    have n2 := sfree (s1.trans t2) hp2
    dsimp only
    generalize upd G2 p2 (.lst ([V.bl (decide (i = 0)), V.bl (decide (i = 1)), V.bl (decide (i = 2)), V.bl (decide (i = 3))] ++ [V.bl (decide (i = 4)), V.bl (decide (i = 5)), V.bl (decide (i = 6))])) = H2 at s2 e2 ⊢
    have ea2 := s2 _ _ ea
    have ed2 := s2 _ _ ed
    refine ⟨_, rfl, _, rfl, a, _, dx, fs, _, _, _, rfl, ea2, ed2, xc, .own _, T.kit hi 7, _, rfl, a, _, dx, fs, _, _, _, rfl, ea2, ed2, xc, .own _, T.kit hi 8, _, rfl, a, _, dx, fs, _, _, _, rfl, ea2, ed2, xc, .own _, T.kit hi 9, _, rfl, a, _, dx, fs, _, _, _, rfl, ea2, ed2, xc, .own _, T.kit hi 10, (by show 4 ≤ sizeLine; decide), fun q3 hq3 => ?_⟩
    have t3 := same_new hq3 (o := .lst [V.bl (decide (i = 7)), V.bl (decide (i = 8)), V.bl (decide (i = 9)), V.bl (decide (i = 10))])
    have f3 : upd H2 q3 (.lst [V.bl (decide (i = 7)), V.bl (decide (i = 8)), V.bl (decide (i = 9)), V.bl (decide (i = 10))]) q3 = _ := upd_same
    dsimp only
    generalize upd H2 q3 (.lst [V.bl (decide (i = 7)), V.bl (decide (i = 8)), V.bl (decide (i = 9)), V.bl (decide (i = 10))]) = G3 at t3 f3 ⊢
    refine ⟨p2, q3, _, _, rfl, rfl, t3 _ _ e2, f3, (by show 11 ≤ sizeLine; decide), fun p3 hp3 => ?_⟩
    have s3 := (s2.trans t3).trans (same_new hp3 (o := .lst (([V.bl (decide (i = 0)), V.bl (decide (i = 1)), V.bl (decide (i = 2)), V.bl (decide (i = 3))] ++ [V.bl (decide (i = 4)), V.bl (decide (i = 5)), V.bl (decide (i = 6))]) ++ [V.bl (decide (i = 7)), V.bl (decide (i = 8)), V.bl (decide (i = 9)), V.bl (decide (i = 10))])))
    have e3 : upd G3 p3 (.lst (([V.bl (decide (i = 0)), V.bl (decide (i = 1)), V.bl (decide (i = 2)), V.bl (decide (i = 3))] ++ [V.bl (decide (i = 4)), V.bl (decide (i = 5)), V.bl (decide (i = 6))]) ++ [V.bl (decide (i = 7)), V.bl (decide (i = 8)), V.bl (decide (i = 9)), V.bl (decide (i = 10))])) p3 = _ := upd_same
    have n3 := sfree (s2.trans t3) hp3
    dsimp only
    generalize upd G3 p3 (.lst (([V.bl (decide (i = 0)), V.bl (decide (i = 1)), V.bl (decide (i = 2)), V.bl (decide (i = 3))] ++ [V.bl (decide (i = 4)), V.bl (decide (i = 5)), V.bl (decide (i = 6))]) ++ [V.bl (decide (i = 7)), V.bl (decide (i = 8)), V.bl (decide (i = 9)), V.bl (decide (i = 10))])) = H3 at s3 e3 ⊢
    have ea3 := s3 _ _ ea
    have ed3 := s3 _ _ ed
    refine ⟨_, rfl, .inl ⟨rfl, _, SqL.of e3⟩, _, rfl, a, _, dx, fs, _, _, _, rfl, ea3, ed3, xc, .own _, T.kit hi 11, p3, _, _, rfl, rfl, e3, (by show 11 < sizeLine; decide), ?_⟩
    have s4 := same_mut s3 n3 (o := .lst (([V.bl (decide (i = 0)), V.bl (decide (i = 1)), V.bl (decide (i = 2)), V.bl (decide (i = 3))] ++ [V.bl (decide (i = 4)), V.bl (decide (i = 5)), V.bl (decide (i = 6))]) ++ [V.bl (decide (i = 7)), V.bl (decide (i = 8)), V.bl (decide (i = 9)), V.bl (decide (i = 10))] ++ [V.bl (decide (i = 11))]))
    have e4 : upd H3 p3 (.lst (([V.bl (decide (i = 0)), V.bl (decide (i = 1)), V.bl (decide (i = 2)), V.bl (decide (i = 3))] ++ [V.bl (decide (i = 4)), V.bl (decide (i = 5)), V.bl (decide (i = 6))]) ++ [V.bl (decide (i = 7)), V.bl (decide (i = 8)), V.bl (decide (i = 9)), V.bl (decide (i = 10))] ++ [V.bl (decide (i = 11))])) p3 = _ := upd_same
    dsimp only
    generalize upd H3 p3 (.lst (([V.bl (decide (i = 0)), V.bl (decide (i = 1)), V.bl (decide (i = 2)), V.bl (decide (i = 3))] ++ [V.bl (decide (i = 4)), V.bl (decide (i = 5)), V.bl (decide (i = 6))]) ++ [V.bl (decide (i = 7)), V.bl (decide (i = 8)), V.bl (decide (i = 9)), V.bl (decide (i = 10))] ++ [V.bl (decide (i = 11))])) = H4 at s4 e4 ⊢
    have ea4 := s4 _ _ ea
    have ed4 := s4 _ _ ed
    refine ⟨_, rfl, _, rfl, a, _, dx, fs, _, _, _, rfl, ea4, ed4, xc, .own _, T.kit hi 12, _, rfl, a, _, dx, fs, _, _, _, rfl, ea4, ed4, xc, .own _, T.kit hi 13, _, rfl, a, _, dx, fs, _, _, _, rfl, ea4, ed4, xc, .own _, T.kit hi 14, _, rfl, a, _, dx, fs, _, _, _, rfl, ea4, ed4, xc, .own _, T.kit hi 15, (by show 4 ≤ sizeLine; decide), fun q5 hq5 => ?_⟩
    have t5 := same_new hq5 (o := .lst [V.bl (decide (i = 12)), V.bl (decide (i = 13)), V.bl (decide (i = 14)), V.bl (decide (i = 15))])
    have f5 : upd H4 q5 (.lst [V.bl (decide (i = 12)), V.bl (decide (i = 13)), V.bl (decide (i = 14)), V.bl (decide (i = 15))]) q5 = _ := upd_same
    dsimp only
    generalize upd H4 q5 (.lst [V.bl (decide (i = 12)), V.bl (decide (i = 13)), V.bl (decide (i = 14)), V.bl (decide (i = 15))]) = G5 at t5 f5 ⊢
    refine ⟨p3, q5, _, _, rfl, rfl, t5 _ _ e4, f5, (by show 16 ≤ sizeLine; decide), fun p5 hp5 => ?_⟩
    have s5 := (s4.trans t5).trans (same_new hp5 (o := .lst ((([V.bl (decide (i = 0)), V.bl (decide (i = 1)), V.bl (decide (i = 2)), V.bl (decide (i = 3))] ++ [V.bl (decide (i = 4)), V.bl (decide (i = 5)), V.bl (decide (i = 6))]) ++ [V.bl (decide (i = 7)), V.bl (decide (i = 8)), V.bl (decide (i = 9)), V.bl (decide (i = 10))] ++ [V.bl (decide (i = 11))]) ++ [V.bl (decide (i = 12)), V.bl (decide (i = 13)), V.bl (decide (i = 14)), V.bl (decide (i = 15))])))
    have e5 : upd G5 p5 (.lst ((([V.bl (decide (i = 0)), V.bl (decide (i = 1)), V.bl (decide (i = 2)), V.bl (decide (i = 3))] ++ [V.bl (decide (i = 4)), V.bl (decide (i = 5)), V.bl (decide (i = 6))]) ++ [V.bl (decide (i = 7)), V.bl (decide (i = 8)), V.bl (decide (i = 9)), V.bl (decide (i = 10))] ++ [V.bl (decide (i = 11))]) ++ [V.bl (decide (i = 12)), V.bl (decide (i = 13)), V.bl (decide (i = 14)), V.bl (decide (i = 15))])) p5 = _ := upd_same
    have n5 := sfree (s4.trans t5) hp5
    dsimp only
    generalize upd G5 p5 (.lst ((([V.bl (decide (i = 0)), V.bl (decide (i = 1)), V.bl (decide (i = 2)), V.bl (decide (i = 3))] ++ [V.bl (decide (i = 4)), V.bl (decide (i = 5)), V.bl (decide (i = 6))]) ++ [V.bl (decide (i = 7)), V.bl (decide (i = 8)), V.bl (decide (i = 9)), V.bl (decide (i = 10))] ++ [V.bl (decide (i = 11))]) ++ [V.bl (decide (i = 12)), V.bl (decide (i = 13)), V.bl (decide (i = 14)), V.bl (decide (i = 15))])) = H5 at s5 e5 ⊢
    have ea5 := s5 _ _ ea
    have ed5 := s5 _ _ ed
    refine ⟨_, rfl, _, rfl, a, _, dx, fs, _, _, _, rfl, ea5, ed5, xc, .own _, T.kit hi 16, _, rfl, a, _, dx, fs, _, _, _, rfl, ea5, ed5, xc, .own _, T.kit hi 17, (by show 2 ≤ sizeLine; decide), fun q6 hq6 => ?_⟩
    have t6 := same_new hq6 (o := .lst [V.bl (decide (i = 16)), V.bl (decide (i = 17))])
    have f6 : upd H5 q6 (.lst [V.bl (decide (i = 16)), V.bl (decide (i = 17))]) q6 = _ := upd_same
    dsimp only
    generalize upd H5 q6 (.lst [V.bl (decide (i = 16)), V.bl (decide (i = 17))]) = G6 at t6 f6 ⊢
    refine ⟨p5, q6, _, _, rfl, rfl, t6 _ _ e5, f6, (by show 18 ≤ sizeLine; decide), fun p6 hp6 => ?_⟩
    have s6 := (s5.trans t6).trans (same_new hp6 (o := .lst (((([V.bl (decide (i = 0)), V.bl (decide (i = 1)), V.bl (decide (i = 2)), V.bl (decide (i = 3))] ++ [V.bl (decide (i = 4)), V.bl (decide (i = 5)), V.bl (decide (i = 6))]) ++ [V.bl (decide (i = 7)), V.bl (decide (i = 8)), V.bl (decide (i = 9)), V.bl (decide (i = 10))] ++ [V.bl (decide (i = 11))]) ++ [V.bl (decide (i = 12)), V.bl (decide (i = 13)), V.bl (decide (i = 14)), V.bl (decide (i = 15))]) ++ [V.bl (decide (i = 16)), V.bl (decide (i = 17))])))
    have e6 : upd G6 p6 (.lst (((([V.bl (decide (i = 0)), V.bl (decide (i = 1)), V.bl (decide (i = 2)), V.bl (decide (i = 3))] ++ [V.bl (decide (i = 4)), V.bl (decide (i = 5)), V.bl (decide (i = 6))]) ++ [V.bl (decide (i = 7)), V.bl (decide (i = 8)), V.bl (decide (i = 9)), V.bl (decide (i = 10))] ++ [V.bl (decide (i = 11))]) ++ [V.bl (decide (i = 12)), V.bl (decide (i = 13)), V.bl (decide (i = 14)), V.bl (decide (i = 15))]) ++ [V.bl (decide (i = 16)), V.bl (decide (i = 17))])) p6 = _ := upd_same
    have n6 := sfree (s5.trans t6) hp6
    exact k p6 _ n6 s6 e6
theorem eqF {c : Bool} {A B : Prop} (h : c = false) (b : B) : if c = true then A else B := by
  subst h
  exact iteF b
theorem eqT {c : Bool} {A B : Prop} (h : c = true) (a : A) : if c = true then A else B := by
  subst h
  exact iteT a
theorem Ctx.bF (T : Ctx K mg) {i : Nat} (hi : i < 19) : PySem.W.kitOne K (.ref (He.ga K (nm i))) (.ref (He.ga K "ForkError")) = some (decide (i ≠ 16 ∧ i ≠ 17)) := by
  rw [T.kit0 (nm_mem i hi) (by decide +kernel), kitF_base i hi]
theorem Ctx.bV (T : Ctx K mg) {i : Nat} (hi : i < 19) : PySem.W.kitOne K (.ref (He.ga K (nm i))) (.type "ValueError") = some (decide (i ≠ 16 ∧ i ≠ 17)) := by
  rw [T.kitB (nm_mem i hi) (by decide +kernel), kitG_V i hi]
theorem Ctx.bK (T : Ctx K mg) {i : Nat} (hi : i < 19) : PySem.W.kitOne K (.ref (He.ga K (nm i))) (.type "KeyError") = some (decide (i = 16 ∨ i = 17)) := by
  rw [T.kitB (nm_mem i hi) (by decide +kernel), kitG_K i hi]
theorem Ctx.bI (T : Ctx K mg) {i : Nat} (hi : i < 19) : PySem.W.kitOne K (.ref (He.ga K (nm i))) (.type "IndexError") = some false := by
  rw [T.kitB (nm_mem i hi) (by decide +kernel), (kitG_o i hi).1]
theorem Ctx.bR (T : Ctx K mg) {i : Nat} (hi : i < 19) : PySem.W.kitOne K (.ref (He.ga K (nm i))) (.type "RuntimeError") = some false := by
  rw [T.kitB (nm_mem i hi) (by decide +kernel), (kitG_o i hi).2.1]
theorem Ctx.bT (T : Ctx K mg) {i : Nat} (hi : i < 19) : PySem.W.kitOne K (.ref (He.ga K (nm i))) (.type "TypeError") = some false := by
  rw [T.kitB (nm_mem i hi) (by decide +kernel), (kitG_o i hi).2.2]
def bases (i : Nat) : List Bool := [decide (i ≠ 16 ∧ i ≠ 17), decide (i ≠ 16 ∧ i ≠ 17), decide (i = 16 ∨ i = 17), false, false, false]
def spBases (K : PySem.W.Frag) : Sp := fun vs H Q _ => ∃ (a : Addr) (i : Nat) (v : V), vs = [.ref a] ∧ i < 19 ∧ Er K H a i v ∧ ∀ (p : Addr) (H' : Hp), H p = none → Same H H' → H' p = some (.lst ((bases i).map V.bl)) → Q (.ref p) H'
def N__law_bases : List Str := ["_law_e", "_law_found"]
theorem sc__law_bases : FnScope N__law_bases ["_law_e"] (defScope s__law_bases) := ⟨rfl, rfl, rfl, by decide +kernel, rfl, by decide +kernel, by decide +kernel⟩
theorem ok__law_bases (T : Ctx K mg) : Ok P w K mg base 1 "_law_bases" ["_law_e"] (spBases K) := by
  obtain ⟨fd, F⟩ := T.c.def_ 11 (d := d__law_bases) rfl
  refine ⟨⟨fd, F.ok sc__law_bases (fun vs H Q E h => ?_) (fun cdv A outer s H vs Q E hr h => ?_), F.bindsN fun _ _ _ _ _ _ us hl => match us, hl with | [_], _ => rfl⟩, F.kp, T.g__law_bases⟩
  · obtain ⟨a, i, v, rfl, _⟩ := h
    rfl
  · obtain ⟨a, i, v, rfl, hi, ⟨dx, fs, ea, ed, hf⟩, k⟩ := h
    obtain ⟨xf, xc, no⟩ := T.eok hi
    refine ⟨_, PSs.nox (pss_cons (ps_set (i := 1) sc__law_bases.nd rfl (Or.inl rfl) (pe_lst (pa_cons (pe_callB call_isX (by rfl) T.f_isinstance (by decide +kernel) (pa_cons (pv 0) (pa_cons (pe_gref (T.g_ForkError) (by rfl)) pa_nil))) (pa_cons (pe_callB call_isX (by rfl) T.f_isinstance (by decide +kernel) (pa_cons (pv 0) (pa_cons (pe_bltn (v := .ty "ValueError") (u := .type "ValueError") (by rfl) T.f_ValueError (by decide +kernel) rfl) pa_nil))) (pa_cons (pe_callB call_isX (by rfl) T.f_isinstance (by decide +kernel) (pa_cons (pv 0) (pa_cons (pe_bltn (v := .ty "KeyError") (u := .type "KeyError") (by rfl) T.f_KeyError (by decide +kernel) rfl) pa_nil))) pa_nil)))))
      (pss_one (ps_ret (pe_op op_cat (pv 1) (pe_lst (pa_cons (pe_callB call_isX (by rfl) T.f_isinstance (by decide +kernel) (pa_cons (pv 0) (pa_cons (pe_bltn (v := .ty "IndexError") (u := .type "IndexError") (by rfl) T.f_IndexError (by decide +kernel) rfl) pa_nil))) (pa_cons (pe_callB call_isX (by rfl) T.f_isinstance (by decide +kernel) (pa_cons (pv 0) (pa_cons (pe_bltn (v := .ty "RuntimeError") (u := .type "RuntimeError") (by rfl) T.f_RuntimeError (by decide +kernel) rfl) pa_nil))) (pa_cons (pe_callB call_isX (by rfl) T.f_isinstance (by decide +kernel) (pa_cons (pv 0) (pa_cons (pe_bltn (v := .ty "TypeError") (u := .type "TypeError") (by rfl) T.f_TypeError (by decide +kernel) rfl) pa_nil))) pa_nil)))))))), ?_⟩
    refine ⟨_, rfl, a, _, dx, fs, _, _, _, rfl, ea, ed, xc, .own _, T.bF hi, _, rfl, a, _, dx, fs, _, _, _, rfl, ea, ed, xc, .ty "ValueError", T.bV hi, _, rfl, a, _, dx, fs, _, _, _, rfl, ea, ed, xc, .ty "KeyError", T.bK hi, (by show 3 ≤ sizeLine; decide), fun p1 hp1 => ?_⟩
    have s1 := same_new hp1 (o := .lst [V.bl (decide (i ≠ 16 ∧ i ≠ 17)), V.bl (decide (i ≠ 16 ∧ i ≠ 17)), V.bl (decide (i = 16 ∨ i = 17))])
    have e1 : upd H p1 (.lst [V.bl (decide (i ≠ 16 ∧ i ≠ 17)), V.bl (decide (i ≠ 16 ∧ i ≠ 17)), V.bl (decide (i = 16 ∨ i = 17))]) p1 = _ := upd_same
    dsimp only
    generalize upd H p1 (.lst [V.bl (decide (i ≠ 16 ∧ i ≠ 17)), V.bl (decide (i ≠ 16 ∧ i ≠ 17)), V.bl (decide (i = 16 ∨ i = 17))]) = H1 at s1 e1 ⊢
    have ea1 := s1 _ _ ea
    have ed1 := s1 _ _ ed
    refine ⟨_, rfl, _, rfl, a, _, dx, fs, _, _, _, rfl, ea1, ed1, xc, .ty "IndexError", T.bI hi, _, rfl, a, _, dx, fs, _, _, _, rfl, ea1, ed1, xc, .ty "RuntimeError", T.bR hi, _, rfl, a, _, dx, fs, _, _, _, rfl, ea1, ed1, xc, .ty "TypeError", T.bT hi, (by show 3 ≤ sizeLine; decide), fun q2 hq2 => ?_⟩
    have t2 := same_new hq2 (o := .lst [V.bl false, V.bl false, V.bl false])
    have f2 : upd H1 q2 (.lst [V.bl false, V.bl false, V.bl false]) q2 = _ := upd_same
    dsimp only
    generalize upd H1 q2 (.lst [V.bl false, V.bl false, V.bl false]) = G2 at t2 f2 ⊢
    refine ⟨p1, q2, _, _, rfl, rfl, t2 _ _ e1, f2, (by show 6 ≤ sizeLine; decide), fun p2 hp2 => ?_⟩
    exact k p2 _ (sfree (s1.trans t2) hp2) ((s1.trans t2).trans (same_new hp2)) upd_same
/-! ### makers -/
theorem er_new {H : Hp} {a dx : Addr} {i : Nat} {C : Addr} {fs : List (Str × V)} {v : V} (h1 : H a = none) (h2 : H dx = none) (h3 : dx ≠ a) (hC : C = He.ga K (nm i)) (hl : fs.lookup (fl i) = some v) :
    Same H (upd (upd H dx (exd dx fs)) a (exo a C (some dx))) ∧ Er K (upd (upd H dx (exd dx fs)) a (exo a C (some dx))) a i v := by
  subst hC
  refine ⟨fun b o e => ?_, dx, fs, upd_same, by rw [upd_ne h3, upd_same], hl⟩
  rw [upd_ne (ne_of_none e h1), upd_ne (ne_of_none e h2)]
  exact e
def spMade (K : PySem.W.Frag) (lo hi : Nat) : Sp := fun vs H Q _ => ∃ (j : Nat) (v : V), vs = [.int (j : Int), v] ∧ lo ≤ j ∧ j < hi ∧ ∀ (a : Addr) (H' : Hp), H a = none → Same H H' → Er K H' a j v → Q (.ref a) H'
def N__law_plain : List Str := ["_law_way", "_law_thing"]
theorem sc__law_plain : FnScope N__law_plain ["_law_way", "_law_thing"] (defScope s__law_plain) := ⟨rfl, rfl, rfl, by decide +kernel, rfl, by decide +kernel, by decide +kernel⟩
theorem ok__law_plain (T : Ctx K mg) : Ok PP w K mg base 4 "_law_plain" ["_law_way", "_law_thing"] (spMade K 0 9) := by
  obtain ⟨fd, F⟩ := T.c.def_ 12 (d := d__law_plain) rfl
  refine ⟨⟨fd, F.ok sc__law_plain (fun vs H Q E h => ?_) (fun cdv A outer s H vs Q E hr h => ?_), F.bindsN fun _ _ _ _ _ _ us hl => match us, hl with | [_, _], _ => rfl⟩, F.kp, T.g__law_plain⟩
  · obtain ⟨j, v, rfl, _⟩ := h
    rfl
  · obtain ⟨j, v, rfl, hlo, hhi, k⟩ := h
    refine ⟨_, PSs.nox (pss_cons (ps_if (pt_cmpR op_eq (pv 0) pe_int (nomark _))
        (pss_one (ps_ret (pe_mkE (mk_BadName T) (hr.mono (by decide)) (by rfl) T.g_BadName (pv 1))))
        pss_nil)
      (pss_cons (ps_if (pt_cmpR op_eq (pv 0) pe_int (nomark _))
        (pss_one (ps_ret (pe_mkEk (mk_BadPath T) (hr.mono (by decide)) (by rfl) T.g_BadPath (pv 1))))
        pss_nil)
      (pss_cons (ps_if (pt_cmpR op_eq (pv 0) pe_int (nomark _))
        (pss_one (ps_ret (pe_mkE (mk_BadRef T) (hr.mono (by decide)) (by rfl) T.g_BadRef (pv 1))))
        pss_nil)
      (pss_cons (ps_if (pt_cmpR op_eq (pv 0) pe_int (nomark _))
        (pss_one (ps_ret (pe_mkEk (mk_BadChange T) (hr.mono (by decide)) (by rfl) T.g_BadChange (pv 1))))
        pss_nil)
      (pss_cons (ps_if (pt_cmpR op_eq (pv 0) pe_int (nomark _))
        (pss_one (ps_ret (pe_mkE (mk_BadMark T) (hr.mono (by decide)) (by rfl) T.g_BadMark (pv 1))))
        pss_nil)
      (pss_cons (ps_if (pt_cmpR op_eq (pv 0) pe_int (nomark _))
        (pss_one (ps_ret (pe_mkEk (mk_BadLetter T) (hr.mono (by decide)) (by rfl) T.g_BadLetter (pv 1))))
        pss_nil)
      (pss_cons (ps_if (pt_cmpR op_eq (pv 0) pe_int (nomark _))
        (pss_one (ps_ret (pe_mkE (mk_BadCommand T) (hr.mono (by decide)) (by rfl) T.g_BadCommand (pv 1))))
        pss_nil)
      (pss_cons (ps_if (pt_cmpR op_eq (pv 0) pe_int (nomark _))
        (pss_one (ps_ret (pe_mkEk (mk_Crash T) (hr.mono (by decide)) (by rfl) T.g_Crash (pv 1))))
        pss_nil)
      (pss_one (ps_ret (pe_mkE (mk_Cut T) (hr.mono (by decide)) (by rfl) T.g_Cut (pv 1)))))))))))), ?_⟩
    have fin : ∀ (a dx : Addr) (C : Addr) (fs : List (Str × V)), H a = none → H dx = none → dx ≠ a → C = He.ga K (nm j) → fs.lookup (fl j) = some v → Q (.ref a) (upd (upd H dx (exd dx fs)) a (exo a C (some dx))) := fun a dx C fs h1 h2 h3 h4 h5 => k a _ h1 (er_new h1 h2 h3 h4 h5).1 (er_new h1 h2 h3 h4 h5).2
    clear k
    have cs : j = 0 ∨ j = 1 ∨ j = 2 ∨ j = 3 ∨ j = 4 ∨ j = 5 ∨ j = 6 ∨ j = 7 ∨ j = 8 := by omega
    rcases cs with rfl | rfl | rfl | rfl | rfl | rfl | rfl | rfl | rfl
    · exact ⟨_, rfl, rfl, _, rfl, eqT (by decide) ⟨_, rfl, v, rfl, fun a dx h1 h2 h3 => fin a dx _ _ h1 h2 h3 rfl rfl⟩⟩
    · exact ⟨_, rfl, rfl, _, rfl, eqF (by decide) ⟨_, rfl, rfl, _, rfl, eqT (by decide) ⟨_, rfl, v, rfl, fun a dx h1 h2 h3 => fin a dx _ _ h1 h2 h3 rfl rfl⟩⟩⟩
    · exact ⟨_, rfl, rfl, _, rfl, eqF (by decide) ⟨_, rfl, rfl, _, rfl, eqF (by decide) ⟨_, rfl, rfl, _, rfl, eqT (by decide) ⟨_, rfl, v, rfl, fun a dx h1 h2 h3 => fin a dx _ _ h1 h2 h3 rfl rfl⟩⟩⟩⟩
    · exact ⟨_, rfl, rfl, _, rfl, eqF (by decide) ⟨_, rfl, rfl, _, rfl, eqF (by decide) ⟨_, rfl, rfl, _, rfl, eqF (by decide) ⟨_, rfl, rfl, _, rfl, eqT (by decide) ⟨_, rfl, v, rfl, fun a dx h1 h2 h3 => fin a dx _ _ h1 h2 h3 rfl rfl⟩⟩⟩⟩⟩
    · exact ⟨_, rfl, rfl, _, rfl, eqF (by decide) ⟨_, rfl, rfl, _, rfl, eqF (by decide) ⟨_, rfl, rfl, _, rfl, eqF (by decide) ⟨_, rfl, rfl, _, rfl, eqF (by decide) ⟨_, rfl, rfl, _, rfl, eqT (by decide) ⟨_, rfl, v, rfl, fun a dx h1 h2 h3 => fin a dx _ _ h1 h2 h3 rfl rfl⟩⟩⟩⟩⟩⟩
    · exact ⟨_, rfl, rfl, _, rfl, eqF (by decide) ⟨_, rfl, rfl, _, rfl, eqF (by decide) ⟨_, rfl, rfl, _, rfl, eqF (by decide) ⟨_, rfl, rfl, _, rfl, eqF (by decide) ⟨_, rfl, rfl, _, rfl, eqF (by decide) ⟨_, rfl, rfl, _, rfl, eqT (by decide) ⟨_, rfl, v, rfl, fun a dx h1 h2 h3 => fin a dx _ _ h1 h2 h3 rfl rfl⟩⟩⟩⟩⟩⟩⟩
    · exact ⟨_, rfl, rfl, _, rfl, eqF (by decide) ⟨_, rfl, rfl, _, rfl, eqF (by decide) ⟨_, rfl, rfl, _, rfl, eqF (by decide) ⟨_, rfl, rfl, _, rfl, eqF (by decide) ⟨_, rfl, rfl, _, rfl, eqF (by decide) ⟨_, rfl, rfl, _, rfl, eqF (by decide) ⟨_, rfl, rfl, _, rfl, eqT (by decide) ⟨_, rfl, v, rfl, fun a dx h1 h2 h3 => fin a dx _ _ h1 h2 h3 rfl rfl⟩⟩⟩⟩⟩⟩⟩⟩
    · exact ⟨_, rfl, rfl, _, rfl, eqF (by decide) ⟨_, rfl, rfl, _, rfl, eqF (by decide) ⟨_, rfl, rfl, _, rfl, eqF (by decide) ⟨_, rfl, rfl, _, rfl, eqF (by decide) ⟨_, rfl, rfl, _, rfl, eqF (by decide) ⟨_, rfl, rfl, _, rfl, eqF (by decide) ⟨_, rfl, rfl, _, rfl, eqF (by decide) ⟨_, rfl, rfl, _, rfl, eqT (by decide) ⟨_, rfl, v, rfl, fun a dx h1 h2 h3 => fin a dx _ _ h1 h2 h3 rfl rfl⟩⟩⟩⟩⟩⟩⟩⟩⟩
    · exact ⟨_, rfl, rfl, _, rfl, eqF (by decide) ⟨_, rfl, rfl, _, rfl, eqF (by decide) ⟨_, rfl, rfl, _, rfl, eqF (by decide) ⟨_, rfl, rfl, _, rfl, eqF (by decide) ⟨_, rfl, rfl, _, rfl, eqF (by decide) ⟨_, rfl, rfl, _, rfl, eqF (by decide) ⟨_, rfl, rfl, _, rfl, eqF (by decide) ⟨_, rfl, rfl, _, rfl, eqF (by decide) ⟨_, rfl, v, rfl, fun a dx h1 h2 h3 => fin a dx _ _ h1 h2 h3 rfl rfl⟩⟩⟩⟩⟩⟩⟩⟩⟩
def N__law_fielded : List Str := ["_law_way", "_law_thing"]
theorem sc__law_fielded : FnScope N__law_fielded ["_law_way", "_law_thing"] (defScope s__law_fielded) := ⟨rfl, rfl, rfl, by decide +kernel, rfl, by decide +kernel, by decide +kernel⟩
theorem ok__law_fielded (T : Ctx K mg) : Ok PP w K mg base 4 "_law_fielded" ["_law_way", "_law_thing"] (spMade K 9 18) := by
  obtain ⟨fd, F⟩ := T.c.def_ 13 (d := d__law_fielded) rfl
  refine ⟨⟨fd, F.ok sc__law_fielded (fun vs H Q E h => ?_) (fun cdv A outer s H vs Q E hr h => ?_), F.bindsN fun _ _ _ _ _ _ us hl => match us, hl with | [_, _], _ => rfl⟩, F.kp, T.g__law_fielded⟩
  · obtain ⟨j, v, rfl, _⟩ := h
    rfl
  · obtain ⟨j, v, rfl, hlo, hhi, k⟩ := h
    refine ⟨_, PSs.nox (pss_cons (ps_if (pt_cmpR op_eq (pv 0) pe_int (nomark _))
        (pss_one (ps_ret (pe_mkEk (mk_BadObject T) (hr.mono (by decide)) (by rfl) T.g_BadObject (pv 1))))
        pss_nil)
      (pss_cons (ps_if (pt_cmpR op_eq (pv 0) pe_int (nomark _))
        (pss_one (ps_ret (pe_mkE (mk_BadPack T) (hr.mono (by decide)) (by rfl) T.g_BadPack (pv 1))))
        pss_nil)
      (pss_cons (ps_if (pt_cmpR op_eq (pv 0) pe_int (nomark _))
        (pss_one (ps_ret (pe_mkEk (mk_BadExpression T) (hr.mono (by decide)) (by rfl) T.g_BadExpression (pv 1))))
        pss_nil)
      (pss_cons (ps_if (pt_cmpR op_eq (pv 0) pe_int (nomark _))
        (pss_one (ps_ret (pe_mkEk (mk_Clash T) (hr.mono (by decide)) (by rfl) T.g_Clash (pv 1))))
        pss_nil)
      (pss_cons (ps_if (pt_cmpR op_eq (pv 0) pe_int (nomark _))
        (pss_one (ps_ret (pe_mkE (mk_Conflict T) (hr.mono (by decide)) (by rfl) T.g_Conflict (pv 1))))
        pss_nil)
      (pss_cons (ps_if (pt_cmpR op_eq (pv 0) pe_int (nomark _))
        (pss_one (ps_ret (pe_mkEk (mk_Locked T) (hr.mono (by decide)) (by rfl) T.g_Locked (pv 1))))
        pss_nil)
      (pss_cons (ps_if (pt_cmpR op_eq (pv 0) pe_int (nomark _))
        (pss_one (ps_ret (pe_mkE (mk_Stale T) (hr.mono (by decide)) (by rfl) T.g_Stale (pv 1))))
        pss_nil)
      (pss_cons (ps_if (pt_cmpR op_eq (pv 0) pe_int (nomark _))
        (pss_one (ps_ret (pe_mkEk (mk_NoObject T) (hr.mono (by decide)) (by rfl) T.g_NoObject (pv 1))))
        pss_nil)
      (pss_one (ps_ret (pe_mkE (mk_NoRef T) (hr.mono (by decide)) (by rfl) T.g_NoRef (pv 1)))))))))))), ?_⟩
    have fin : ∀ (a dx : Addr) (C : Addr) (fs : List (Str × V)), H a = none → H dx = none → dx ≠ a → C = He.ga K (nm j) → fs.lookup (fl j) = some v → Q (.ref a) (upd (upd H dx (exd dx fs)) a (exo a C (some dx))) := fun a dx C fs h1 h2 h3 h4 h5 => k a _ h1 (er_new h1 h2 h3 h4 h5).1 (er_new h1 h2 h3 h4 h5).2
    clear k
    have cs : j = 9 ∨ j = 10 ∨ j = 11 ∨ j = 12 ∨ j = 13 ∨ j = 14 ∨ j = 15 ∨ j = 16 ∨ j = 17 := by omega
    rcases cs with rfl | rfl | rfl | rfl | rfl | rfl | rfl | rfl | rfl
    · exact ⟨_, rfl, rfl, _, rfl, eqT (by decide) ⟨_, rfl, v, rfl, fun a dx h1 h2 h3 => fin a dx _ _ h1 h2 h3 rfl rfl⟩⟩
    · exact ⟨_, rfl, rfl, _, rfl, eqF (by decide) ⟨_, rfl, rfl, _, rfl, eqT (by decide) ⟨_, rfl, v, rfl, fun a dx h1 h2 h3 => fin a dx _ _ h1 h2 h3 rfl rfl⟩⟩⟩
    · exact ⟨_, rfl, rfl, _, rfl, eqF (by decide) ⟨_, rfl, rfl, _, rfl, eqF (by decide) ⟨_, rfl, rfl, _, rfl, eqT (by decide) ⟨_, rfl, v, rfl, fun a dx h1 h2 h3 => fin a dx _ _ h1 h2 h3 rfl rfl⟩⟩⟩⟩
    · exact ⟨_, rfl, rfl, _, rfl, eqF (by decide) ⟨_, rfl, rfl, _, rfl, eqF (by decide) ⟨_, rfl, rfl, _, rfl, eqF (by decide) ⟨_, rfl, rfl, _, rfl, eqT (by decide) ⟨_, rfl, v, rfl, fun a dx h1 h2 h3 => fin a dx _ _ h1 h2 h3 rfl rfl⟩⟩⟩⟩⟩
    · exact ⟨_, rfl, rfl, _, rfl, eqF (by decide) ⟨_, rfl, rfl, _, rfl, eqF (by decide) ⟨_, rfl, rfl, _, rfl, eqF (by decide) ⟨_, rfl, rfl, _, rfl, eqF (by decide) ⟨_, rfl, rfl, _, rfl, eqT (by decide) ⟨_, rfl, v, rfl, fun a dx h1 h2 h3 => fin a dx _ _ h1 h2 h3 rfl rfl⟩⟩⟩⟩⟩⟩
    · exact ⟨_, rfl, rfl, _, rfl, eqF (by decide) ⟨_, rfl, rfl, _, rfl, eqF (by decide) ⟨_, rfl, rfl, _, rfl, eqF (by decide) ⟨_, rfl, rfl, _, rfl, eqF (by decide) ⟨_, rfl, rfl, _, rfl, eqF (by decide) ⟨_, rfl, rfl, _, rfl, eqT (by decide) ⟨_, rfl, v, rfl, fun a dx h1 h2 h3 => fin a dx _ _ h1 h2 h3 rfl rfl⟩⟩⟩⟩⟩⟩⟩
    · exact ⟨_, rfl, rfl, _, rfl, eqF (by decide) ⟨_, rfl, rfl, _, rfl, eqF (by decide) ⟨_, rfl, rfl, _, rfl, eqF (by decide) ⟨_, rfl, rfl, _, rfl, eqF (by decide) ⟨_, rfl, rfl, _, rfl, eqF (by decide) ⟨_, rfl, rfl, _, rfl, eqF (by decide) ⟨_, rfl, rfl, _, rfl, eqT (by decide) ⟨_, rfl, v, rfl, fun a dx h1 h2 h3 => fin a dx _ _ h1 h2 h3 rfl rfl⟩⟩⟩⟩⟩⟩⟩⟩
    · exact ⟨_, rfl, rfl, _, rfl, eqF (by decide) ⟨_, rfl, rfl, _, rfl, eqF (by decide) ⟨_, rfl, rfl, _, rfl, eqF (by decide) ⟨_, rfl, rfl, _, rfl, eqF (by decide) ⟨_, rfl, rfl, _, rfl, eqF (by decide) ⟨_, rfl, rfl, _, rfl, eqF (by decide) ⟨_, rfl, rfl, _, rfl, eqF (by decide) ⟨_, rfl, rfl, _, rfl, eqT (by decide) ⟨_, rfl, v, rfl, fun a dx h1 h2 h3 => fin a dx _ _ h1 h2 h3 rfl rfl⟩⟩⟩⟩⟩⟩⟩⟩⟩
    · exact ⟨_, rfl, rfl, _, rfl, eqF (by decide) ⟨_, rfl, rfl, _, rfl, eqF (by decide) ⟨_, rfl, rfl, _, rfl, eqF (by decide) ⟨_, rfl, rfl, _, rfl, eqF (by decide) ⟨_, rfl, rfl, _, rfl, eqF (by decide) ⟨_, rfl, rfl, _, rfl, eqF (by decide) ⟨_, rfl, rfl, _, rfl, eqF (by decide) ⟨_, rfl, rfl, _, rfl, eqF (by decide) ⟨_, rfl, v, rfl, fun a dx h1 h2 h3 => fin a dx _ _ h1 h2 h3 rfl rfl⟩⟩⟩⟩⟩⟩⟩⟩⟩
end
end K02
namespace K02
open PySem PySem.Spec PyProof.Rows L2 Fk TL
section
variable {P : Program} {w : World} {K : PySem.W.Frag} {mg : Str → Option Value} {base : Heap}
/-! ### the field -/
def spField (K : PySem.W.Frag) : Sp := fun vs H Q _ => ∃ (a : Addr) (j : Nat) (v : V), vs = [.ref a, .int (j : Int)] ∧ j < 18 ∧ Er K H a j v ∧ ∀ H', Same H H' → Q v H'
def N__law_field : List Str := ["_law_e", "_law_way"]
theorem sc__law_field : FnScope N__law_field ["_law_e", "_law_way"] (defScope s__law_field) := ⟨rfl, rfl, rfl, by decide +kernel, rfl, by decide +kernel, by decide +kernel⟩
theorem ok__law_field (T : Ctx K mg) : Ok P w K mg base 1 "_law_field" ["_law_e", "_law_way"] (spField K) := by
  obtain ⟨fd, F⟩ := T.c.def_ 14 (d := d__law_field) rfl
  refine ⟨⟨fd, F.ok sc__law_field (fun vs H Q E h => ?_) (fun cdv A outer s H vs Q E hr h => ?_), F.bindsN fun _ _ _ _ _ _ us hl => match us, hl with | [_, _], _ => rfl⟩, F.kp, T.g__law_field⟩
  · obtain ⟨a, j, v, rfl, _⟩ := h
    rfl
  · obtain ⟨a, j, v, rfl, hj, ⟨dx, fs, ea, ed, hf⟩, k⟩ := h
    obtain ⟨xf, xc, no⟩ := T.eok (show j < 19 by omega)
    refine ⟨_, PSs.nox (pss_cons (ps_if (pt_cmpR op_lt (pv 1) pe_int (nomark _))
        (pss_one (ps_ret (pe_fx (pv 0))))
        pss_nil)
      (pss_cons (ps_if (pt_cmpR op_lt (pv 1) pe_int (nomark _))
        (pss_one (ps_ret (pe_fx (pv 0))))
        pss_nil)
      (pss_cons (ps_if (pt_cmpR op_eq (pv 1) pe_int (nomark _))
        (pss_one (ps_ret (pe_fx (pv 0))))
        pss_nil)
      (pss_cons (ps_if (pt_cmpR op_in_seq (pv 1) (pe_tup (pa_cons pe_int (pa_cons pe_int pa_nil))) (by rfl))
        (pss_one (ps_ret (pe_fx (pv 0))))
        pss_nil)
      (pss_one (ps_ret (pe_fx (pv 0)))))))), ?_⟩
    have cs : j = 0 ∨ j = 1 ∨ j = 2 ∨ j = 3 ∨ j = 4 ∨ j = 5 ∨ j = 6 ∨ j = 7 ∨ j = 8 ∨ j = 9 ∨ j = 10 ∨ j = 11 ∨ j = 12 ∨ j = 13 ∨ j = 14 ∨ j = 15 ∨ j = 16 ∨ j = 17 := by omega
    rcases cs with rfl | rfl | rfl | rfl | rfl | rfl | rfl | rfl | rfl | rfl | rfl | rfl | rfl | rfl | rfl | rfl | rfl | rfl
    · exact ⟨_, rfl, _, _, rfl, rfl, _, rfl, eqT (by decide) ⟨_, rfl, a, _, dx, fs, v, rfl, ea, ed, xf, no, hf, k _ (Same.refl _)⟩⟩
    · exact ⟨_, rfl, _, _, rfl, rfl, _, rfl, eqT (by decide) ⟨_, rfl, a, _, dx, fs, v, rfl, ea, ed, xf, no, hf, k _ (Same.refl _)⟩⟩
    · exact ⟨_, rfl, _, _, rfl, rfl, _, rfl, eqT (by decide) ⟨_, rfl, a, _, dx, fs, v, rfl, ea, ed, xf, no, hf, k _ (Same.refl _)⟩⟩
    · exact ⟨_, rfl, _, _, rfl, rfl, _, rfl, eqT (by decide) ⟨_, rfl, a, _, dx, fs, v, rfl, ea, ed, xf, no, hf, k _ (Same.refl _)⟩⟩
    · exact ⟨_, rfl, _, _, rfl, rfl, _, rfl, eqT (by decide) ⟨_, rfl, a, _, dx, fs, v, rfl, ea, ed, xf, no, hf, k _ (Same.refl _)⟩⟩
    · exact ⟨_, rfl, _, _, rfl, rfl, _, rfl, eqT (by decide) ⟨_, rfl, a, _, dx, fs, v, rfl, ea, ed, xf, no, hf, k _ (Same.refl _)⟩⟩
    · exact ⟨_, rfl, _, _, rfl, rfl, _, rfl, eqT (by decide) ⟨_, rfl, a, _, dx, fs, v, rfl, ea, ed, xf, no, hf, k _ (Same.refl _)⟩⟩
    · exact ⟨_, rfl, _, _, rfl, rfl, _, rfl, eqT (by decide) ⟨_, rfl, a, _, dx, fs, v, rfl, ea, ed, xf, no, hf, k _ (Same.refl _)⟩⟩
    · exact ⟨_, rfl, _, _, rfl, rfl, _, rfl, eqT (by decide) ⟨_, rfl, a, _, dx, fs, v, rfl, ea, ed, xf, no, hf, k _ (Same.refl _)⟩⟩
    · exact ⟨_, rfl, _, _, rfl, rfl, _, rfl, eqF (by decide) ⟨_, rfl, _, _, rfl, rfl, _, rfl, eqT (by decide) ⟨_, rfl, a, _, dx, fs, v, rfl, ea, ed, xf, no, hf, k _ (Same.refl _)⟩⟩⟩
    · exact ⟨_, rfl, _, _, rfl, rfl, _, rfl, eqF (by decide) ⟨_, rfl, _, _, rfl, rfl, _, rfl, eqT (by decide) ⟨_, rfl, a, _, dx, fs, v, rfl, ea, ed, xf, no, hf, k _ (Same.refl _)⟩⟩⟩
    · exact ⟨_, rfl, _, _, rfl, rfl, _, rfl, eqF (by decide) ⟨_, rfl, _, _, rfl, rfl, _, rfl, eqT (by decide) ⟨_, rfl, a, _, dx, fs, v, rfl, ea, ed, xf, no, hf, k _ (Same.refl _)⟩⟩⟩
    · exact ⟨_, rfl, _, _, rfl, rfl, _, rfl, eqF (by decide) ⟨_, rfl, _, _, rfl, rfl, _, rfl, eqF (by decide) ⟨_, rfl, rfl, _, rfl, eqF (by decide) ⟨_, rfl, (by show 2 ≤ sizeLine; decide), fun p hp => ⟨p, _, rfl, .inr (SqT.of upd_same), rfl, rfl, _, rfl, eqF (by decide) ⟨_, rfl, a, _, dx, fs, v, rfl, same_new hp _ _ ea, same_new hp _ _ ed, xf, no, hf, k _ (same_new hp)⟩⟩⟩⟩⟩⟩
    · exact ⟨_, rfl, _, _, rfl, rfl, _, rfl, eqF (by decide) ⟨_, rfl, _, _, rfl, rfl, _, rfl, eqF (by decide) ⟨_, rfl, rfl, _, rfl, eqT (by decide) ⟨_, rfl, a, _, dx, fs, v, rfl, ea, ed, xf, no, hf, k _ (Same.refl _)⟩⟩⟩⟩
    · exact ⟨_, rfl, _, _, rfl, rfl, _, rfl, eqF (by decide) ⟨_, rfl, _, _, rfl, rfl, _, rfl, eqF (by decide) ⟨_, rfl, rfl, _, rfl, eqF (by decide) ⟨_, rfl, (by show 2 ≤ sizeLine; decide), fun p hp => ⟨p, _, rfl, .inr (SqT.of upd_same), rfl, rfl, _, rfl, eqT (by decide) ⟨_, rfl, a, _, dx, fs, v, rfl, same_new hp _ _ ea, same_new hp _ _ ed, xf, no, hf, k _ (same_new hp)⟩⟩⟩⟩⟩⟩
    · exact ⟨_, rfl, _, _, rfl, rfl, _, rfl, eqF (by decide) ⟨_, rfl, _, _, rfl, rfl, _, rfl, eqF (by decide) ⟨_, rfl, rfl, _, rfl, eqF (by decide) ⟨_, rfl, (by show 2 ≤ sizeLine; decide), fun p hp => ⟨p, _, rfl, .inr (SqT.of upd_same), rfl, rfl, _, rfl, eqT (by decide) ⟨_, rfl, a, _, dx, fs, v, rfl, same_new hp _ _ ea, same_new hp _ _ ed, xf, no, hf, k _ (same_new hp)⟩⟩⟩⟩⟩⟩
    · exact ⟨_, rfl, _, _, rfl, rfl, _, rfl, eqF (by decide) ⟨_, rfl, _, _, rfl, rfl, _, rfl, eqF (by decide) ⟨_, rfl, rfl, _, rfl, eqF (by decide) ⟨_, rfl, (by show 2 ≤ sizeLine; decide), fun p hp => ⟨p, _, rfl, .inr (SqT.of upd_same), rfl, rfl, _, rfl, eqF (by decide) ⟨_, rfl, a, _, dx, fs, v, rfl, same_new hp _ _ ea, same_new hp _ _ ed, xf, no, hf, k _ (same_new hp)⟩⟩⟩⟩⟩⟩
    · exact ⟨_, rfl, _, _, rfl, rfl, _, rfl, eqF (by decide) ⟨_, rfl, _, _, rfl, rfl, _, rfl, eqF (by decide) ⟨_, rfl, rfl, _, rfl, eqF (by decide) ⟨_, rfl, (by show 2 ≤ sizeLine; decide), fun p hp => ⟨p, _, rfl, .inr (SqT.of upd_same), rfl, rfl, _, rfl, eqF (by decide) ⟨_, rfl, a, _, dx, fs, v, rfl, same_new hp _ _ ea, same_new hp _ _ ed, xf, no, hf, k _ (same_new hp)⟩⟩⟩⟩⟩⟩
/-! ### a handler of the base -/
theorem any_yes {t c : Value} {r : List Value} (h : PySem.W.kitOne K t c = some true) : PySem.W.kitAny K t (c :: r) = some true := by
  unfold PySem.W.kitAny
  rw [h]
theorem any_no {t c : Value} {r : List Value} {b : Option Bool} (h : PySem.W.kitOne K t c = some false) (g : PySem.W.kitAny K t r = b) : PySem.W.kitAny K t (c :: r) = b := by
  unfold PySem.W.kitAny
  rw [h]
  exact g
theorem call_isXK {X : Cx} {K : PySem.W.Frag} (e : X.K = K) : CallR X (.builtin "isinstance") (rIsX K) := by
  subst e
  exact call_isX
theorem pe_fxK {X : Cx} {K : PySem.W.Frag} (e : X.K = K) {x : Expr} {te : TE} {pos : Pos} {f : Str} (he : PE X x te) (hb : attributeBase x f X.env (eval x X.env) = eval x X.env := by rfl) : PE X (.Attribute x f pos) (tFx K f te) := by
  subst e
  exact pe_fx he hb
def spCatch (K : PySem.W.Frag) : Sp := fun vs H Q _ => ∃ (a : Addr) (i : Nat) (v : V), vs = [.ref a] ∧ i < 18 ∧ Er K H a i v ∧ ∀ H', Same H H' → Q (.bl true) H'
def N__law_catches : List Str := ["_law_e", "caught"]
theorem sc__law_catches : FnScope N__law_catches ["_law_e"] (defScope s__law_catches) := ⟨rfl, rfl, rfl, by decide +kernel, rfl, by decide +kernel, by decide +kernel⟩
theorem ok__law_catches (T : Ctx K mg) : Ok PP w K mg base 4 "_law_catches" ["_law_e"] (spCatch K) := by
  obtain ⟨fd, F⟩ := T.c.def_ 15 (d := d__law_catches) rfl
  refine ⟨⟨fd, F.ok sc__law_catches (fun vs H Q E h => ?_) (fun cdv A outer s H vs Q E hr h => ?_), F.bindsN fun _ _ _ _ _ _ us hl => match us, hl with | [_], _ => rfl⟩, F.kp, T.g__law_catches⟩
  · obtain ⟨a, i, v, rfl, _⟩ := h
    rfl
  · obtain ⟨a, i, v, rfl, hi, ⟨dx, fs, ea, ed, hf⟩, k⟩ := h
    have hi' : i < 19 := by omega
    obtain ⟨xf, xc, no⟩ := T.eok hi'
    refine ⟨_, PSs.nox (pss_cons (ps_try_as (i := 1) rfl rfl sc__law_catches.nd rfl rfl ⟨rfl, by decide, .inl T.g_ForkError⟩ L2.takes0
        (fun W pn xe tk _ => by exact (pss_cons (ps_if (pt_val (pe_callB (call_isXK (K := K) rfl) (by rfl) T.f_isinstance (by decide +kernel) (pa_cons (pv 0) (pa_cons (pe_gref (T.g_Conflict) (by rfl)) pa_nil))))
            (pss_one (ps_raise rfl tk (pmk_ex1 (mk_Conflict T) (hr.mono (by decide)) (by rfl) T.g_Conflict (pe_fxK (K := K) rfl (pv 0))))) pss_nil)
          (pss_cons (ps_if (pt_val (pe_callB (call_isXK (K := K) rfl) (by rfl) T.f_isinstance (by decide +kernel) (pa_cons (pv 0) (pa_cons (pe_gref (T.g_BadPack) (by rfl)) pa_nil))))
            (pss_one (ps_raise rfl tk (pmk_ex1 (mk_BadPack T) (hr.mono (by decide)) (by rfl) T.g_BadPack (pe_fxK (K := K) rfl (pv 0))))) pss_nil)
          (pss_one (ps_raise rfl tk (pmk_ex1 (mk_Stale T) (hr.mono (by decide)) (by rfl) T.g_Stale pe_str))))))
        (fun a oe cls d pn hz hf => by exact (pss_one (ps_ret (pe_callB (call_isS hz hf) (by rfl) T.f_isinstance (by decide +kernel) (pa_cons (pv 1) (pa_cons (pe_tup (pa_cons (pe_gref T.g_Conflict (by rfl)) (pa_cons (pe_gref T.g_BadPack (by rfl)) (pa_cons (pe_gref T.g_Stale (by rfl)) pa_nil)))) pa_nil)))))))
      (pss_one (ps_ret pe_bl))), ?_⟩
    refine ⟨_, rfl, a, _, dx, fs, _, _, _, rfl, ea, ed, xc, .own _, T.kit hi' 13, _, rfl, ite2 (fun g => ?_) (fun g => ?_)⟩
    · obtain rfl : i = 13 := of_decide_eq_true g
      refine ⟨_, rfl, a, _, dx, fs, v, rfl, ea, ed, xf, no, hf, v, rfl, fun e he => ?_⟩
      exact ⟨true, (T.exm (c := "Conflict") (by decide +kernel)).trans (congrArg some (by decide +kernel)), fun _ b hb => ⟨_, rfl, (by show 3 ≤ sizeLine; decide), fun tp htp => ⟨_, tp, e, _, _, _, true, rfl, rfl, (T.eok (i := 13) (by decide)).2.1, rfl, same_new htp _ _ upd_same, upd_same, .cons (.own _) (.cons (.own _) (.cons (.own _) .nil)), any_yes (T.kit (i := 13) (by decide) 13), k _ ((same_new he).trans (same_new htp))⟩⟩, fun q => nomatch q⟩
    · refine ⟨_, rfl, a, _, dx, fs, _, _, _, rfl, ea, ed, xc, .own _, T.kit hi' 10, _, rfl, ite2 (fun g => ?_) (fun g => ?_)⟩
      · obtain rfl : i = 10 := of_decide_eq_true g
        refine ⟨_, rfl, a, _, dx, fs, v, rfl, ea, ed, xf, no, hf, v, rfl, fun e he => ?_⟩
        exact ⟨true, (T.exm (c := "BadPack") (by decide +kernel)).trans (congrArg some (by decide +kernel)), fun _ b hb => ⟨_, rfl, (by show 3 ≤ sizeLine; decide), fun tp htp => ⟨_, tp, e, _, _, _, true, rfl, rfl, (T.eok (i := 10) (by decide)).2.1, rfl, same_new htp _ _ upd_same, upd_same, .cons (.own _) (.cons (.own _) (.cons (.own _) .nil)), any_no (T.kit (i := 10) (by decide) 13) (any_yes (T.kit (i := 10) (by decide) 10)), k _ ((same_new he).trans (same_new htp))⟩⟩, fun q => nomatch q⟩
      · refine ⟨_, rfl, fun e he => ?_⟩
        exact ⟨true, (T.exm (c := "Stale") (by decide +kernel)).trans (congrArg some (by decide +kernel)), fun _ b hb => ⟨_, rfl, (by show 3 ≤ sizeLine; decide), fun tp htp => ⟨_, tp, e, _, _, _, true, rfl, rfl, (T.eok (i := 15) (by decide)).2.1, rfl, same_new htp _ _ upd_same, upd_same, .cons (.own _) (.cons (.own _) (.cons (.own _) .nil)), any_no (T.kit (i := 15) (by decide) 13) (any_no (T.kit (i := 15) (by decide) 10) (any_yes (T.kit (i := 15) (by decide) 15))), k _ ((same_new he).trans (same_new htp))⟩⟩, fun q => nomatch q⟩
end
end K02
namespace K02
open PySem PySem.Spec PyProof.Rows L2 Fk TL
section
variable {J : It} {te : TE} {i : Nat} {σ : L2.St} {H1 : Hp} {D : Addr} {Qd : Hp → Prop}
/-- a comprehension over numbers that leaves all as it was -/
theorem lc_rng {N : Nat} {g : Nat → V} (w : Walk J N (fun _ => True) (YFn g)) (f : Nat → V) (hz : N < sizeLine) (hD : H1 D = none)
    (he : ∀ j H (Q : VK), Same H1 H → (∀ H3, Same H H3 → Q (f j) H3) → te ((wipe σ [i]).set i (some (g j))) H Q)
    (hd : ∀ H, Same H1 H → H D = some (.lst ((List.range N).map f)) → Qd H) :
    ∃ W : Nat → Nat → Hp → Prop, (∃ m, W 0 m (upd H1 D (.lst []))) ∧ ∀ i' m H, W i' m H →
      (J.stop i' H ∧ Qd H) ∨ (J.go i' H ∧ ∃ Nx : Hp → Prop, (∀ H', Nx H' → ∃ m', m' < m ∧ W (i' + 1) m' H') ∧ ∀ x H', J.yld i' H x H' → gName i x (wipe σ [i]) H' fun σ2 H2 => wipe σ2 [i] = wipe σ [i] ∧ tYes σ2 H2 fun b H3 =>
        if b = true then te σ2 H3 fun y H4 => ∃ acc, H4 D = some (.lst acc) ∧ acc.length < sizeLine ∧ Nx (upd H4 D (.lst (acc ++ [y]))) else Nx H3) := by
  refine lc_it w (fun j H => Same H1 H ∧ H D = some (.lst ((List.range j).map f))) ⟨same_new hD, upd_same⟩ (fun _ _ _ _ => trivial) (fun j x H H' hj h hy => ?_) fun H h => ?_
  · obtain ⟨rfl, rfl⟩ := hy
    obtain ⟨s1, h1⟩ := h
    refine ⟨wipe1 σ i (some _), ?_⟩
    show te ((wipe σ [i]).set i (some (g j))) _ _
    refine he _ _ _ s1 fun H4 s4 => ⟨_, s4 _ _ h1, ?_, same_mut (s1.trans s4) hD, ?_⟩
    · rw [List.length_map, List.length_range]
      omega
    · rw [upd_same, List.range_succ, List.map_append]
      rfl
  · exact hd H h.1 h.2
end
/-! ### rows of bools -/
theorem dp_bls {K : PySem.W.Frag} {H : Hp} : ∀ l : List Bool, DpAll K H (l.map V.bl) (l.map PyData.bool)
  | [] => .nil
  | b :: l => .cons (.bl b) (dp_bls l)
theorem sh_bls (l : List Bool) : SeqAt.shaped (.list (l.map PyData.bool)) = true := by
  have h1 : ∀ l : List Bool, PyData.canLayAll0 (l.map PyData.bool) = true ∧ PyData.depthAll (l.map PyData.bool) = 0 := by
    intro l
    induction l with
    | nil => exact ⟨rfl, rfl⟩
    | cons b l ih =>
      obtain ⟨a, c⟩ := ih
      refine ⟨?_, ?_⟩
      · show (true && PyData.canLayAll0 (l.map PyData.bool)) = true
        rw [a]
        rfl
      · show max 0 (PyData.depthAll (l.map PyData.bool)) = 0
        rw [c]
        rfl
  obtain ⟨a, b⟩ := h1 l
  show (PyData.canLayAll0 (l.map PyData.bool) && decide (PyData.depthAll (l.map PyData.bool) + 1 ≤ 64)) = true
  rw [a, b]
  rfl
theorem eq_bls (l : List Bool) : PyData.eqv (.list (l.map PyData.bool)) (.list (l.map PyData.bool)) = true := by
  show PyData.eqvAll (l.map PyData.bool) (l.map PyData.bool) = true
  induction l with
  | nil => rfl
  | cons b l ih =>
    show (PyData.eqv (.bool b) (.bool b) && PyData.eqvAll (l.map PyData.bool) (l.map PyData.bool)) = true
    rw [ih]
    cases b <;> rfl
theorem asc_e : Asc ("" : Str) := fun c hc => by
  have h : ∀ c ∈ tl ("" : Str), c < 128 := by decide +kernel
  exact h c hc
theorem asc_a : Asc ("a" : Str) := fun c hc => by
  have h : ∀ c ∈ tl ("a" : Str), c < 128 := by decide +kernel
  exact h c hc
/-! ### what is drawn as a field -/
def Thn (H : Hp) (v : V) (d : PyData) : Prop := (∃ t, v = .str t ∧ Asc t ∧ d = .str t) ∨ (∃ n, v = .int n ∧ d = .int n) ∨ (v = .non ∧ d = .none) ∨ ∃ p, v = .ref p ∧ H p = some (.tup [.str "a", .str "b"]) ∧ d = .tuple [.str "a", .str "b"]
theorem Thn.same {H H' : Hp} {v : V} {d : PyData} (h : Thn H v d) (s : Same H H') : Thn H' v d := by
  rcases h with h | h | h | ⟨p, h1, h2, h3⟩
  · exact .inl h
  · exact .inr (.inl h)
  · exact .inr (.inr (.inl h))
  · exact .inr (.inr (.inr ⟨p, h1, s _ _ h2, h3⟩))
theorem Thn.dp {K : PySem.W.Frag} {H : Hp} {v : V} {d : PyData} (h : Thn H v d) : Dp K H v d ∧ SeqAt.shaped d = true ∧ PyData.eqv d d = true := by
  rcases h with ⟨t, rfl, ha, rfl⟩ | ⟨n, rfl, rfl⟩ | ⟨rfl, rfl⟩ | ⟨p, rfl, h2, rfl⟩
  · refine ⟨.str t, ?_, ?_⟩
    · show (PyData.strOk t && _) = true
      have e : PyData.strOk t = true := by
        show t.cps.all (· < 0x110000) = true
        rw [Array.all_eq_true_iff_forall_mem]
        intro c hc
        have := ha c (Array.mem_toList_iff.mpr hc)
        exact decide_eq_true (by omega)
      rw [e]
      rfl
    · show (t == t) = true
      exact beq_self_eq_true t
  · refine ⟨.int n, rfl, ?_⟩
    show (n == n) = true
    exact beq_self_eq_true n
  · exact ⟨.non, rfl, rfl⟩
  · exact ⟨.tup (SqT.of h2) (.cons (.str _) (.cons (.str _) .nil)), by decide +kernel, by decide +kernel⟩
theorem cutV_mem {xs : List V} {lo hi : Option Int} {x : V} (h : x ∈ cutV xs lo hi) : x ∈ xs := List.mem_of_mem_drop (List.mem_of_mem_take h)
theorem cutV_len (xs : List V) (lo hi : Option Int) : (cutV xs lo hi).length ≤ xs.length := by
  unfold cutV
  rw [List.length_take, List.length_drop]
  omega
theorem eqm (j : Nat) : (List.range 18).map (fun k : Nat => V.bl (decide (V.int (0 + (k : Int)) = V.int (j : Int)))) = (marks j).map V.bl := by
  unfold marks
  rw [List.map_map]
  refine List.map_congr_left fun k _ => ?_
  show V.bl _ = V.bl (decide (j = k))
  rw [show decide (V.int (0 + (k : Int)) = V.int (j : Int)) = decide (j = k) from decide_eq_decide.mpr ⟨fun h => by have := V.int.inj h; omega, fun h => by rw [h, Int.zero_add]⟩]
theorem eqb {j : Nat} (h : j < 18) : [V.bl (decide ((j : Int) < 16)), V.bl (decide ((j : Int) < 16)), V.bl (decide ((16 : Int) ≤ (j : Int))), V.bl false, V.bl false, V.bl false] = (bases j).map V.bl := by
  have e1 : decide ((j : Int) < 16) = decide (j ≠ 16 ∧ j ≠ 17) := decide_eq_decide.mpr ⟨fun h => by omega, fun h => by omega⟩
  have e2 : decide ((16 : Int) ≤ (j : Int)) = decide (j = 16 ∨ j = 17) := decide_eq_decide.mpr ⟨fun h => by omega, fun h => by omega⟩
  rw [e1, e2]
  rfl
section
variable {w : World} {K : PySem.W.Frag} {mg : Str → Option Value} {base : Heap}
theorem Er.kp {H H' : Hp} {a u : Addr} {i : Nat} {v : V} (h : Er K H a i v) (s : Kp u H H') (n : ∀ b o, H b = some o → b = u → ∃ l, o = .lst l) : Er K H' a i v := by
  obtain ⟨dx, fs, h1, h2, h3⟩ := h
  refine ⟨dx, fs, s _ _ h1 fun e => ?_, s _ _ h2 fun e => ?_, h3⟩
  · obtain ⟨l, z⟩ := n _ _ h1 e
    cases (show HO.ext _ = HO.lst l from z)
  · obtain ⟨l, z⟩ := n _ _ h2 e
    cases (show HO.ext _ = HO.lst l from z)
theorem made_if {c : Bool} {A B : Prop} {H : Hp} {j : Nat} {v : V} {R : Addr → Hp → Prop} (h : ∀ er H', H er = none → Same H H' → Er K H' er j v → R er H')
    (hA : c = true → (∀ er H', H er = none → Same H H' → Er K H' er j v → R er H') → A) (hB : c = false → (∀ er H', H er = none → Same H H' → Er K H' er j v → R er H') → B) : if c = true then A else B := by
  cases c with
  | true => exact iteT (hA rfl h)
  | false => exact iteF (hB rfl h)
theorem two {c : Bool} {A B R : Prop} (h : R) (hA : c = true → R → A) (hB : c = false → R → B) : if c = true then A else B := by
  cases c with
  | true => exact iteT (hA rfl h)
  | false => exact iteF (hB rfl h)
def spLaw (K : PySem.W.Frag) : Sp := fun vs H Q _ => ∃ (a : Addr) (ns : List Int), vs = [.ref a] ∧ SqL K H a (ns.map V.int) ∧ ns.length ≤ 63 ∧ ∀ H', Q (.bl true) H'
def N_law : List Str := ["_law_script", "_law_cell", "_law_well_here", "_law_way", "_law_some", "_law_thing", "_law_error", "_law_found", "_law_wanted", "_law_base", "_law_k"]
theorem sc_law : FnScope N_law ["_law_script"] (defScope s_law) := ⟨rfl, rfl, rfl, by decide +kernel, rfl, by decide +kernel, by decide +kernel⟩
theorem ok_law (T : Ctx K mg) {fd : FuncData} (F : FunD K d_law.name d_law.qual d_law.params d_law.body d_law.scope (d_law.dvs K) (d_law.kws K) (He.fAd K d_law.at_) fd) : FnOk PP w K mg base CX0 6 (He.ga K "law") fd ["_law_script"] (spLaw K) := by
  refine F.ok sc_law (fun vs H Q E h => ?_) (fun cdv A outer s H vs Q E hr h => ?_)
  · obtain ⟨a, ns, rfl, _⟩ := h
    rfl
  · obtain ⟨a, ns, rfl, hS, hlen, k⟩ := h
    refine ⟨_, PSs.nox (pss_cons (ps_for PassesOwn.never rfl (pi_list (pe_op op_cat (pe_lst (pa_cons (pe_own (ok__law_cell_at T) (hr.mono (by decide)) (by rfl) (pa_cons (pv 0) (pa_cons pe_int pa_nil))) pa_nil)) (pe_slice sl_list (pv 0) (po_some pe_int) (po_some pe_int)))) (pg_name (i := 1) sc_law.nd rfl (Or.inl rfl))
        (pss_cons (ps_set (i := 2) sc_law.nd rfl (Or.inl rfl) (pe_own (ok__law_well T) (hr.mono (by decide)) (by rfl) (pa_cons (pv 1) pa_nil)))
        (pss_one (ps_for PassesOwn.never rfl (pi_range1 (by rfl) T.f_range (pa_cons pe_int pa_nil)) (pg_name (i := 3) sc_law.nd rfl (Or.inr rfl))
          (pss_cons (ps_set (i := 4) sc_law.nd rfl (Or.inl rfl) (pe_lst (pa_cons (pe_own (ok__law_text T) (hr.mono (by decide)) (by rfl) (pa_cons (pv 2) pa_nil)) (pa_cons pe_str (pa_cons pe_str (pa_cons (pe_op op_pow pe_int pe_int) (pa_cons pe_int (pa_cons pe_non (pa_cons (pe_tup (pa_cons pe_str (pa_cons pe_str pa_nil))) (pa_cons (pe_own (ok__law_id T) (hr.mono (by decide)) (by rfl) (pa_cons (pv 2) pa_nil)) pa_nil))))))))))
          (pss_cons (ps_set (i := 5) sc_law.nd rfl (Or.inl rfl) (pe_ix ix_list (pe_lst (pa_cons (pe_ix ix_list (pv 4) (pe_own (ok__law_draw T) (hr.mono (by decide)) (by rfl) (pa_cons (pv 2) (pa_cons pe_int pa_nil))) (fun _ _ => rfl)) (pa_cons (pe_own (ok__law_pick T) (hr.mono (by decide)) (by rfl) (pa_cons (pv 2) (pa_cons (pv 4) pa_nil))) pa_nil))) (pe_callTy call_int1 (by rfl) T.f_int (by decide +kernel) (pa_cons (pe_cmpR op_gt (pv 3) pe_int (nomark _)) pa_nil)) (fun _ _ => rfl)))
          (pss_cons (ps_if (pt_cmpR op_gt (pv 3) pe_int (nomark _))
            (pss_one (ps_set (i := 6) sc_law.nd rfl (Or.inl rfl) (pe_own (ok__law_fielded T) (hr.mono (by decide)) (by rfl) (pa_cons (pv 3) (pa_cons (pv 5) pa_nil)))))
            (pss_one (ps_set (i := 6) sc_law.nd rfl (Or.inl rfl) (pe_own (ok__law_plain T) (hr.mono (by decide)) (by rfl) (pa_cons (pv 3) (pa_cons (pv 5) pa_nil))))))
          (pss_cons (ps_if (pt_cmpR (op_neD hr.units) (pe_own (ok__law_marks T) (hr.mono (by decide)) (by rfl) (pa_cons (pv 6) pa_nil)) (pe_lc (own := [("_law_k", 10)]) (g := gName 10) rfl sc_law.nd (pi_range1 (by rfl) T.f_range (pa_cons pe_int pa_nil)) (blkOk_by (N := N_law) (sc := defScope s_law) (by decide +kernel)) (fun _ _ _ _ _ => pg_name (i := 10) sc_law.nd rfl (Or.inl rfl)) (fun _ _ _ _ _ => pts_nil) (fun _ _ _ _ _ => (pe_cmpR op_eq (pv 10) (pv 3) (nomark _)))) (nomark _))
            (pss_one (ps_ret pe_bl))
            pss_nil)
          (pss_cons (ps_set (i := 7) sc_law.nd rfl (Or.inl rfl) (pe_own (ok__law_field T) (hr.mono (by decide)) (by rfl) (pa_cons (pv 6) (pa_cons (pv 3) pa_nil))))
          (pss_cons (ps_if (PW.pt (pw_or (PW.pt (pw_and (pt_cmpR op_gt (pv 3) pe_int (nomark _)) (pw_and1 (pt_cmpR (op_neD hr.units) (pv 7) (pv 5) (nomark _))))) (pw_or1 (PW.pt (pw_and (pt_cmpR op_lt (pv 3) pe_int (nomark _)) (pw_and1 (pt_not (pt_val (pe_callB call_isi (by rfl) T.f_isinstance (by decide +kernel) (pa_cons (pv 7) (pa_cons (pe_bltn (v := .ty "str") (u := .type "str") (by rfl) T.f_str (by decide +kernel) rfl) pa_nil)))))))))))
            (pss_one (ps_ret pe_bl))
            pss_nil)
          (pss_cons (ps_set (i := 8) sc_law.nd rfl (Or.inl rfl) (pe_lst (pa_cons (pe_cmpR op_lt (pv 3) pe_int (nomark _)) (pa_cons (pe_cmpR op_lt (pv 3) pe_int (nomark _)) (pa_cons (pe_cmpR op_ge (pv 3) pe_int (nomark _)) (pa_cons pe_bl (pa_cons pe_bl (pa_cons pe_bl pa_nil))))))))
          (pss_one (ps_if (PW.pt (pw_or (pt_cmpR (op_neD hr.units) (pe_own (ok__law_bases T) (hr.mono (by decide)) (by rfl) (pa_cons (pv 6) pa_nil)) (pv 8) (nomark _)) (pw_or1 (pt_not (pt_val (pe_own (ok__law_catches T) (hr.mono (by decide)) (by rfl) (pa_cons (pv 6) pa_nil)))))))
            (pss_one (ps_ret pe_bl))
            pss_nil)))))))))))))
      (pss_cons (ps_for PassesOwn.never rfl (pi_list (pe_lst (pa_cons (pe_mkE0 (mk0_ForkError T) (hr.mono (by decide)) (by rfl) T.g_ForkError) (pa_cons (pe_mkE0 (mk0_BadName T) (hr.mono (by decide)) (by rfl) T.g_BadName) (pa_cons (pe_mkE0 (mk0_Crash T) (hr.mono (by decide)) (by rfl) T.g_Crash) pa_nil))))) (pg_name (i := 9) sc_law.nd rfl (Or.inl rfl))
        (pss_one (ps_if (PW.pt (pw_or (pt_not (pt_val (pe_callB call_isi (by rfl) T.f_isinstance (by decide +kernel) (pa_cons (pe_fx (pv 9)) (pa_cons (pe_bltn (v := .ty "str") (u := .type "str") (by rfl) T.f_str (by decide +kernel) rfl) pa_nil))))) (pw_or1 (pt_not (pt_val (pe_callB call_isX (by rfl) T.f_isinstance (by decide +kernel) (pa_cons (pv 9) (pa_cons (pe_gref (T.g_ForkError) (by rfl)) pa_nil))))))))
          (pss_one (ps_ret pe_bl))
          pss_nil)))
      (pss_one (ps_ret (pe_and (pe_cmpR (op_eqD hr.units) (pe_own (ok__law_marks T) (hr.mono (by decide)) (by rfl) (pa_cons (pe_mkE (mk_ForkError T) (hr.mono (by decide)) (by rfl) T.g_ForkError pe_str) pa_nil)) (pe_op op_rep (pe_lst (pa_cons pe_bl pa_nil)) pe_int) (nomark _)) (pe_one (pe_callB call_isi (by rfl) T.f_isinstance (by decide +kernel) (pa_cons (pe_fx (pe_mkEk (mk_ForkError T) (hr.mono (by decide)) (by rfl) T.g_ForkError pe_str)) (pa_cons (pe_bltn (v := .ty "str") (u := .type "str") (by rfl) T.f_str (by decide +kernel) rfl) pa_nil))))))))), ?_⟩
    refine ⟨_, rfl, a, ns, 0, rfl, hS, by decide, fun n0 => ⟨(by show 1 ≤ sizeLine; decide), fun q1 hq1 => ?_⟩⟩
    have s2 := same_new hq1 (o := .lst [V.int n0])
    refine ⟨_, rfl, _, rfl, _, rfl, a, _, rfl, s2.seq hS, fun q2 hq2 => ?_⟩
    have s3 := same_new hq2 (o := .lst (cutV (ns.map V.int) (some 1) (some 8)))
    refine ⟨q1, q2, _, _, rfl, rfl, s3 _ _ upd_same, upd_same, ?_, fun q3 hq3 => ?_⟩
    · have := cutV_len (ns.map V.int) (some 1) (some 8)
      rw [List.length_map] at this
      have e := sizeLine_eq
      show 1 + _ ≤ sizeLine
      omega
    have hints : ∀ x ∈ [V.int n0] ++ cutV (ns.map V.int) (some 1) (some 8), ∃ n, x = .int n := fun x hx => by
      rcases List.mem_append.mp hx with h | h
      · exact ⟨n0, List.mem_singleton.mp h⟩
      · obtain ⟨n, _, e⟩ := List.mem_map.mp (cutV_mem h)
        exact ⟨n, e.symm⟩
    have eq3 : upd (upd (upd H q1 (.lst [V.int n0])) q2 (.lst (cutV (ns.map V.int) (some 1) (some 8)))) q3 (.lst ([V.int n0] ++ cutV (ns.map V.int) (some 1) (some 8))) q3 = some (.lst ([V.int n0] ++ cutV (ns.map V.int) (some 1) (some 8))) := upd_same
    generalize upd (upd (upd H q1 (.lst [V.int n0])) q2 (.lst (cutV (ns.map V.int) (some 1) (some 8)))) q3 (.lst ([V.int n0] ++ cutV (ns.map V.int) (some 1) (some 8))) = H0 at eq3 ⊢
    generalize [V.int n0] ++ cutV (ns.map V.int) (some 1) (some 8) = xs at eq3 hints ⊢
    refine ⟨q3, rfl, ⟨_, SqL.of eq3⟩, for_list (K := K) (a := q3) (xs := xs) (fun i σ H2 => ∃ v1 v2 v3 v4 v5 v6 v7 v8 v9 v10 : Option V, σ = [some (.ref a), v1, v2, v3, v4, v5, v6, v7, v8, v9, v10] ∧ Same H0 H2)
      ⟨none, none, none, none, none, none, none, none, none, none, rfl, Same.refl _⟩ (fun i σ H2 _ ⟨_, _, _, _, _, _, _, _, _, _, _, z⟩ => SqL.of (z _ _ eq3)) ?_ ?_⟩
    · rintro i x σ H2 hi ⟨v1, v2, v3, v4, v5, v6, v7, v8, v9, v10, rfl, z2⟩
      obtain ⟨n, rfl⟩ := hints x (List.mem_of_getElem? hi)
      refine ⟨_, rfl, n, rfl, fun pw H3 hpw z3 hw => ?_⟩
      refine ⟨18, rfl, by decide, by decide, for_range (n := 18) (fun j σ H4 => ∃ v3 v4 v5 v6 v7 v8 v9 v10 : Option V, σ = [some (.ref a), some (.int n), some (.ref pw), v3, v4, v5, v6, v7, v8, v9, v10] ∧ Wl H4 pw (1000000 - j * 1000) ∧ Kp pw H3 H4)
        ⟨v3, v4, v5, v6, v7, v8, v9, v10, rfl, hw, Kp.refl _ _⟩ ?_ fun σ H4 ⟨w3, w4, w5, w6, w7, w8, w9, w10, e, _, z4⟩ => ⟨some (.int n), some (.ref pw), w3, w4, w5, w6, w7, w8, w9, w10, e, fun b o hb => z4 b o (z3 b o (z2 b o hb)) (ne_of_none (z2 b o hb) hpw)⟩⟩
      rintro j σ H4 hj ⟨w3, w4, w5, w6, w7, w8, w9, w10, rfl, hw4, z4⟩
      have ej : (0 : Int) + (j : Int) = (j : Int) := by omega
      rw [ej]
      refine ⟨_, rfl, pw, (1000000 - (j + 1) * 1000) + 800, rfl, hw4.le (by omega), fun t H5 t1 t2 t3 hw5 kp5 => ?_⟩
      refine ⟨_, _, rfl, rfl, ⟨by decide, by decide, by decide⟩, (by show 2 ≤ sizeLine; decide), fun tp htp => ?_⟩
      have sT := same_new htp (o := .tup [V.str "a", V.str "b"])
      have eT : upd H5 tp (.tup [V.str "a", V.str "b"]) tp = some (.tup [V.str "a", V.str "b"]) := upd_same
      have hwT := hw5.new htp (o := .tup [V.str "a", V.str "b"])
      have nT := hw5.ne htp
      dsimp only
      generalize upd H5 tp (.tup [V.str "a", V.str "b"]) = HT at sT eT hwT ⊢
      refine ⟨_, rfl, pw, (1000000 - (j + 1) * 1000) + 600, rfl, hwT.le (by omega), fun t' H6 u1 u2 u3 hw6 kp6 => ?_⟩
      refine ⟨(by show 8 ≤ sizeLine; decide), fun ql hql => ?_⟩
      have hfirst : ∀ r : Int, 0 ≤ r → r < 3 → ∃ z, atI [V.str t, V.str "", V.str "a", V.int ((10 : Int) ^ (40 : Int).toNat), V.int 0, V.non, V.ref tp, V.str t'] r = some (.str z) ∧ Asc z := fun r r0 r1 => by
        have h3 : r = 0 ∨ r = 1 ∨ r = 2 := by omega
        rcases h3 with rfl | rfl | rfl
        · exact ⟨t, atI_nat (j := 0) rfl, t3⟩
        · exact ⟨_, atI_nat (j := 1) rfl, asc_e⟩
        · exact ⟨_, atI_nat (j := 2) rfl, asc_a⟩
      have sL := same_new hql (o := .lst [V.str t, V.str "", V.str "a", V.int ((10 : Int) ^ (40 : Int).toNat), V.int 0, V.non, V.ref tp, V.str t'])
      have eL : upd H6 ql (.lst [V.str t, V.str "", V.str "a", V.int ((10 : Int) ^ (40 : Int).toNat), V.int 0, V.non, V.ref tp, V.str t']) ql = some (.lst [V.str t, V.str "", V.str "a", V.int ((10 : Int) ^ (40 : Int).toNat), V.int 0, V.non, V.ref tp, V.str t']) := upd_same
      have hwL := hw6.new hql (o := .lst [V.str t, V.str "", V.str "a", V.int ((10 : Int) ^ (40 : Int).toNat), V.int 0, V.non, V.ref tp, V.str t'])
      have nL := hw6.ne hql
      have hall : ∀ x ∈ [V.str t, V.str "", V.str "a", V.int ((10 : Int) ^ (40 : Int).toNat), V.int 0, V.non, V.ref tp, V.str t'], ∀ H', H' tp = some (.tup [V.str "a", V.str "b"]) → ∃ d, Thn H' x d := fun x hx H' hH' => by
        simp only [List.mem_cons, List.not_mem_nil, or_false] at hx
        rcases hx with rfl | rfl | rfl | rfl | rfl | rfl | rfl | rfl
        · exact ⟨_, .inl ⟨_, rfl, t3, rfl⟩⟩
        · exact ⟨_, .inl ⟨_, rfl, asc_e, rfl⟩⟩
        · exact ⟨_, .inl ⟨_, rfl, asc_a, rfl⟩⟩
        · exact ⟨_, .inr (.inl ⟨_, rfl, rfl⟩)⟩
        · exact ⟨_, .inr (.inl ⟨_, rfl, rfl⟩)⟩
        · exact ⟨_, .inr (.inr (.inl ⟨rfl, rfl⟩))⟩
        · exact ⟨_, .inr (.inr (.inr ⟨_, rfl, hH', rfl⟩))⟩
        · exact ⟨_, .inl ⟨_, rfl, u3, rfl⟩⟩
      have hne : [V.str t, V.str "", V.str "a", V.int ((10 : Int) ^ (40 : Int).toNat), V.int 0, V.non, V.ref tp, V.str t'] ≠ [] := List.cons_ne_nil _ _
      have hln : [V.str t, V.str "", V.str "a", V.int ((10 : Int) ^ (40 : Int).toNat), V.int 0, V.non, V.ref tp, V.str t'].length ≤ 1000 := by show 8 ≤ 1000; decide
      have eT7 := sL _ _ (kp6 _ _ eT nT)
      have kp7 : Kp pw H3 (upd H6 ql (.lst [V.str t, V.str "", V.str "a", V.int ((10 : Int) ^ (40 : Int).toNat), V.int 0, V.non, V.ref tp, V.str t'])) := z4.trans (kp5.trans ((Kp.of sT).trans (kp6.trans (.of sL))))
      try dsimp only
      generalize upd H6 ql (.lst [V.str t, V.str "", V.str "a", V.int ((10 : Int) ^ (40 : Int).toNat), V.int 0, V.non, V.ref tp, V.str t']) = H7 at sL eL hwL eT7 kp7 ⊢
      generalize [V.str t, V.str "", V.str "a", V.int ((10 : Int) ^ (40 : Int).toNat), V.int 0, V.non, V.ref tp, V.str t'] = L at hfirst eL hall hne hln ⊢
      clear sL kp6 eT sT hw6 hwT hw5 kp5 hw4 z4
      refine ⟨_, rfl, _, rfl, pw, (1000000 - (j + 1) * 1000) + 500, 3, rfl, hwL.le (by omega), by decide, by decide, fun r H8 r0 r1 hw8 kp8 => ?_⟩
      obtain ⟨z, ez, az⟩ := hfirst r r0 r1
      refine ⟨ql, _, _, _, rfl, rfl, SqL.of (kp8 _ _ eL nL), ez, ?_⟩
      refine ⟨_, rfl, _, rfl, pw, ql, (1000000 - (j + 1) * 1000) + 400, L, rfl, hw8.le (by omega), nL, kp8 _ _ eL nL, hne, hln, fun x H9 hx hw9 kp9 => ?_⟩
      refine ⟨(by show 2 ≤ sizeLine; decide), fun qt hqt => ?_⟩
      have eT9 := kp9 _ _ (kp8 _ _ eT7 nT) nT
      obtain ⟨dx, hdx⟩ := hall x hx _ (same_new hqt (o := .lst [V.str z, x]) _ _ eT9)
      have hth : ∃ th d, atI [V.str z, x] (if decide ((8 : Int) < (j : Int)) = true then 1 else 0) = some th ∧ Thn (upd H9 qt (.lst [V.str z, x])) th d ∧ (j < 9 → ∃ t, th = .str t) := by
        by_cases h8 : 8 < j
        · refine ⟨x, dx, ?_, hdx, fun q => by omega⟩
          rw [if_pos (decide_eq_true (by omega))]
          exact atI_nat (j := 1) rfl
        · refine ⟨_, _, ?_, .inl ⟨z, rfl, az, rfl⟩, fun _ => ⟨z, rfl⟩⟩
          rw [if_neg (by rw [decide_eq_true_eq]; omega)]
          exact atI_nat (j := 0) rfl
      obtain ⟨th, d, eth, hT, hS⟩ := hth
      refine ⟨_, rfl, _, _, rfl, rfl, .inr ⟨_, rfl, qt, _, _, _, rfl, rfl, SqL.of upd_same, eth, ?_⟩⟩
      have hwA := hw9.new hqt (o := .lst [V.str z, x])
      have kpA : Kp pw H3 (upd H9 qt (.lst [V.str z, x])) := kp7.trans (kp8.trans (kp9.trans (.of (same_new hqt))))
      try dsimp only
      generalize upd H9 qt (.lst [V.str z, x]) = HA at hT hwA kpA ⊢
      clear hall hfirst hdx
      refine ⟨_, rfl, _, _, rfl, rfl, _, rfl, made_if (K := K) (j := j) (v := th) ?_ (fun g r => ⟨_, rfl, _, rfl, j, th, rfl, by have := of_decide_eq_true g; omega, hj, fun er H' h1 h2 h3 => r er H' h1 h2 h3⟩) (fun g r => ⟨_, rfl, _, rfl, j, th, rfl, Nat.zero_le _, by have := of_decide_eq_false g; omega, fun er H' h1 h2 h3 => r er H' h1 h2 h3⟩)⟩
      intro er HB nB sB hE
      refine ⟨_, rfl, er, j, th, rfl, by omega, hE, fun p1 HC nC sC eC => ?_⟩
      refine ⟨18, rfl, by decide, by decide, fun D hD => ?_⟩
      refine lc_rng (i := 10) (N := 18) walk_range (fun k : Nat => V.bl (decide (V.int (0 + (k : Int)) = V.int (j : Int)))) (by decide) hD (fun k HX QX sX q => ⟨_, rfl, _, rfl, rfl, q _ (Same.refl _)⟩) fun HD sD eD => ?_
      rw [eqm] at eD
      refine ⟨_, _, .lst (SqL.of (sD _ _ eC)) (dp_bls _), .lst (SqL.of eD) (dp_bls _), sh_bls _, sh_bls _, _, rfl, eqF (by rw [eq_bls]; rfl) ?_⟩
      have hE2 := (hE.same sC).same sD
      refine ⟨_, rfl, _, rfl, er, j, th, rfl, hj, hE2, fun HE sE => ?_⟩
      have hT2 := (((hT.same sB).same sC).same sD).same sE
      obtain ⟨dp, sh, eq⟩ := hT2.dp (K := K)
      refine ⟨_, rfl, _, _, rfl, rfl, _, rfl, two ?_ (fun g r => ⟨_, rfl, _, rfl, d, d, dp, dp, sh, sh, _, rfl, eqF (by rw [eq]; rfl) ⟨_, rfl, _, _, rfl, rfl, _, rfl, eqF (decide_eq_false (by have := of_decide_eq_true g; omega)) (iteF r)⟩⟩)
        (fun g r => iteF ⟨_, rfl, _, _, rfl, rfl, _, rfl, eqT (decide_eq_true (by have := of_decide_eq_false g; omega)) (by
          obtain ⟨tt, rfl⟩ := hS (by have := of_decide_eq_false g; omega)
          exact ⟨_, rfl, _, _, _, _, _, rfl, .ty "str", .base (.str _), kit_ty (show kitB "str" "str" = some true by decide +kernel), _, rfl, iteF r⟩)⟩)⟩
      refine ⟨_, rfl, _, _, rfl, rfl, _, rfl, _, _, rfl, rfl, _, rfl, _, _, rfl, rfl, (by show 6 ≤ sizeLine; decide), fun qw hqw => ?_⟩
      have sW := same_new hqw (o := .lst ((bases j).map V.bl))
      have eW : upd HE qw (.lst ((bases j).map V.bl)) qw = some (.lst ((bases j).map V.bl)) := upd_same
      rw [eqb hj]
      try dsimp only
      generalize upd HE qw (.lst ((bases j).map V.bl)) = HF at sW eW ⊢
      have hE3 := (hE2.same sE).same sW
      refine ⟨_, rfl, er, j, th, rfl, by omega, hE3, fun p2 HG nG sG eG => ?_⟩
      refine ⟨_, rfl, _, _, .lst (SqL.of eG) (dp_bls _), .lst (SqL.of (sG _ _ eW)) (dp_bls _), sh_bls _, sh_bls _, _, rfl, eqF (by rw [eq_bls]; rfl) ?_⟩
      refine ⟨_, rfl, er, j, th, rfl, hj, hE3.same sG, fun HI sI => ⟨_, rfl, iteF ?_⟩⟩
      have sAll := sB.trans (sC.trans (sD.trans (sE.trans (sW.trans (sG.trans sI)))))
      exact ⟨_, _, _, _, _, _, _, _, rfl, (hwA.same sAll).le (by omega), kpA.trans (.of sAll)⟩
    · rintro σ H2 ⟨v1, v2, v3, v4, v5, v6, v7, v8, v9, v10, rfl, z2⟩
      have eK : (cxOf CX0 PP w K mg base N_law d_law.qual d_law.scope (He.fAd K d_law.at_) cdv A outer s H E).K = K := rfl
      refine ⟨_, rfl, fun a1 d1 h11 h12 h13 => ?_⟩
      try rw [eK]
      obtain ⟨s1, r1⟩ := er_new (K := K) (i := 18) (C := He.ga K "ForkError") (fs := [("why", V.str "")]) (v := V.str "") h11 h12 h13 rfl rfl
      try dsimp (config := { proj := false }) only
      generalize upd (upd H2 d1 (exd d1 [("why", V.str "")])) a1 (exo a1 (He.ga K "ForkError") (some d1)) = G1 at s1 r1 ⊢
      refine ⟨_, rfl, fun a2 d2 h21 h22 h23 => ?_⟩
      try rw [eK]
      obtain ⟨s2', r2⟩ := er_new (K := K) (i := 0) (C := He.ga K "BadName") (fs := [("why", V.str "")]) (v := V.str "") h21 h22 h23 rfl rfl
      try dsimp (config := { proj := false }) only
      generalize upd (upd G1 d2 (exd d2 [("why", V.str "")])) a2 (exo a2 (He.ga K "BadName") (some d2)) = G2 at s2' r2 ⊢
      refine ⟨_, rfl, fun a3 d3 h31 h32 h33 => ?_⟩
      try rw [eK]
      obtain ⟨s3', r3⟩ := er_new (K := K) (i := 7) (C := He.ga K "Crash") (fs := [("why", V.str "")]) (v := V.str "") h31 h32 h33 rfl rfl
      try dsimp (config := { proj := false }) only
      generalize upd (upd G2 d3 (exd d3 [("why", V.str "")])) a3 (exo a3 (He.ga K "Crash") (some d3)) = G3 at s3' r3 ⊢
      refine ⟨(by show 3 ≤ sizeLine; decide), fun ql hql => ?_⟩
      have sq := same_new hql (o := .lst [V.ref a1, V.ref a2, V.ref a3])
      have eq : upd G3 ql (.lst [V.ref a1, V.ref a2, V.ref a3]) ql = some (.lst [V.ref a1, V.ref a2, V.ref a3]) := upd_same
      try dsimp (config := { proj := false }) only
      generalize upd G3 ql (.lst [V.ref a1, V.ref a2, V.ref a3]) = G4 at sq eq ⊢
      have all : ∀ x ∈ [V.ref a1, V.ref a2, V.ref a3], ∃ (b : Addr) (i : Nat), x = .ref b ∧ (i = 18 ∨ i = 0 ∨ i = 7) ∧ Er K G4 b i (.str "") := fun x hx => by
        simp only [List.mem_cons, List.not_mem_nil, or_false] at hx
        rcases hx with rfl | rfl | rfl
        · exact ⟨_, 18, rfl, .inl rfl, ((r1.same s2').same s3').same sq⟩
        · exact ⟨_, 0, rfl, .inr (.inl rfl), (r2.same s3').same sq⟩
        · exact ⟨_, 7, rfl, .inr (.inr rfl), r3.same sq⟩
      refine ⟨ql, rfl, ⟨_, SqL.of eq⟩, for_list (K := K) (a := ql) (xs := [V.ref a1, V.ref a2, V.ref a3]) (fun i σ H5 => ∃ v9 : Option V, σ = [some (.ref a), v1, v2, v3, v4, v5, v6, v7, v8, v9, v10] ∧ Same G4 H5)
        ⟨v9, rfl, Same.refl _⟩ (fun i σ H5 _ ⟨_, _, z⟩ => SqL.of (z _ _ eq)) ?_ ?_⟩
      · rintro i x σ H5 hi ⟨y9, rfl, z5⟩
        obtain ⟨b, ib, rfl, hib, hEb⟩ := all x (List.mem_of_getElem? hi)
        obtain ⟨dx, fs, ea, ed, hf⟩ := hEb.same z5
        obtain ⟨xf, xc, no⟩ := T.eok (show ib < 19 by omega)
        have hB := T.bF (show ib < 19 by omega)
        rcases hib with rfl | rfl | rfl
        · exact ⟨_, rfl, b, _, dx, fs, _, rfl, ea, ed, xf, no, hf, _, _, _, _, _, rfl, .ty "str", .base (.str _), kit_ty (show kitB "str" "str" = some true by decide +kernel), _, rfl, iteF ⟨_, rfl, b, _, dx, fs, _, _, _, rfl, ea, ed, xc, .own _, hB, _, rfl, iteF ⟨_, rfl, z5⟩⟩⟩
        · exact ⟨_, rfl, b, _, dx, fs, _, rfl, ea, ed, xf, no, hf, _, _, _, _, _, rfl, .ty "str", .base (.str _), kit_ty (show kitB "str" "str" = some true by decide +kernel), _, rfl, iteF ⟨_, rfl, b, _, dx, fs, _, _, _, rfl, ea, ed, xc, .own _, hB, _, rfl, iteF ⟨_, rfl, z5⟩⟩⟩
        · exact ⟨_, rfl, b, _, dx, fs, _, rfl, ea, ed, xf, no, hf, _, _, _, _, _, rfl, .ty "str", .base (.str _), kit_ty (show kitB "str" "str" = some true by decide +kernel), _, rfl, iteF ⟨_, rfl, b, _, dx, fs, _, _, _, rfl, ea, ed, xc, .own _, hB, _, rfl, iteF ⟨_, rfl, z5⟩⟩⟩
      · rintro σ H5 ⟨y9, rfl, z5⟩
        refine ⟨_, rfl, fun a4 d4 h41 h42 h43 => ?_⟩
        try rw [eK]
        obtain ⟨s4, r4⟩ := er_new (K := K) (i := 18) (C := He.ga K "ForkError") (fs := [("why", V.str "a")]) (v := V.str "a") h41 h42 h43 rfl rfl
        try dsimp (config := { proj := false }) only
        generalize upd (upd H5 d4 (exd d4 [("why", V.str "a")])) a4 (exo a4 (He.ga K "ForkError") (some d4)) = G5 at s4 r4 ⊢
        refine ⟨a4, 18, V.str "a", rfl, by decide, r4, fun p5 G6 n5 s5 e5 => ?_⟩
        refine ⟨(by show 1 ≤ sizeLine; decide), fun p6 hp6 => ?_⟩
        refine ⟨p6, 18, [V.bl false], rfl, rfl, upd_same, by decide, by decide, (by show 18 ≤ sizeLine; decide), fun p7 hp7 => ?_⟩
        have e7 : upd (upd G6 p6 (.lst [V.bl false])) p7 (.lst (List.replicate (18 : Int).toNat [V.bl false]).flatten) p7 = some (.lst ((marks 18).map V.bl)) := upd_same
        refine ⟨_, _, .lst (SqL.of (same_new hp7 _ _ (same_new hp6 _ _ e5))) (dp_bls _), .lst (SqL.of e7) (dp_bls _), sh_bls _, sh_bls _, _, rfl, eqT (eq_bls _) ?_⟩
        refine ⟨_, rfl, fun a8 d8 h81 h82 h83 => ?_⟩
        obtain ⟨s8, d9, fs, ea, ed, hf⟩ := er_new (K := K) (i := 18) (C := He.ga K "ForkError") (fs := [("why", V.str "b")]) (v := V.str "b") h81 h82 h83 rfl rfl
        obtain ⟨xf, xc, no⟩ := T.eok (i := 18) (by decide)
        exact ⟨a8, _, d9, fs, _, rfl, ea, ed, xf, no, hf, _, _, _, _, _, rfl, .ty "str", .base (.str _), kit_ty (show kitB "str" "str" = some true by decide +kernel), k _⟩
end
end K02
namespace K02
open PySem PySem.Spec PyProof.Rows L2 Fk TL
theorem facts {w : World} {K : PySem.W.Frag} {h : Heap} {mg : Str → Option Value} {f : Addr} (X : K.In h) (G : h.Ns mainGlobals mg) (hfa : mg ("law" : Str) = some (.ref f)) (c : Fk.SaysY FILE fa fn inis exx K) :
    ∃ fd : FuncData, (∀ (s : Shared) (v : Value), BindsTo s fd ⟨[v], []⟩ [("_law_script", v)]) ∧ ∀ base : Heap, K.In base → base.Ns mainGlobals mg → FnOk PP w K mg base CX0 6 f fd ["_law_script"] (spLaw K) := by
  have T : Ctx K mg := ⟨⟨h, X, G⟩, c⟩
  obtain ⟨fd, F⟩ := T.c.def_ 16 (d := d_law) rfl
  have e := hfa.symm.trans T.g_law
  cases e
  have b := FunD.bindsA (ps := ["_law_script"]) F fun _ _ _ _ _ _ us hl => match us, hl with | [_], _ => rfl
  exact ⟨fd, fun s v => b s [v] rfl, fun base _ _ => ok_law T F⟩
end K02
open PySem PySem.W PySem.Calls PyProof.Rows
theorem PySem.Challenge.cw_forkhaul_k02_errors_and_their_kinds_holds : PySem.Challenge.rw_forkhaul_k02_errors_and_their_kinds.Holds := by
  w_on; o_law
  refine HandSHeadRun.head_any (r := OpenLaw.row PySem.Challenge.rw_forkhaul_k02_errors_and_their_kinds) (q := view (OpenLaw.row PySem.Challenge.rw_forkhaul_k02_errors_and_their_kinds).prog [37]) (H := K02.hk) (ob := K02.ob) (M := 20000) (loose := K02.loose) (d := HandSHeadRun.topDef (OpenLaw.row PySem.Challenge.rw_forkhaul_k02_errors_and_their_kinds).prog 37) (kwd := []) K02.ob_eq
    (by kernel_rfl) (fun s => by kernel_rfl) K02.run (by kernel_rfl) (by kernel_rfl) (by kernel_rfl) (by rfl) (by first | assumption | decide +kernel) (by decide +kernel) ⟨rfl, rfl, rfl, rfl, rfl, by decide +kernel⟩ ?hw ?hc
  case hw => w_witness2
  case hc =>
    refine L2.walk_ofE (l := PySem.Challenge.rw_forkhaul_k02_errors_and_their_kinds) (n := 63) (k := 6) (x := "_law_script") (CX := L2.CX0) rfl (by decide) (by kernel_rfl) ⟨rfl, by decide, by decide⟩ ?F (fun _ _ _ _ z => z)
    intro w mg fa h Y G hmg0
    obtain ⟨K, KX, c⟩ := Y
    have hmg : mg ("law" : PySem.Str) = some (.ref fa) := by
      have e : (HandSHeadRun.topDef (OpenLaw.row PySem.Challenge.rw_forkhaul_k02_errors_and_their_kinds).prog 37).name = ("law" : PySem.Str) := by kernel_rfl
      rw [← e]
      exact hmg0
    obtain ⟨fd, hb, hF⟩ := K02.facts (w := w) KX G hmg c
    exact ⟨K, fd, K02.spLaw K, KX, hb, fun H a ns hl _ hS => ⟨a, ns, rfl, hS, hl, fun _ => rfl⟩, hF⟩
