import PyProof.Rows.All
import Wide.All
import OpenK.AllK
import Wide.FinOn
import KE.KStateDown
import HandS.ForMost
import HandS.IsInst
import HandS.CallLocal
import HandS.Defaults
import HandS.Wide
import HandS.Walk
import HandS.Flow
import HandS.Head0
import HandS.Head1
import HandS.Head2
import HandS.HeadEnd
import HandS.HeadHook1
import HandS.HeadHook2
import KE.KSuper
import KE.KExcSuper
import HandS.Exc
import HandS.ExcInit
import HandS.ExcSuper
import HandS.TryOnly
import HandS.TryMany
import HandS.WordsExc
import HandS.MakeKw
import HandS.Codes
import HandS.ExcValue
import KE.KExcIs
import HandS.ExcIs
import HandS.ExcField
import HandS.Property
import HandS.OwnEq
import PyProof.InstEq
import KE.KStrBytes
import HandS.List
import HandS.ExcOwn
import HandS.DictComp
import HandS.MakeKwOnly
import KE.DataEq
import KE.KDictPairs
import HandS.More
import HandS.Conv
import HandS.Small
import PySem.Challenge.RW_forkhaul_k31_whole_edits_one_by_one
set_option Elab.async false
set_option linter.all false
set_option maxRecDepth 100000
set_option maxHeartbeats 0
namespace Fk
open PySem PySem.Spec PyProof.Rows L2 TL
/-! ### heaps: all stands as it was, but at w -/
def Kp (w : Addr) (H H' : Hp) : Prop := ∀ b o, H b = some o → b ≠ w → H' b = some o
theorem Kp.refl (w : Addr) (H : Hp) : Kp w H H := fun _ _ h _ => h
theorem Kp.trans {w : Addr} {H H1 H2 : Hp} (a : Kp w H H1) (b : Kp w H1 H2) : Kp w H H2 := fun c o h n => b c o (a c o h n) n
theorem Kp.of {w : Addr} {H H' : Hp} (s : Same H H') : Kp w H H' := fun c o h _ => s c o h
theorem same_new {H : Hp} {p : Addr} {o : HO} (h : H p = none) : Same H (upd H p o) := fun b u e => by
  rw [upd_ne (ne_of_none e h)]
  exact e
theorem Kp.new {w p : Addr} {H H' : Hp} {o : HO} (k : Kp w H H') (h : H' p = none) : Kp w H (upd H' p o) := k.trans (.of (same_new h))
theorem Kp.put {w : Addr} {H H' : Hp} {o : HO} (k : Kp w H H') : Kp w H (upd H' w o) := fun c u h n => by
  rw [upd_ne n]
  exact k c u h n
/-- an object that H does not know may change -/
theorem Kp.mut {w p : Addr} {H H' : Hp} {o : HO} (k : Kp w H H') (h : H p = none) : Kp w H (upd H' p o) := fun c u e n => by
  rw [upd_ne (ne_of_none e h)]
  exact k c u e n
theorem same_mut {p : Addr} {H H' : Hp} {o : HO} (k : Same H H') (h : H p = none) : Same H (upd H' p o) := fun c u e => by
  rw [upd_ne (ne_of_none e h)]
  exact k c u e
theorem Kp.free {w p : Addr} {H H' : Hp} (k : Kp w H H') (n : p ≠ w) (h : H' p = none) : H p = none := by
  cases q : H p with
  | none => rfl
  | some o =>
    rw [k p o q n] at h
    cases h
/-! ### a source of draws at w: three numbers; n draws are left -/
def Wl (H : Hp) (w : Addr) (n : Nat) : Prop := ∃ a b c : Int, H w = some (.lst [.int a, .int b, .int c]) ∧ 0 ≤ a ∧ 0 ≤ c ∧ c + n ≤ 1000000
theorem Wl.le {H : Hp} {w : Addr} {n m : Nat} (h : Wl H w n) (e : m ≤ n) : Wl H w m := by
  obtain ⟨a, b, c, h1, h2, h3, h4⟩ := h
  exact ⟨a, b, c, h1, h2, h3, by omega⟩
theorem Wl.new {H : Hp} {w p : Addr} {n : Nat} {o : HO} (h : Wl H w n) (hp : H p = none) : Wl (upd H p o) w n := by
  obtain ⟨a, b, c, h1, h2⟩ := h
  exact ⟨a, b, c, by rw [upd_ne (ne_of_none h1 hp)]; exact h1, h2⟩
theorem Wl.mut {H : Hp} {w p : Addr} {n : Nat} {o : HO} (h : Wl H w n) (hp : w ≠ p) : Wl (upd H p o) w n := by
  obtain ⟨a, b, c, h1, h2⟩ := h
  exact ⟨a, b, c, by rw [upd_ne hp]; exact h1, h2⟩
theorem Wl.same {H H' : Hp} {w : Addr} {n : Nat} (h : Wl H w n) (s : Same H H') : Wl H' w n := by
  obtain ⟨a, b, c, h1, h2⟩ := h
  exact ⟨a, b, c, s _ _ h1, h2⟩
theorem Wl.ne {H : Hp} {w p : Addr} {n : Nat} (h : Wl H w n) (hp : H p = none) : p ≠ w := by
  obtain ⟨a, b, c, h1, _⟩ := h
  exact (ne_of_none h1 hp).symm
/-! ### a def of the module by its name -/
structure Ok (P : Program) (w : World) (K : PySem.W.Frag) (mg : Str → Option Value) (base : Heap) (k : Nat) (x : Str) (ps : List Str) (sp : Sp) : Prop where
  ex : ∃ fd, FnOk P w K mg base CX0 k (He.ga K x) fd ps sp ∧ Binds K fd ps []
  kp : PySem.W.keepIn K (.ref (He.ga K x)) = true
  m : mg x = some (.ref (He.ga K x))
section
variable {X : Cx} {j : Nat} {x : Str} {ps : List Str} {sp : Sp} {p pos : Pos} {e : Expr} {es : List Expr} {t : TA}
theorem pe_own (O : Ok X.prog X.w X.K X.mg X.base j x ps sp) (hr : Room j X.A) (hg : Gl X x) (ha : PA X (e :: es) t) (hdb : (x == ("__debug__" : Str)) = false := by decide)
    (he : starEach (e :: es) X.env = (false, eval e X.env) :: starEach es X.env := by rfl) (hpl : (backTo pos (starEach es X.env)).any (·.1) = false := by rfl) :
    PE X (.Call (.Name x p) (e :: es) [] pos) (tCall sp [] E0 t) := by
  obtain ⟨⟨fd, F, b⟩, kp, m⟩ := O
  exact pe_call F hr hg m kp b .nil pass0 ha hdb he hpl
theorem pe_own0 (O : Ok X.prog X.w X.K X.mg X.base j x ps sp) (hr : Room j X.A) (hg : Gl X x) (hdb : (x == ("__debug__" : Str)) = false := by decide) :
    PE X (.Call (.Name x p) [] [] pos) (tCall sp [] E0 tNil) := by
  obtain ⟨⟨fd, F, b⟩, kp, m⟩ := O
  exact pe_call0 F hr hg m kp b .nil pass0 hdb
theorem pe_gref {a : Addr} (m : X.mg x = some (.ref a)) (hg : Gl X x) (hd : (x == ("__debug__" : Str)) = false := by decide) : PE X (.Name x pos) (tC (.ref a)) := pe_glob hg m rfl hd
/-- a text, many times -/
theorem op_mul_str : OpR X (binaryOp .Mult) (fun x y H Q => ∃ z i, x = .str z ∧ y = .int i ∧ (0 ≤ i ∧ i ≤ 1000000 ∧ z.length ≤ 1000 ∧ z.length * i.toNat ≤ 1000000) ∧ Q (.str (Txt.mul z i)) H) := by
  intro pins s σ H x y v u Q I rx ry h
  obtain ⟨z, i, rfl, rfl, ⟨h0, h1, h2, h3⟩, q⟩ := h
  obtain ⟨t, rfl⟩ := rx
  obtain ⟨t', rfl⟩ := ry
  refine SB.mul ⟨?_, fun g _ => ?_, fun _ _ => ?_⟩ fun t' k => ⟨.str (Txt.mul z i), H, I.tok _, ⟨_, rfl⟩, q⟩
  · rw [Bool.or_eq_false_iff]
    exact ⟨decide_eq_false (by omega), decide_eq_false (by omega)⟩
  · have hi : 1 ≤ i := by omega
    have : (1000 : Int) ≤ (2 ^ 63 - 1) / i := by
      rw [Int.le_ediv_iff_mul_le (by omega)]
      omega
    omega
  · show decide (z.length * i.toNat > sizeLine) = false
    have e := sizeLine_eq
    exact decide_eq_false (by omega)
end
/-! ### comprehensions -/
theorem wipe1 (σ : L2.St) (i : Nat) (v : Option V) : wipe ((wipe σ [i]).set i v) [i] = wipe σ [i] := by
  show ((σ.set i none).set i v).set i none = σ.set i none
  rw [List.set_set, List.set_set]
section
variable {J : It} {G : Hp → Prop} {xs : List V} {tt : TT} {te : TE} {i : Nat} {σ : L2.St} {H1 : Hp} {D : Addr} {Qd : Hp → Prop}
/-- a comprehension that leaves all as it was: the items that pass p, by f -/
theorem lc_same (w : Walk J xs.length G (YAt xs)) (p : V → Bool) (f : V → V) (hG : ∀ H, Same H1 H → G H) (hz : xs.length < sizeLine) (hD : H1 D = none)
    (ht : ∀ x H (Q : Bool → Hp → Prop), x ∈ xs → Same H1 H → (∀ H3, Same H H3 → Q (p x) H3) → tt ((wipe σ [i]).set i (some x)) H Q)
    (he : ∀ x H (Q : VK), x ∈ xs → p x = true → Same H1 H → (∀ H3, Same H H3 → Q (f x) H3) → te ((wipe σ [i]).set i (some x)) H Q)
    (hd : ∀ H, Same H1 H → H D = some (.lst ((xs.filter p).map f)) → Qd H) :
    ∃ W : Nat → Nat → Hp → Prop, (∃ m, W 0 m (upd H1 D (.lst []))) ∧ ∀ i' m H, W i' m H →
      (J.stop i' H ∧ Qd H) ∨ (J.go i' H ∧ ∃ Nx : Hp → Prop, (∀ H', Nx H' → ∃ m', m' < m ∧ W (i' + 1) m' H') ∧ ∀ x H', J.yld i' H x H' → gName i x (wipe σ [i]) H' fun σ2 H2 => wipe σ2 [i] = wipe σ [i] ∧ tt σ2 H2 fun b H3 =>
        if b = true then te σ2 H3 fun y H4 => ∃ acc, H4 D = some (.lst acc) ∧ acc.length < sizeLine ∧ Nx (upd H4 D (.lst (acc ++ [y]))) else Nx H3) := by
  refine lc_it w (fun n H => Same H1 H ∧ H D = some (.lst (((xs.take n).filter p).map f))) ⟨same_new hD, upd_same⟩ (fun n H _ h => hG H h.1) (fun n x H H' hn h hy => ?_) fun H h => ?_
  · obtain ⟨rfl, hx⟩ := hy
    obtain ⟨s1, h1⟩ := h
    refine ⟨wipe1 σ i (some x), ?_⟩
    have hm : x ∈ xs := List.mem_of_getElem? hx
    have et : xs.take (n + 1) = xs.take n ++ [x] := by
      rw [List.take_succ, hx]
      rfl
    refine ht x _ _ hm s1 fun H3 s3 => ?_
    cases q : p x with
    | true =>
      refine he x H3 _ hm q (s1.trans s3) fun H4 s4 => ⟨_, s4 _ _ (s3 _ _ h1), ?_, same_mut (s1.trans (s3.trans s4)) hD, ?_⟩
      · rw [List.length_map]
        refine Nat.lt_of_le_of_lt (Nat.le_trans (List.length_filter_le _ _) ?_) hz
        rw [List.length_take]
        omega
      · rw [et, List.filter_append, List.map_append, upd_same]
        have e : [x].filter p = [x] := by simp [q]
        rw [e]
        rfl
    | false =>
      refine ⟨s1.trans s3, ?_⟩
      rw [et, List.filter_append, List.map_append]
      have e : [x].filter p = [] := by simp [q]
      rw [e, List.map_nil, List.append_nil]
      exact s3 _ _ h1
  · obtain ⟨s1, h1⟩ := h
    rw [List.take_length] at h1
    exact hd H s1 h1
/-- a comprehension without a test whose items draw from u, k draws an item; each item is a P -/
theorem lc_wl {N : Nat} {Y : Nat → Hp → V → Hp → Prop} (w : Walk J N (fun _ => True) Y) (hY : ∀ i H x H', Y i H x H' → H' = H) (P : V → Prop) {u : Addr} {n k : Nat} (hu : Wl H1 u (n + N * k)) (hz : N < sizeLine) (hD : H1 D = none)
    (he : ∀ x H (m : Nat) (Q : VK), Wl H u (m + k) → Kp u H1 H → (∀ y H', P y → Wl H' u m → Kp u H H' → Q y H') → te ((wipe σ [i]).set i (some x)) H Q)
    (hd : ∀ H ys, Kp u H1 H → Wl H u n → H D = some (.lst ys) → ys.length = N → (∀ y ∈ ys, P y) → Qd H) :
    ∃ W : Nat → Nat → Hp → Prop, (∃ m, W 0 m (upd H1 D (.lst []))) ∧ ∀ i' m H, W i' m H →
      (J.stop i' H ∧ Qd H) ∨ (J.go i' H ∧ ∃ Nx : Hp → Prop, (∀ H', Nx H' → ∃ m', m' < m ∧ W (i' + 1) m' H') ∧ ∀ x H', J.yld i' H x H' → gName i x (wipe σ [i]) H' fun σ2 H2 => wipe σ2 [i] = wipe σ [i] ∧ tYes σ2 H2 fun b H3 =>
        if b = true then te σ2 H3 fun y H4 => ∃ acc, H4 D = some (.lst acc) ∧ acc.length < sizeLine ∧ Nx (upd H4 D (.lst (acc ++ [y]))) else Nx H3) := by
  have hDu : D ≠ u := hu.ne hD
  refine lc_it w (fun j H => Kp u H1 H ∧ Wl H u (n + (N - j) * k) ∧ ∃ ys, H D = some (.lst ys) ∧ ys.length = j ∧ ∀ y ∈ ys, P y) ⟨(Kp.refl _ _).new hD, hu.new hD, [], upd_same, rfl, fun y h => by cases h⟩ (fun _ _ _ _ => trivial) (fun j x H H' hj h hy => ?_) fun H h => ?_
  · have e := hY _ _ _ _ hy
    subst e
    obtain ⟨k1, hw, ys, h1, hl, hP⟩ := h
    refine ⟨wipe1 σ i (some x), ?_⟩
    show te ((wipe σ [i]).set i (some x)) _ _
    have e1 : N - j = (N - (j + 1)) + 1 := by omega
    rw [e1, Nat.succ_mul, ← Nat.add_assoc] at hw
    refine he x _ _ _ hw k1 fun y H4 py hw4 k4 => ⟨ys, k4 _ _ h1 hDu, by omega, ((k1.trans k4).mut hD), hw4.mut hDu.symm, _, upd_same, by rw [List.length_append, hl]; rfl, fun z hz => ?_⟩
    rcases List.mem_append.mp hz with hz | hz
    · exact hP z hz
    · rw [List.mem_singleton.mp hz]
      exact py
  · obtain ⟨k1, hw, ys, h1, hl, hP⟩ := h
    rw [Nat.sub_self, Nat.zero_mul] at hw
    exact hd H ys k1 hw h1 hl hP
end
/-- a text, sign by sign, as a list of texts -/
def sg (c : Nat) : V := .str ⟨#[c]⟩
theorem walk_text {z : Str} : Walk (Its z) ((tl z).map sg).length (fun _ => True) (YAt ((tl z).map sg)) := by
  have e : ((tl z).map sg).length = z.cps.size := by rw [List.length_map]; rfl
  rw [e]
  refine (walk_str (z := z)).mono (fun _ h => h) fun i H x H' hi _ y => ?_
  obtain ⟨e, c, h1, h2⟩ := y
  refine ⟨e, ?_⟩
  rw [List.getElem?_map, h2]
  have h3 : (tl z)[i]? = some c := by
    show z.cps.toList[i]? = some c
    rw [Array.getElem?_toList]
    exact h1
  rw [h3]
  rfl
end Fk
namespace Fk
open PySem PySem.Spec PyProof.Rows L2
/-! ### built-in classes of errors under the program's own -/
abbrev keyTail : List Value := [.type "KeyError", .type "LookupError", .type "Exception", .type "BaseException", .type "object"]
theorem kxKey : PySem.W.KxsFacts "KeyError" "KeyError.__init__" := ⟨by show builtinType _ = _; rw [builtinType_eq_fast]; kernel_rfl, by first | kernel_rfl | rfl⟩
/-- a base: its name, the class that makes, __new__, __init__, the classes above -/
structure EBase where
  B : String
  nb : String
  nw : String
  ini : String
  tail : List Value
  fn : ∃ i0 t0, ExcBaseFacts nb nw i0 t0
  ex : PyProof.Rows.ExcClass B nw ini
  kx : PySem.W.KxsFacts B ini
  pass : ∀ self : Value, refuseLoop self "__setattr__" tail = pure ()
  obj : tail.contains (.type "object") = true
  has : tail.contains (.type nb) = true
  noA : tail.contains (.type "AttributeError") = false
  noN : tail.contains (.type "NameError") = false
  quiet : ini.startsWith "lifetime." = false
def ebV : EBase := ⟨"ValueError", "ValueError", "ValueError.__new__", "ValueError.__init__", PySem.HandSPX.veTail, ⟨_, _, F.excBase_ValueError⟩, PyProof.Rows.excClass_ValueError, PySem.W.kxs_ValueError, F.store_ValueError.passes, by decide +kernel, by decide +kernel, by decide +kernel, by decide +kernel, by decide +kernel⟩
def ebK : EBase := ⟨"KeyError", "LookupError", "LookupError.__new__", "KeyError.__init__", keyTail, ⟨_, _, F.excBase_LookupError⟩, PyProof.Rows.excClass_KeyError, kxKey, fun self => by kernel_rfl, by decide +kernel, by decide +kernel, by decide +kernel, by decide +kernel, by decide +kernel⟩
/-- own classes, then the base's row -/
def rowIs (t : List Value) : List Value → Bool
  | .ref _ :: r => rowIs t r
  | l => l == t
theorem tl_cases {t : List Value} (l : List Value) (h : rowIs t l = true) : (∃ c r, l = .ref c :: r ∧ rowIs t r = true) ∨ l = t := by
  cases l with
  | nil => exact .inr (beq_iff_eq.mp h)
  | cons x r =>
    cases x with
    | ref c => exact .inl ⟨c, r, rfl, h⟩
    | _ => exact .inr (beq_iff_eq.mp h)
theorem tl_pass {t : List Value} {self : Value} (p : refuseLoop self "__setattr__" t = pure ()) : ∀ l : List Value, rowIs t l = true → refuseLoop self "__setattr__" l = pure ()
  | [], h => by
    rcases tl_cases [] h with ⟨c, r, e, _⟩ | e
    · cases e
    · rw [e]
      exact p
  | x :: l, h => by
    rcases tl_cases (x :: l) h with ⟨c, r, e, h'⟩ | e
    · obtain ⟨rfl, rfl⟩ := List.cons.inj e
      rw [refuseLoop_ref]
      exact tl_pass p l h'
    · rw [e]
      exact p
theorem tl_has {t : List Value} (n : String) : ∀ l : List Value, rowIs t l = true → l.contains (.type n) = t.contains (.type n)
  | [], h => by
    rcases tl_cases [] h with ⟨c, r, e, _⟩ | e
    · cases e
    · rw [e]
  | x :: l, h => by
    rcases tl_cases (x :: l) h with ⟨c, r, e, h'⟩ | e
    · obtain ⟨rfl, rfl⟩ := List.cons.inj e
      rw [List.contains_cons, tl_has n l h']
      rfl
    · rw [e]
/-! ### C(.., k = v) with keywords -/
section
open PySem.HandSPX Builtin Builtin.ObjectAttr
variable {M : Model} {A : Around} {E : Value → Shared → Prop} {h : Heap} {g : Array GenState} {d : Drawn} {t : Nat} {os : OsState}
variable {nm q : Str} {C N : Addr} {bs bm bmB : List Value} {hdct : Bool} {sn : List Str} {sub : List Value} {ab : Bool} {col : Option Bool} {dd : Option Addr} {k0 k1 k2 k3 k5 : Option Value} {B newId initId : String} {kw : List (Str × Value)}
theorem ck_new (F : ExcBaseFacts B newId initId bmB) (hT : bm.contains (.type B) = true ∧ bm.contains (.type "AttributeError") = false ∧ bm.contains (.type "NameError") = false) {rest : List Value} {Q : Unit → Shared → Prop}
    (hC : h.get? C = some (excClassObj nm q C N bs bm hdct sn sub ab col dd k0 k1 k2 k3 k5 newId)) (hq : Q () ⟨h, g, d, t, os⟩) : wpAny M A (checkBuiltinCall newId ⟨.ref C :: rest, kw⟩) Q E ⟨h, g, d, t, os⟩ := by
  have hB : (Value.ref C :: bm).contains (.type B) = true := by rw [List.contains_cons, hT.1, Bool.or_true]
  have hS := F.noStar
  simp only [checkBuiltinCall, F.newKind, F.newSplit, F.newRow]
  repeat (first | refine wpAny_loadPart_at hC ?_ | (refine wpAny_isSubtype_exc hC ?_; rw [hB]) | refine wpAny_staticBase_exc hC ?_ | refine wpAny_madeBy_exc hC ?_ | simp only [bne_self_eq_false, Bool.false_eq_true, if_false] | wp_step)
  exact hq
end
section
open PySem.HandSPX Builtin Builtin.ObjectAttr
variable {prog : Program} {w : World} {A : Around} {E : Value → Shared → Prop} {R : Result → Shared → Prop} {h : Heap} {g : Array GenState} {d : Drawn} {t : Nat} {os : OsState}
variable {nm q : Str} {C N : Addr} {bs bm bmB : List Value} {hdct : Bool} {sn : List Str} {sub : List Value} {ab : Bool} {col : Option Bool} {dd : Option Addr} {k0 k1 k2 k3 k5 : Option Value} {B newId initId : String} {kw : List (Str × Value)}
theorem rn_new (F : ExcBaseFacts B newId initId bmB) (hT : bm.contains (.type B) = true ∧ bm.contains (.type "AttributeError") = false ∧ bm.contains (.type "NameError") = false) {rest : List Value}
    (hC : h.get? C = some (excClassObj nm q C N bs bm hdct sn sub ab col dd k0 k1 k2 k3 k5 newId))
    (hq : R (.ok (.ret (.ref (h.objs.size + 1)))) ⟨(h.push (W.kdv_tup rest)).push (excO C h.objs.size), g, d, t, os⟩) (hrest : rest.length ≤ sizeLine) :
    codeAny (model prog w) A (.builtin newId ⟨.ref C :: rest, kw⟩) R ⟨h, g, d, t, os⟩ := by
  have hends := F.ends
  have a1 : (Value.ref C :: bm).contains (.type B) = true := by rw [List.contains_cons, hT.1, Bool.or_true]
  have a2 : (Value.ref C :: bm).contains (.type "AttributeError") = false := by rw [List.contains_cons, hT.2.1]; rfl
  have a3 : (Value.ref C :: bm).contains (.type "NameError") = false := by rw [List.contains_cons, hT.2.2]; rfl
  refine codeAny_builtinAt F.entry ?_
  unfold Builtin.«BaseException.__new__»
  refine _root_.PySem.wpAt_bind ?_
  show _root_.PySem.wpAt _ _ _ (stack >>= _) _ _ _
  refine _root_.PySem.wpAt_bind (_root_.PySem.wpAt_stack fun p below => _root_.PySem.wpAt_of_wpAny ?_)
  wp_walk
  refine _root_.PySem.wpAt_of_wpAny ?_
  rw [F.owner]
  repeat (first | with_reducible refine wpAny_madeHere_exc F.canon hC ?_ | with_reducible refine wpAny_loadPart_at hC ?_ | (with_reducible refine wpAny_isSubtype_exc hC ?_; first | rw [a1] | rw [a2] | rw [a3]) | wp_step)
  show R _ _
  rw [Heap.size_push]
  exact hq
theorem tc_mk (F : ExcBaseFacts B newId initId bmB) (hT : bm.contains (.type B) = true ∧ bm.contains (.type "AttributeError") = false ∧ bm.contains (.type "NameError") = false) {rest : List Value} {fI : Addr} {Q : Fin → Shared → Prop}
    (hC : h.get? C = some (excClassObj nm q C N bs bm hdct sn sub ab col dd k0 k1 k2 k3 k5 newId))
    (hi : W.Looks (model prog w) h (typeLookup (.ref C) "__init__") (some (.ref fI))) (hb : ∀ self, W.Looks (model prog w) h (bindSpecial (.ref fI) self) (.ref fI, [self])) (hrest : rest.length ≤ sizeLine)
    (hq : codeAny (model prog w) A (.call (.ref fI) ⟨.ref (h.objs.size + 1) :: rest, kw⟩)
      (fun r s' => match r with | .ok (.ret v) => v = .none ∧ Q (.done (.ret (.ref (h.objs.size + 1)))) s' | .ok _ => False | .error e => E e s')
      ⟨(h.push (W.kdv_tup rest)).push (excO C h.objs.size), g, d, t, os⟩) :
    wpAny (model prog w) A (Builtin.«type.__call__» ⟨.ref C :: rest, kw⟩) Q E ⟨h, g, d, t, os⟩ := by
  repeat (first | with_reducible refine wpAny_loadPart_at hC ?_ | with_reducible refine wpAny_madeBy_exc hC ?_ | wp_step)
  refine codeAny_call_builtin_code (Code.quiet_builtin _ F.quiet) (ck_new F hT hC ?_)
  refine rn_new F hT hC ?_ hrest
  show wpAny _ _ _ _ _ _
  have k : ∀ b o, h.get? b = some o → ((h.push (W.kdv_tup rest)).push (excO C h.objs.size)).get? b = some o := fun b o e => Heap.get?_push_of_some _ (Heap.get?_push_of_some _ e)
  have c1 := k _ _ hC
  have e1 : ((h.push (W.kdv_tup rest)).push (excO C h.objs.size)).get? (h.objs.size + 1) = some (excO C h.objs.size) := by heap_get
  have cc : (Value.ref C :: bm).contains (.ref C) = true := by simp
  have i1 := hi.keeps k
  have b1 := (hb (.ref (h.objs.size + 1))).keeps k
  unfold isInstance
  repeat (first | with_reducible refine wpAny_loadPart_at e1 ?_ | (with_reducible refine wpAny_isSubtype_exc c1 ?_; rw [cc]) | wp_step)
  show wpAny _ _ (typeLookup (.ref C) _) _ _ _
  refine i1.at (wpAny_holding (wpAny_bind (b1.at (wpAny_bind (wpAny_call (codeAny_mono hq fun r s' z => ?_))))))
  rcases r with e | (v | _ | _ | _) <;> first | exact z | exact z.elim | skip
  obtain ⟨rfl, z⟩ := z
  first
    | exact wpAny_pure (wpAny_pure z)
    | (wp_walk; exact z)
theorem ck_tc {M : Model} {rest : List Value} {Q : Unit → Shared → Prop} (hC : h.get? C = some (excClassObj nm q C N bs bm hdct sn sub ab col dd k0 k1 k2 k3 k5 newId))
    (hq : Q () ⟨h, g, d, t, os⟩) : wpAny M A (checkBuiltinCall "type.__call__" ⟨.ref C :: rest, kw⟩) Q E ⟨h, g, d, t, os⟩ := by
  have f3 := tc_sub
  have hT : (⟨h, g, d, t, os⟩ : Shared).TypeIs (.ref C) "type" := ⟨_, hC, rfl⟩
  simp only [checkBuiltinCall, tc_kind, tc_split]
  repeat (any_goals (first | assumption | with_reducible refine wpAny_loadPart_at hC ?_ | with_reducible refine wpAny_onRaise ?_ | with_reducible refine wpAny_map ?_ | wp_step))
theorem cl_own (F : ExcBaseFacts B newId initId bmB) (hT : bm.contains (.type B) = true ∧ bm.contains (.type "AttributeError") = false ∧ bm.contains (.type "NameError") = false) {rest : List Value} {fI : Addr}
    (hC : h.get? C = some (excClassObj nm q C N bs bm hdct sn sub ab col dd k0 k1 k2 k3 k5 newId))
    (hi : W.Looks (model prog w) h (typeLookup (.ref C) "__init__") (some (.ref fI))) (hb : ∀ self, W.Looks (model prog w) h (bindSpecial (.ref fI) self) (.ref fI, [self])) (hrest : rest.length ≤ sizeLine)
    (hq : codeAny (model prog w) (A.under (.builtin "type.__call__" ⟨.ref C :: rest, kw⟩)) (.call (.ref fI) ⟨.ref (h.objs.size + 1) :: rest, kw⟩) (W.InitBack (h.objs.size + 1) R)
      ⟨(h.push (W.kdv_tup rest)).push (excO C h.objs.size), g, d, t, os⟩) :
    codeAny (model prog w) A (.call (.ref C) ⟨rest, kw⟩) R ⟨h, g, d, t, os⟩ := by
  have f1 := tc_lookup
  have f2 := tc_bind (.ref C)
  have hTy : (⟨h, g, d, t, os⟩ : Shared).TypeIs (.ref C) "type" := ⟨_, hC, rfl⟩
  refine codeAny_of_tree ?_
  show wpAny _ _ (callAny (.ref C) _) _ _ _
  repeat (any_goals (first | assumption | with_reducible refine wpAny_loadPart_at hC ?_ | wp_step))
  refine ⟨rfl, ?_⟩
  refine codeAny_call_builtin_at (Code.quiet_builtin _ (by decide +kernel)) entry_typeCall (ck_tc hC (tc_mk F hT hC hi hb hrest ?_))
  refine codeAny_mono hq fun r s' z => ?_
  rcases r with e | (v | _ | _ | _) <;> exact z
/-! ### self.name = v -/
theorem so_new {EB : EBase} {K : W.Frag} {name : Str} {tk : Tok} {v : Value} {x C : Addr} {fv : Array Value} {cd : ClassData}
    (X : K.In h) (hx : h.get? x = some { cls := .ref C, data := .fields fv }) (hcd : W.clsIn K C = some cd) (hm : rowIs EB.tail cd.mro = true) (hne : cd.mro.isEmpty = false) (hh : cd.hasDict = true) (ha : W.findIn K (.ref C) name = some none)
    (hq : ∀ h' tk' dx, (∀ b o, b ≠ x → h.get? b = some o → h'.get? b = some o) → h.objs.size ≤ dx → dx ≠ x → h'.get? x = some { cls := .ref C, dict := some dx, data := .fields fv } →
      h'.Ns1 dx (fun y => if y = name then some v else none) → R (.ok (.ret .none)) ⟨h', g, d, tk', os⟩) :
    codeAny (model prog w) A (.call (.builtin "object.__setattr__") ⟨[.ref x, .str name tk, v], []⟩) R ⟨h, g, d, t, os⟩ := by
  have I : W.InstAt h x { cls := .ref C, data := .fields fv } C none := ⟨hx, rfl, rfl, trivial⟩
  have SF := F.store_object
  have ho : cd.mro.contains (.type "object") = true := (tl_has "object" _ hm).trans EB.obj
  have hxs : x ≠ h.objs.size := Nat.ne_of_lt (Heap.lt_size hx)
  have sub : W.Looks (model prog w) h (isInstance (.ref x) (.type "object")) true := I.type.andThen (W.looks_mroIn X (by unfold W.mroIn; rw [hcd, Option.bind_some, if_neg (by rw [hne]; decide), ho]))
  refine codeAny_call_builtin SF.slot.plain SF.entry (@W.check_slot (model prog w) _ _ ⟨h, g, d, t, os⟩ "object.__setattr__" "object" "__setattr__" (.ref x) [.str name tk, v] [] _ SF.kind SF.split sub (SF.args (.ref x) (.str name tk) v) ?_)
  have mr : W.Looks (model prog w) h (mroOf (.ref C)) cd.mro := (W.looks_clsIn X hcd).andThen .now
  have l3 : W.Looks (model prog w) h (storeTaker? none) none := .now
  have lc : W.Looks (model prog w) h (classData C) cd := W.looks_clsIn X hcd
  rw [W.osa_eq, refuse_eq]
  refine wpAny_bind (wpAny_bind (I.type.at (wpAny_bind (mr.at ?_))))
  rw [tl_pass (EB.pass _) _ hm]
  refine wpAny_pure (wpAny_bind (I.type.at (wpAny_bind ((W.looks_findIn X ha).at (wpAny_bind (l3.at ?_))))))
  show wpAny _ _ (storeInOwnDict (.ref x) (.ref C) (.str name tk) name v false) _ _ _
  obtain ⟨nm, bs, mro, ns, qn, hd, sn, sb, ab, col, del⟩ := cd
  dsimp only at hh
  subst hh
  unfold storeInOwnDict ownDictForStores
  repeat (first | with_reducible refine store_in_new ?_ ?_ | with_reducible refine wpAny_loadPart_at hx ?_ | with_reducible refine lc.at ?_ | wp_step)
  · exact ⟨_, #[], _, (Heap.get?_update_ne _ _ _ _ hxs.symm).trans (Heap.get?_push_at rfl rfl), rfl, fun e he => absurd he (by simp), fun _ => rfl⟩
  · intro h' tk' hn' hs
    have hx₁ : (h.push { cls := .type "dict", data := .dict #[] }).get? x = some { cls := .ref C, data := .fields fv } := Heap.get?_push_of_some _ hx
    refine hq h' tk' h.objs.size (fun b o hb ho => ?_) (Nat.le_refl _) hxs.symm ?_ hn'
    · exact (hs.2 b (Nat.ne_of_lt (Heap.lt_size ho))).trans ((Heap.get?_update_ne _ _ _ _ hb).trans (Heap.get?_push_of_some _ ho))
    · exact (hs.2 x hxs).trans (Heap.get?_update_self _ hx₁ rfl)
theorem so_old {EB : EBase} {K : W.Frag} {name : Str} {tk : Tok} {v : Value} {x C dx : Addr} {fv : Array Value} {cd : ClassData} {m0 : Str → Option Value} {nl : List Str}
    (X : K.In h) (hx : h.get? x = some { cls := .ref C, dict := some dx, data := .fields fv }) (hns : h.Ns1 dx m0) (hw : Within m0 nl) (hz : nl.length ≤ 1000) (hcd : W.clsIn K C = some cd) (hm : rowIs EB.tail cd.mro = true) (hne : cd.mro.isEmpty = false) (hh : cd.hasDict = true)
    (ha : W.findIn K (.ref C) name = some none)
    (hq : ∀ h' tk', (∀ b o, b ≠ dx → h.get? b = some o → h'.get? b = some o) → h'.Ns1 dx (fun y => if y = name then some v else m0 y) → R (.ok (.ret .none)) ⟨h', g, d, tk', os⟩) :
    codeAny (model prog w) A (.call (.builtin "object.__setattr__") ⟨[.ref x, .str name tk, v], []⟩) R ⟨h, g, d, t, os⟩ := by
  obtain ⟨oD, esD, epD, hoD, hdD, _⟩ := hns.count hw
  have I : W.InstAt h x { cls := .ref C, dict := some dx, data := .fields fv } C (some oD) := ⟨hx, rfl, rfl, hoD⟩
  have SF := F.store_object
  have ho : cd.mro.contains (.type "object") = true := (tl_has "object" _ hm).trans EB.obj
  have sub : W.Looks (model prog w) h (isInstance (.ref x) (.type "object")) true := I.type.andThen (W.looks_mroIn X (by unfold W.mroIn; rw [hcd, Option.bind_some, if_neg (by rw [hne]; decide), ho]))
  refine codeAny_call_builtin SF.slot.plain SF.entry (@W.check_slot (model prog w) _ _ ⟨h, g, d, t, os⟩ "object.__setattr__" "object" "__setattr__" (.ref x) [.str name tk, v] [] _ SF.kind SF.split sub (SF.args (.ref x) (.str name tk) v) ?_)
  have mr : W.Looks (model prog w) h (mroOf (.ref C)) cd.mro := (W.looks_clsIn X hcd).andThen .now
  have l3 : W.Looks (model prog w) h (storeTaker? none) none := .now
  have lc : W.Looks (model prog w) h (classData C) cd := W.looks_clsIn X hcd
  rw [W.osa_eq, refuse_eq]
  refine wpAny_bind (wpAny_bind (I.type.at (wpAny_bind (mr.at ?_))))
  rw [tl_pass (EB.pass _) _ hm]
  refine wpAny_pure (wpAny_bind (I.type.at (wpAny_bind ((W.looks_findIn X ha).at (wpAny_bind (l3.at ?_))))))
  show wpAny _ _ (storeInOwnDict (.ref x) (.ref C) (.str name tk) name v false) _ _ _
  obtain ⟨nm, bs, mro, ns, qn, hd, sn, sb, ab, col, del⟩ := cd
  dsimp only at hh
  subst hh
  unfold storeInOwnDict ownDictForStores
  repeat (first | with_reducible refine PySem.OEX.store_in_old hns hw hz ?_ | with_reducible refine wpAny_loadPart_at hx ?_ | with_reducible refine lc.at ?_ | wp_step)
  intro h' tk' hn' hs
  exact hq h' tk' (fun b o hb ho => (hs.2 b hb).trans ho) hn'
end
end Fk
namespace Fk
open PySem PySem.Spec PyProof.Rows L2
/-! ### super().__init__(x) over ValueError -/
abbrev exObj (C : Addr) (d : Option Addr) (t : Addr) : Obj := { cls := .ref C, dict := d, data := .fields #[.ref t, .none, .none, .none, .bool false, .none] }
section
variable {prog : Program} {w : World} {A : Around} {E : Value → Shared → Prop} {h : Heap} {g : Array GenState} {d : Drawn} {t : Nat} {os : OsState}
variable {nm q : Str} {C N : Addr} {bs bm : List Value} {hdct : Bool} {sn : List Str} {sub : List Value} {ab : Bool} {col : Option Bool} {dd : Option Addr} {k0 k1 k2 k3 k5 : Option Value}
theorem ck_bound {EB : EBase} {e : Addr} {oe : Obj} {rest : List Value} {M : Model} {Q : Unit → Shared → Prop} (hC : h.get? C = some (excClassObj nm q C N bs bm hdct sn sub ab col dd k0 k1 k2 k3 k5 EB.nw)) (he : h.get? e = some oe) (hcls : oe.cls = .ref C) (hq : Q () ⟨h, g, d, t, os⟩) :
    wpAny M A (checkBoundCall EB.ini ⟨.ref e :: rest, []⟩) Q E ⟨h, g, d, t, os⟩ := by
  have hsh := EB.ex.notStar
  simp only [checkBoundCall, EB.ex.initKind, EB.ex.initSig]
  repeat (first | (with_reducible refine wpAny_loadPart_at he ?_; rw [hcls]) | with_reducible refine wpAny_loadPart_at hC ?_ | wp_step)
  refine wpAny_onRaise ?_
  have hz : ∀ (a b : String) (n : Nat), Bind.check ⟨.positional, "*", EB.B, .self, [⟨"args", .varPos, false⟩]⟩ a b n (List.map (fun x => x.fst) ({ pos := Value.ref e :: rest } : Args).kw) = pure () := fun a b n => check_star_args _ _ _ _ _ _
  rw [hz]
  exact wpAny_pure hq
theorem call_mw {EB : EBase} {u e t0 : Addr} {rest : List Value} {Q : Value → Shared → Prop}
    (hC : h.get? C = some (excClassObj nm q C N bs bm hdct sn sub ab col dd k0 k1 k2 k3 k5 EB.nw)) (he : h.get? e = some (exObj C none t0)) (hu : h.get? u = some (PySem.W.kxs_mw EB.ini e)) (hrest : rest.length ≤ sizeLine)
    (hq : ∀ h' t1, (∀ b o, b ≠ e → h.get? b = some o → h'.get? b = some o) → h'.get? e = some (exObj C none t1) → Q .none ⟨h', g, d, t, os⟩) :
    wpAny (model prog w) A (call (.ref u) rest) Q E ⟨h, g, d, t, os⟩ := by
  refine wpAny_call (codeAny_of_tree ?_)
  show wpAny _ A.in1 (callAny (.ref u) ⟨rest, []⟩) _ _ _
  simp only [callAny]
  refine wpAny_bind (wpAny_load hu ?_)
  simp only [PySem.W.kxs_mw, show (Value.type "method-wrapper" == Value.type "method" || Value.type "method-wrapper" == Value.type "builtin_function_or_method" || Value.type "method-wrapper" == Value.type "method-wrapper") = true by decide, if_true]
  refine PySem.W.KFB.if_so (by decide) ?_
  refine wpAny_bind (ck_bound hC he rfl ?_)
  refine wpAny_bind (wpAny_pure (wpAny_pure ?_))
  refine ⟨Code.quiet_builtin _ EB.quiet, codeAny_builtin EB.ex.initEntry ?_⟩
  rw [Around.under_plainId EB.ex.init.plain _]
  wp_walk
  refine hq _ h.objs.size (fun b o hb ho => ?_) ?_
  · rw [Heap.get?_update_other _ _ (Ne.symm hb)]
    exact Heap.get?_push_of_some _ ho
  · rw [Heap.get?_update_self _ (Heap.get?_push_of_some _ he) rfl]
    rfl
end
/-- a def of the class at D that says super() -/
structure SupFn (P : Program) (K : PySem.W.Frag) (f : Addr) (fd : FuncData) (D : Addr) : Prop where
  lk : ∃ oc od osl, K.lookup f = some ⟨oc, od, .func fd, osl⟩
  glob : fd.globals = mainGlobals
  blt : fd.builtins = builtinsNs
  code : ∃ cda ccl cdd ccs vs file tf, fd.code = .ref cda ∧ K.lookup cda = some ⟨ccl, cdd, .fields vs, ccs⟩ ∧ vs[2]? = some (.str file tf) ∧ ((P.main.file : Str) == file) = true
  codeQ : PySem.W.codeIn K fd.code fd.qualname = true
  clo : ∃ cc cl cld csl, fd.closure = [(("__class__" : Str), cc)] ∧ K.lookup cc = some ⟨cl, cld, .cell (some (.ref D)), csl⟩
  dcl : ∃ cd, PySem.W.clsIn K D = some cd
  op : PySem.W.nsIn K cStatics "thirdparty.any" = some none
  top : (P.main.scope.names.lookup ("super" : Str)).isSome = false
  ks : fd.scope.names.lookup ("super" : Str) = some .globalImplicit
  kc : fd.scope.names.lookup ("__class__" : Str) = some .free
  kself : fd.scope.names.lookup ("self" : Str) = some .local
  kind : fd.scope.kind = .function
  par : ∃ ar, (fd.params.posonlyargs ++ fd.params.args).head? = some ar ∧ ar.arg = "self"
/-- what the heap knows of the module -/
structure Md (K : PySem.W.Frag) (mg : Str → Option Value) (h : Heap) : Prop where
  kin : K.In h
  glob : h.Ns mainGlobals mg
  blt : ∃ mb, h.Ns builtinsNs mb ∧ ∀ x : Str, x ≠ "__name__" → mb x = bootBuiltins x
  lim : h.NoLimit
theorem Md.keeps {K : PySem.W.Frag} {mg : Str → Option Value} {h h' : Heap} (m : Md K mg h) (k : ∀ b o, h.get? b = some o → h'.get? b = some o) : Md K mg h' := by
  obtain ⟨a, b, ⟨mb, c, d⟩, e⟩ := m
  exact ⟨a.keeps k, b.keeps k, ⟨mb, c.keeps k, d⟩, e.keeps k⟩
section
open PySem.W
variable {EB : EBase} {prog : Program} {w : World} {A : Around} {E : Value → Shared → Prop} {s : Shared} {K : PySem.W.Frag} {mg : Str → Option Value} {f D C a L : Addr} {fd : FuncData} {ox : Obj}
theorem wpAt_sup {body : List Stmt} {p0 p1 : Pos} {whole : Sem Value} {m : Str → Option Value} {Q : Value → Shared → Prop} (S : SupFn prog K f fd D) (M : Md K mg s.heap) (hsm : mg "super" = none) (hn : s.heap.Ns L m) (hself : m "self" = some (.ref a))
    (ha : s.heap.get? a = some ox) (hac : ox.cls = .ref C) (hnc : ∀ c, ox.data ≠ .cls c) (sub : mroIn K C (.ref D) = some true)
    (h : ∀ so h', h'.get? so = some { cls := .type "super", dict := none, data := .fields #[.ref D, .ref a, .ref C], slots := #[] } → (∀ y o, s.heap.get? y = some o → h'.get? y = some o) → s.heap.objs.size ≤ so → Q (.ref so) { s with heap := h' }) :
    _root_.PySem.wpAt (model prog w) A (.func body (callEnv fd L f)) (attributeBase (.Call (.Name "super" p0) [] [] p1) "__init__" (callEnv fd L f) whole) Q E s := by
  obtain ⟨oc, od, osl, lk⟩ := S.lk
  obtain ⟨cda, ccl, cdd, ccs, vs, file, tf, hco, hcode, hvs, hfile⟩ := S.code
  obtain ⟨cc, cl, cld, csl, hclo, hcell⟩ := S.clo
  obtain ⟨cdD, hD⟩ := S.dcl
  obtain ⟨ar, hp, har⟩ := S.par
  obtain ⟨mb, hb1, hb2⟩ := M.blt
  have X := M.kin
  obtain ⟨hh, g, d, t, os⟩ := s
  obtain ⟨oD, hD1, hD2⟩ : ∃ oD, hh.get? D = some oD ∧ oD.data = .cls cdD := by
    unfold clsIn at hD
    split at hD
    · rename_i c d cd' sl ho
      cases hD
      exact ⟨_, X _ _ ho, rfl⟩
    · cases hD
  refine ks_wpAt_super_base (env := callEnv fd L f) (attr := "__init__") S.ks S.kc (by decide) rfl (X _ _ lk) rfl hp hco (X _ _ hcode) rfl hvs hfile S.top ?_
  refine ks_loadName_global S.kind S.ks (Calls.loadGlobal_builtin (env := callEnv fd L f) (by show Heap.Ns hh fd.globals mg; rw [S.glob]; exact M.glob) hsm (by show Heap.Ns hh fd.builtins mb; rw [S.blt]; exact hb1) ((hb2 _ (by decide +kernel)).trans (by decide +kernel)) ⟨rfl, ?_⟩)
  refine wpAny_loadName_free S.kind S.kc (by show List.lookup _ fd.closure = _; rw [hclo]; rfl) ⟨_, X _ _ hcell, rfl⟩ ?_
  rw [har]
  refine wpAny_loadName_local S.kind S.kself hn hself ?_
  refine ks_wpAny_isType_cls hD1 hD2 ⟨rfl, ?_⟩
  exact ks_wpAny_call_super hD1 hD2 ha hac hnc (looks_mroIn X sub) (fun h' e k => h _ h' e k (Nat.le_refl _))
/-- what is said of an exception's class C -/
structure ExC (EB : EBase) (K : PySem.W.Frag) (C : Addr) : Prop where
  cls : ∃ nm q N bs bm sn sub ab col dd k0 k1 k2 k3 k5, K.lookup C = some (excClassObj nm q C N bs bm true sn sub ab col dd k0 k1 k2 k3 k5 EB.nw) ∧ rowIs EB.tail bm = true
  sa : findIn K (.ref C) "__setattr__" = some (some (.builtin "object.__setattr__"))
  exC : subIn K (.ref C) (.type "BaseException") = some true
  tyC : typeIn K (.ref C) = some (.type "type")
  kC : keepIn K (.ref C) = true
  isB : mroIn K C (.type EB.B) = some true
/-- the statement super().__init__(e), e a name or a text -/
theorem wpAt_supInit {body : List Stmt} {p0 p1 p2 p4 p5 : Pos} {e : Expr} {pl : Sem Bool} {m : Str → Option Value} {t0 : Addr} {v : Value} {Q : Flow → Shared → Prop} (S : SupFn prog K f fd D) (M : Md K mg s.heap) (hsm : mg "super" = none) (hn : s.heap.Ns L m) (hself : m "self" = some (.ref a)) (T : ExC EB K C)
    (ha : s.heap.get? a = some (exObj C none t0)) (sub : mroIn K C (.ref D) = some true) (hsup : ks_superIn K C D "__init__" = some (some (.builtin EB.ini))) (haL : a ≠ L)
    (hev : ∀ (s1 : Shared) (Q1 : Value → Shared → Prop), s1.heap.Ns L m → (∀ tk, Q1 v { s1 with toks := tk }) → wpAny (model prog w) A (eval e (callEnv fd L f)) Q1 E s1)
    (he : starEach [e] (callEnv fd L f) = [(false, eval e (callEnv fd L f))])
    (hE : eval (.Call (.Attribute (.Call (.Name "super" p0) [] [] p1) "__init__" p2) [e] [] p4) (callEnv fd L f) = (do
      let ov ← attributeBase (.Call (.Name "super" p0) [] [] p1) "__init__" (callEnv fd L f) (eval (.Call (.Name "super" p0) [] [] p1) (callEnv fd L f))
      standAt p2.atName
      let (f', first) ← holding [ov] (getMethod ov "__init__" pl)
      callWith p4 f' first (backTo p4 (starEach [e] (callEnv fd L f))) []))
    (hi : interactive (callEnv fd L f) = false) (hs : swapsWith (.Call (.Attribute (.Call (.Name "super" p0) [] [] p1) "__init__" p2) [e] [] p4) none p5.line (callEnv fd L f) = pure false)
    (h : ∀ h' tk t1, (∀ b o, b ≠ a → s.heap.get? b = some o → h'.get? b = some o) → h'.get? a = some (exObj C none t1) → Q .next { s with heap := h', toks := tk }) :
    _root_.PySem.wpAt (model prog w) A (.func body (callEnv fd L f)) (exec (.Expr (.Call (.Attribute (.Call (.Name "super" p0) [] [] p1) "__init__" p2) [e] [] p4) p5) (callEnv fd L f)) Q E s := by
  obtain ⟨nm, q, N, bs, bm, sn, sb, ab, col, dd, k0, k1, k2, k3, k5, hC, hbm⟩ := T.cls
  have X := M.kin
  refine ks_wpAt_Expr_any (ks_wpAt_MethodCall (wpAt_sup S M hsm hn hself ha rfl (fun c z => by cases z) sub fun so h1 hso k1' lso => ?_) hE) hi hs
  obtain ⟨hh, g, d, t, os⟩ := s
  have X1 : K.In h1 := X.keeps k1'
  have hcl : clsIn K C = some { name := nm, bases := bs, mro := .ref C :: bm, ns := N, qualname := q, hasDict := true, slotNames := sn, subclasses := sb, abstract := ab, collection := col, hasDel := false } := by unfold clsIn; rw [hC] <;> rfl
  have hal : alongIn K "__init__" (((.ref C :: bm : List Value).dropWhile (· != .ref D)).drop 1) = some (some (.builtin EB.ini)) := by
    unfold ks_superIn at hsup
    rw [hcl] at hsup
    exact hsup
  have hI1 : InstAt h1 a (exObj C none t0) C none := ⟨k1' _ _ ha, rfl, rfl, trivial⟩
  have hno : Looks (model prog w) h1 (opaqueClassAbove (.ref C)) none := looks_opaque X1 S.op
  have hmro : Looks (model prog w) h1 (mroOf (.ref C)) (.ref C :: bm) := fun A Q E s k q => wpAny_bind ((looks_clsIn X1 hcl) A _ E s k (wpAny_pure q))
  have hisV : Looks (model prog w) h1 (isInstance (.ref a) (.type EB.B)) true := hI1.type.andThen (looks_mroIn X1 T.isB)
  have haC : a ≠ C := ks_ne X1 hI1 hcl
  refine kxs_getMethod EB.kx hso hno hmro rfl X1 hal hisV haC (by decide) ?_
  show wpAny (model prog w) A (callWith p4 (.ref h1.objs.size) [] (backTo p4 (starEach [e] (callEnv fd L f))) []) _ E _
  rw [he]
  refine kxs_callWith (i := EB.ini) (x := a) (u := h1.objs.size) rfl ?_
  refine Calls.evalArgs_plain ?_
  have k2' : ∀ y o, hh.get? y = some o → (h1.push (kxs_mw EB.ini a)).get? y = some o := fun y o z => Heap.get?_push_of_some _ (k1' y o z)
  refine Calls.spliced_cons (hev _ _ (hn.keeps k2') fun tk => Calls.spliced_nil ⟨Heap.get?_push_at rfl rfl, ?_⟩)
  refine call_mw (X _ _ hC |> k2' _ _) (k2' _ _ ha) (Heap.get?_push_at rfl rfl) (by show 1 ≤ sizeLine; decide) fun h' t1 k' e' => ?_
  exact h h' tk t1 (fun b o hb z => k' b o hb (k2' b o z)) e'
theorem ns_at {h h' : Heap} {L : Addr} {m : Str → Option Value} (n : h.Ns L m) (k : ∀ o, h.get? L = some o → h'.get? L = some o) : h'.Ns L m := by
  obtain ⟨o, es, ep, e, r⟩ := n
  exact ⟨o, es, ep, k _ e, r⟩
theorem ld_loc {M : Model} {A : Around} {E : Value → Shared → Prop} {s : Shared} {fd : FuncData} {L f : Addr} {x : Str} {pos : Pos} {m : Str → Option Value} {v : Value} {Q : Value → Shared → Prop} (hk : fd.scope.kind = .function)
    (hl : fd.scope.names.lookup x = some .local) (hn : s.heap.Ns L m) (hv : m x = some v) (h : Q v s) (hd : (x == ("__debug__" : Str)) = false) : wpAny M A (eval (.Name x pos) (callEnv fd L f)) Q E s :=
  wpAny_Name (wpAny_loadName_local (env := callEnv fd L f) hk hl hn hv h) hd
/-- self.fld = y, the first field of an exception -/
theorem set_first {t0 : Addr} {fld : Str} {v : Value} {Q : Unit → Shared → Prop} (X : K.In s.heap) (T : ExC EB K C) (ha : s.heap.get? a = some (exObj C none t0)) (hno : findIn K (.ref C) fld = some none)
    (h : ∀ h' tk dx, (∀ b o, b ≠ a → s.heap.get? b = some o → h'.get? b = some o) → s.heap.objs.size ≤ dx → dx ≠ a → h'.get? a = some (exObj C (some dx) t0) → h'.Ns1 dx (fun z => if z = fld then some v else none) → Q () { s with heap := h', toks := tk }) :
    wpAny (model prog w) A (setAttr (.ref a) fld v) Q E s := by
  obtain ⟨nm, q, N, bs, bm, sn, sub, ab, col, dd, k0, k1, k2, k3, k5, hC, hbm⟩ := T.cls
  have hcl : clsIn K C = some { name := nm, bases := bs, mro := .ref C :: bm, ns := N, qualname := q, hasDict := true, slotNames := sn, subclasses := sub, abstract := ab, collection := col, hasDel := false } := by unfold clsIn; rw [hC] <;> rfl
  obtain ⟨hp, g, d, t, os⟩ := s
  refine set_plain X (ox := exObj C none t0) (od := none) ⟨ha, rfl, rfl, trivial⟩ T.sa ?_
  exact so_new (EB := EB) X ha hcl (show rowIs EB.tail (.ref C :: bm) = true from hbm) rfl rfl hno (fun h' tk' dx k dn dne hx hn => h h' tk' dx k dn dne hx hn)
/-- def __init__(self, y): super().__init__(y); self.fld = y -/
theorem init1 {p0 p1 p2 p3 p4 p5 p6 p7 p8 p9 : Pos} {y fld : Str} {v : Value} {t0 : Addr} {args : Args} {pl : Addr → Sem Bool} {R : Result → Shared → Prop} (S : SupFn prog K f fd D) (M : Md K mg s.heap) (hsm : mg "super" = none) (T : ExC EB K C)
    (ha : s.heap.get? a = some (exObj C none t0)) (sub : mroIn K C (.ref D) = some true) (hsup : ks_superIn K C D "__init__" = some (some (.builtin EB.ini))) (hroom : A.depth < recursionLimit)
    (hbody : fd.body = .stmts [.Expr (.Call (.Attribute (.Call (.Name "super" p0) [] [] p1) "__init__" p2) [.Name y p3] [] p4) p5, .Assign [.Attribute (.Name "self" p6) fld p7] (.Name y p8) p9])
    (hbind : BindsTo s fd args [("self", .ref a), (y, v)]) (ky : fd.scope.names.lookup y = some .local) (hcell : ∀ x ∈ fd.scope.names, x.2 ≠ .cell) (hy : (y == ("self" : Str)) = false) (hyd : (y == ("__debug__" : Str)) = false)
    (hco : fd.scope.isCoroutine = false) (hgen : fd.scope.isGenerator = false) (hno : findIn K (.ref C) fld = some none) (hKa : K.lookup a = none)
    (hE : ∀ L, eval (.Call (.Attribute (.Call (.Name "super" p0) [] [] p1) "__init__" p2) [.Name y p3] [] p4) (callEnv fd L f) = (do
      let ov ← attributeBase (.Call (.Name "super" p0) [] [] p1) "__init__" (callEnv fd L f) (eval (.Call (.Name "super" p0) [] [] p1) (callEnv fd L f))
      standAt p2.atName
      let (f', first) ← holding [ov] (getMethod ov "__init__" (pl L))
      callWith p4 f' first (backTo p4 (starEach [.Name y p3] (callEnv fd L f))) []))
    (hi : ∀ L, interactive (callEnv fd L f) = false) (hs : ∀ L, swapsWith (.Call (.Attribute (.Call (.Name "super" p0) [] [] p1) "__init__" p2) [.Name y p3] [] p4) none p5.line (callEnv fd L f) = pure false)
    (hs2 : ∀ L, swapsWith (.Name y p8) (some (.Attribute (.Name "self" p6) fld p7)) p9.line (callEnv fd L f) = pure false)
    (h : ∀ h' tk dx t1, (∀ b o, b ≠ a → s.heap.get? b = some o → h'.get? b = some o) → s.heap.objs.size ≤ dx → dx ≠ a → h'.get? a = some (exObj C (some dx) t1) → h'.Ns1 dx (fun z => if z = fld then some v else none) → R (.ok (.ret .none)) { s with heap := h', toks := tk }) :
    codeAny (model prog w) A (.call (.ref f) args) R s := by
  obtain ⟨oc, od, osl, lk⟩ := S.lk
  have hloc : ∀ x ∈ [(("self" : Str), Value.ref a), (y, v)], fd.scope.names.lookup x.1 = some .local := fun x hx => by
    rcases List.mem_cons.mp hx with rfl | hx
    · exact S.kself
    · rw [List.mem_singleton.mp hx]
      exact ky
  refine ks_codeAny_call_defAt hroom (M.kin _ _ lk) rfl M.lim (codeRec_of M.kin S.codeQ) hbody hbind hcell hloc (fun h₀ hns k0 => ?_) hco hgen S.kind
  have aL : a ≠ s.heap.objs.size := Nat.ne_of_lt (Heap.lt_size ha)
  have mself : (fun x : Str => ([(("self" : Str), Value.ref a), (y, v)] : List (Str × Value)).reverse.lookup x) "self" = some (.ref a) := by
    show List.lookup ("self" : Str) [(y, v), ("self", Value.ref a)] = _
    have : (("self" : Str) == y) = false := by
      rw [Bool.eq_false_iff] at hy ⊢
      exact fun e => hy (beq_iff_eq.mpr (beq_iff_eq.mp e).symm)
    simp [List.lookup, this]
  have my : (fun x : Str => ([(("self" : Str), Value.ref a), (y, v)] : List (Str × Value)).reverse.lookup x) y = some v := by
    show List.lookup y [(y, v), ("self", Value.ref a)] = _
    simp [List.lookup]
  generalize (fun x : Str => ([(("self" : Str), Value.ref a), (y, v)] : List (Str × Value)).reverse.lookup x) = m at hns mself my
  obtain ⟨hh, g, d, t, os⟩ := s
  refine ks_wpAt_execs_cons (wpAt_supInit (EB := EB) (v := v) S (M.keeps k0) hsm hns mself T (k0 _ _ ha) sub hsup aL (fun s1 Q1 n1 q1 => ?_) rfl (hE _) (hi _) (hs _) fun h1 tk t1 k1 e1 => ?_)
  · exact ld_loc S.kind ky n1 my (by
      obtain ⟨a1, a2, a3, a4, a5⟩ := s1
      exact q1 a4) hyd
  · have n1 : h1.Ns hh.objs.size m := ns_at hns fun o z => k1 _ _ aL.symm z
    refine ks_wpAt_execs_cons (ks_wpAt_Assign_Attr (wpAt_of_wpAny (ld_loc S.kind ky n1 my ?_ hyd)) (hs2 _))
    refine ld_loc S.kind S.kself n1 mself ?_ (by decide)
    have X1 : K.In h1 := fun b o z => by
      have zb : b ≠ a := fun q => by
        rw [q, hKa] at z
        cases z
      exact k1 b o zb (k0 b o (M.kin b o z))
    refine set_first (s := ⟨h1, g, d, tk, os⟩) X1 T e1 hno fun h2 tk2 dx k2 dn dne hx hnx => ?_
    have lt1 : hh.objs.size ≤ dx := Nat.le_trans (Nat.le_of_lt (by obtain ⟨o, _, _, e, _⟩ := n1; exact Heap.lt_size e)) dn
    refine wpAt_of_wpAny (wpAny_pure ?_)
    exact h h2 tk2 dx t1 (fun b o hb z => k2 b o hb (k1 b o hb (k0 b o z))) lt1 dne hx hnx
/-- from a changed exception and its new dict to the abstract heap -/
theorem exo_made {P : Program} {fs' : List Addr} {H : Hp} {hp h' : Heap} {dx t1 : Addr} {fs : List (Str × V)} {mA : Str → Option Value} (hok : HOk P w H hp) (e : H a = some (exo a C none))
    (k : ∀ b o, b ≠ a → hp.get? b = some o → h'.get? b = some o) (dn : hp.objs.size ≤ dx) (dne : dx ≠ a) (hx : h'.get? a = some (exObj C (some dx) t1)) (hn : h'.Ns1 dx mA) (rel : ∀ f, RelO (fs.lookup f) (mA f)) :
    Un fs' [] H (upd (upd H dx (exd dx fs)) a (exo a C (some dx))) hp h' ∧ HOk P w (upd (upd H dx (exd dx fs)) a (exo a C (some dx))) h' := by
  have hnd : H dx = none := hok.fresh dn
  have nd : ∀ {b : Addr} {o : Obj}, hp.get? b = some o → b ≠ dx := fun {b o} q => Nat.ne_of_lt (Nat.lt_of_lt_of_le (Heap.lt_size q) dn)
  have na : ∀ {b : Addr}, H b = none → b ≠ a := fun {b} n z => by
    rw [z, e] at n
    cases n
  refine ⟨{
    keep := fun b o q n _ _ => k b o (na n) q
    slot := fun b o q n _ _ => ⟨o.slots, k b o (na n) q⟩
    free := fun b o q n _ => by rw [upd_ne (na n), upd_ne (nd q)]; exact n
    there := fun b o q _ => by
      by_cases hb : b = a
      · exact ⟨_, by rw [hb]; exact hx⟩
      · exact ⟨o, k b o hb q⟩
    tups := fun b xs q => by rw [upd_ne (at_ne e q exo_tup), upd_ne (ne_of_none q hnd)]; exact q
    frzs := fun b o v q => by rw [upd_ne (at_ne e q exo_frz), upd_ne (ne_of_none q hnd)]; exact q
    tbls := fun b ps q => ⟨#[], by rw [upd_ne (at_ne e q exo_tbl), upd_ne (ne_of_none q hnd), q]; simp⟩ }, fun b o q => ?_⟩
  by_cases hb : b = a
  · subst hb
    rw [upd_same] at q
    cases q
    exact exo_ok hx
  · rw [upd_ne hb] at q
    by_cases hd : b = dx
    · subst hd
      rw [upd_same] at q
      cases q
      exact exd_ok hn rel
    · rw [upd_ne hd] at q
      exact (hok b o q).stay (fun c v hc z => k c v (by
          rcases hc with hc | hc
          · rw [hc]
            exact hb
          · exact at_ne e hc exo_own) z)
        (fun c hc => by rw [upd_ne (at_ne e hc exo_own), upd_ne (ne_of_none hc hnd)]; exact hc) (fun c xs hc => by rw [upd_ne (at_ne e hc exo_tup), upd_ne (ne_of_none hc hnd)]; exact hc)
theorem Env0.md {P : Program} {base : Heap} {outer : List Env} {H : Hp} (e0 : Env0 P w K mg base A outer s H) : Md K mg s.heap := by
  have k : ∀ b o, base.get? b = some o → s.heap.get? b = some o := fun b o z => (e0.bs b o z).1
  obtain ⟨mb, c, d⟩ := e0.mod.blt
  exact ⟨e0.mod.kin.keeps k, e0.mod.glob.keeps k, ⟨mb, c.keeps k, d⟩, e0.mod.nolimit.keeps k⟩
theorem Env0.off {P : Program} {base : Heap} {outer : List Env} {H : Hp} (e0 : Env0 P w K mg base A outer s H) {o : HO} (e : H a = some o) : K.lookup a = none := by
  cases z : K.lookup a with
  | none => rfl
  | some ob =>
    have := (e0.bs a ob (e0.mod.kin a ob z)).2
    rw [e] at this
    cases this
/-- the promise of such an __init__ -/
def spInit1 (EB : EBase) (K : PySem.W.Frag) (D : Addr) (fld : Str) : Sp := fun vs H Q _ => ∃ (a C : Addr) (x : V), vs = [.ref a, x] ∧ ExC EB K C ∧ mroIn K C (.ref D) = some true ∧ ks_superIn K C D "__init__" = some (some (.builtin EB.ini)) ∧ findIn K (.ref C) fld = some none ∧
  H a = some (exo a C none) ∧ ∀ dx, H dx = none → dx ≠ a → Q .non (upd (upd H dx (exd dx [(fld, x)])) a (exo a C (some dx)))
theorem fn_init1 {P : Program} {base : Heap} {p0 p1 p2 p3 p4 p5 p6 p7 p8 p9 : Pos} {y fld : Str} {pl : Addr → Sem Bool} (S : SupFn P K f fd D) (hsm : mg "super" = none)
    (hbody : fd.body = .stmts [.Expr (.Call (.Attribute (.Call (.Name "super" p0) [] [] p1) "__init__" p2) [.Name y p3] [] p4) p5, .Assign [.Attribute (.Name "self" p6) fld p7] (.Name y p8) p9])
    (ky : fd.scope.names.lookup y = some .local) (hcell : ∀ x ∈ fd.scope.names, x.2 ≠ .cell) (hy : (y == ("self" : Str)) = false) (hyd : (y == ("__debug__" : Str)) = false)
    (hco : fd.scope.isCoroutine = false) (hgen : fd.scope.isGenerator = false)
    (hE : ∀ L, eval (.Call (.Attribute (.Call (.Name "super" p0) [] [] p1) "__init__" p2) [.Name y p3] [] p4) (callEnv fd L f) = (do
      let ov ← attributeBase (.Call (.Name "super" p0) [] [] p1) "__init__" (callEnv fd L f) (eval (.Call (.Name "super" p0) [] [] p1) (callEnv fd L f))
      standAt p2.atName
      let (f', first) ← holding [ov] (getMethod ov "__init__" (pl L))
      callWith p4 f' first (backTo p4 (starEach [.Name y p3] (callEnv fd L f))) []))
    (hi : ∀ L, interactive (callEnv fd L f) = false) (hs : ∀ L, swapsWith (.Call (.Attribute (.Call (.Name "super" p0) [] [] p1) "__init__" p2) [.Name y p3] [] p4) none p5.line (callEnv fd L f) = pure false)
    (hs2 : ∀ L, swapsWith (.Name y p8) (some (.Attribute (.Name "self" p6) fld p7)) p9.line (callEnv fd L f) = pure false) :
    FnOk P w K mg base CX0 1 f fd ["self", y] (spInit1 EB K D fld) := by
  refine ⟨fun vs H Q E h => ?_, fun A outer s H args us vs Q E hr e0 hb r h => ?_⟩
  · obtain ⟨a, C, x, rfl, _⟩ := h
    rfl
  · obtain ⟨a, C, x, rfl, T, sub, hsup, hno, e, q⟩ := h
    obtain ⟨u1, v, rfl, r1, r2⟩ := vals2 r
    obtain rfl : u1 = Value.ref a := r1
    obtain ⟨t0, ha⟩ := exo_at e0.hok e
    refine init1 S (Env0.md e0) hsm T ha sub hsup hr.depth hbody hb ky hcell hy hyd hco hgen hno (Env0.off e0 e) hE hi hs hs2 fun h' tk dx t1 k dn dne hx hn => ?_
    obtain ⟨U, O⟩ := exo_made (fs' := frs outer) (fs := [(fld, x)]) e0.hok e k dn dne hx hn (relO_put (fs := []) r2 fun g => True.intro)
    exact ⟨.non, _, rfl, e0.bare, U, O, rfl, q dx (e0.hok.fresh dn) dne⟩
/-! ### super().__init__(text) where that is a def of the program -/
/-- what a def __init__ that makes the dict does, by the heap -/
def Does1 (prog : Program) (w : World) (K : PySem.W.Frag) (mg : Str → Option Value) (A : Around) (f2 C a : Addr) (fld : Str) (v : Value) : Prop := ∀ (s1 : Shared) (t0 : Addr) (R : Result → Shared → Prop), Md K mg s1.heap → s1.heap.get? a = some (exObj C none t0) →
  (∀ h' tk dx t1, (∀ b o, b ≠ a → s1.heap.get? b = some o → h'.get? b = some o) → s1.heap.objs.size ≤ dx → dx ≠ a → h'.get? a = some (exObj C (some dx) t1) → h'.Ns1 dx (fun z => if z = fld then some v else none) → R (.ok (.ret .none)) { s1 with heap := h', toks := tk }) →
  codeAny (model prog w) A (.call (.ref f2) ⟨[.ref a, v], []⟩) R s1
theorem wpAt_supCall {body : List Stmt} {p0 p1 p2 p4 p5 : Pos} {e : Expr} {pl : Sem Bool} {m : Str → Option Value} {t0 f2 : Addr} {fld2 : Str} {Pv : Value → Prop} {Q : Flow → Shared → Prop} (S : SupFn prog K f fd D) (M : Md K mg s.heap) (hsm : mg "super" = none) (hn : s.heap.Ns L m) (hself : m "self" = some (.ref a)) (T : ExC EB K C)
    (ha : s.heap.get? a = some (exObj C none t0)) (sub : mroIn K C (.ref D) = some true) (hsup : ks_superIn K C D "__init__" = some (some (.ref f2))) (hf2 : typeIn K (.ref f2) = some (.type "function")) (hf3 : fnIn K f2 = true)
    (hcall : ∀ v, Pv v → Does1 prog w K mg A f2 C a fld2 v)
    (hev : ∀ (s1 : Shared) (Q1 : Value → Shared → Prop), s1.heap.Ns L m → (∀ v tk, Pv v → Q1 v { s1 with toks := tk }) → wpAny (model prog w) A (eval e (callEnv fd L f)) Q1 E s1)
    (he : starEach [e] (callEnv fd L f) = [(false, eval e (callEnv fd L f))])
    (hE : eval (.Call (.Attribute (.Call (.Name "super" p0) [] [] p1) "__init__" p2) [e] [] p4) (callEnv fd L f) = (do
      let ov ← attributeBase (.Call (.Name "super" p0) [] [] p1) "__init__" (callEnv fd L f) (eval (.Call (.Name "super" p0) [] [] p1) (callEnv fd L f))
      standAt p2.atName
      let (f', first) ← holding [ov] (getMethod ov "__init__" pl)
      callWith p4 f' first (backTo p4 (starEach [e] (callEnv fd L f))) []))
    (hi : interactive (callEnv fd L f) = false) (hs : swapsWith (.Call (.Attribute (.Call (.Name "super" p0) [] [] p1) "__init__" p2) [e] [] p4) none p5.line (callEnv fd L f) = pure false)
    (h : ∀ v h' tk dx t1, Pv v → (∀ b o, b ≠ a → s.heap.get? b = some o → h'.get? b = some o) → s.heap.objs.size ≤ dx → dx ≠ a → h'.get? a = some (exObj C (some dx) t1) → h'.Ns1 dx (fun z => if z = fld2 then some v else none) → Q .next { s with heap := h', toks := tk }) :
    _root_.PySem.wpAt (model prog w) A (.func body (callEnv fd L f)) (exec (.Expr (.Call (.Attribute (.Call (.Name "super" p0) [] [] p1) "__init__" p2) [e] [] p4) p5) (callEnv fd L f)) Q E s := by
  obtain ⟨nm, q, N, bs, bm, sn, sb, ab, col, dd, k0, k1, k2, k3, k5, hC, hbm⟩ := T.cls
  have X := M.kin
  refine ks_wpAt_Expr_any (ks_wpAt_MethodCall (wpAt_sup S M hsm hn hself ha rfl (fun c z => by cases z) sub fun so h1 hso k1' lso => ?_) hE) hi hs
  obtain ⟨hh, g, d, t, os⟩ := s
  have X1 : K.In h1 := X.keeps k1'
  have hcl : clsIn K C = some { name := nm, bases := bs, mro := .ref C :: bm, ns := N, qualname := q, hasDict := true, slotNames := sn, subclasses := sb, abstract := ab, collection := col, hasDel := false } := by unfold clsIn; rw [hC] <;> rfl
  have hal : alongIn K "__init__" (((.ref C :: bm : List Value).dropWhile (· != .ref D)).drop 1) = some (some (.ref f2)) := by
    unfold ks_superIn at hsup
    rw [hcl] at hsup
    exact hsup
  have hI1 : InstAt h1 a (exObj C none t0) C none := ⟨k1' _ _ ha, rfl, rfl, trivial⟩
  have hno : Looks (model prog w) h1 (opaqueClassAbove (.ref C)) none := looks_opaque X1 S.op
  have hmro : Looks (model prog w) h1 (mroOf (.ref C)) (.ref C :: bm) := fun A Q E s k q => wpAny_bind ((looks_clsIn X1 hcl) A _ E s k (wpAny_pure q))
  have haC : a ≠ C := ks_ne X1 hI1 hcl
  obtain ⟨of, hof, hofc⟩ : ∃ of, h1.get? f2 = some of ∧ of.cls = .type "function" := by
    have ht' : (K.lookup f2).map (·.cls) = some (.type "function") := hf2
    cases z : K.lookup f2 with
    | none =>
      rw [z] at ht'
      cases ht'
    | some of =>
      rw [z] at ht'
      exact ⟨of, X1 _ _ z, Option.some.inj ht'⟩
  refine ks_wpAny_getMethod_super hso hno hmro rfl X1 hal hof hofc haC (by decide) ?_
  show wpAny (model prog w) A (callWith p4 (.ref h1.objs.size) [] (backTo p4 (starEach [e] (callEnv fd L f))) []) _ E _
  rw [he]
  have k2' : ∀ y o, hh.get? y = some o → (h1.push (methodObj (.ref f2) (.ref a))).get? y = some o := fun y o z => Heap.get?_push_of_some _ (k1' y o z)
  refine callWith_of (P := MethP K h1.objs.size f2 (.ref a)) rfl (keeps_M hf3) (Calls.evalArgs_plain ?_)
  refine Calls.spliced_cons (hev _ _ (hn.keeps k2') fun v tk hv => Calls.spliced_nil ⟨⟨Heap.get?_push_at rfl rfl, X.keeps k2'⟩, ?_⟩)
  refine wpAny_call (ks_codeAny_call_bound (Heap.get?_push_at rfl rfl) ?_)
  refine hcall v hv _ t0 _ (M.keeps k2') (k2' _ _ ha) fun h' tk' dx t1 k' dn dne hx hnx => ?_
  have szm : hh.objs.size ≤ (h1.push (methodObj (.ref f2) (.ref a))).objs.size := Nat.le_trans lso (Nat.le_of_lt (Heap.lt_size (Heap.get?_push_of_some _ hso)))
  exact h v h' tk' dx t1 hv (fun b o hb z => k' b o hb (k2' b o z)) (Nat.le_trans szm dn) dne hx hnx
/-- a further field -/
theorem set_more {t0 dx : Addr} {fld : Str} {v : Value} {m0 : Str → Option Value} {nl : List Str} {Q : Unit → Shared → Prop} (X : K.In s.heap) (T : ExC EB K C) (ha : s.heap.get? a = some (exObj C (some dx) t0)) (hns : s.heap.Ns1 dx m0) (hw : Within m0 nl) (hz : nl.length ≤ 1000) (hno : findIn K (.ref C) fld = some none)
    (h : ∀ h' tk, (∀ b o, b ≠ dx → s.heap.get? b = some o → h'.get? b = some o) → h'.Ns1 dx (fun z => if z = fld then some v else m0 z) → Q () { s with heap := h', toks := tk }) :
    wpAny (model prog w) A (setAttr (.ref a) fld v) Q E s := by
  obtain ⟨nm, q, N, bs, bm, sn, sub, ab, col, dd, k0, k1, k2, k3, k5, hC, hbm⟩ := T.cls
  have hcl : clsIn K C = some { name := nm, bases := bs, mro := .ref C :: bm, ns := N, qualname := q, hasDict := true, slotNames := sn, subclasses := sub, abstract := ab, collection := col, hasDel := false } := by unfold clsIn; rw [hC] <;> rfl
  obtain ⟨hp, g, d, t, os⟩ := s
  obtain ⟨oD, _, _, hoD, _, _⟩ := hns.count hw
  refine set_plain X (ox := exObj C (some dx) t0) (od := some oD) ⟨ha, rfl, rfl, hoD⟩ T.sa ?_
  exact so_old (EB := EB) X ha hns hw hz hcl (show rowIs EB.tail (.ref C :: bm) = true from hbm) rfl rfl hno (fun h' tk' k hn => h h' tk' k hn)
/-- def __init__(self, y): super().__init__('text'); self.fld = y -/
theorem init2 {p0 p1 p2 p3 p4 p5 p6 p7 p8 p9 : Pos} {y fld fld2 x2 : Str} {j2 : Nat} {v : Value} {t0 f2 : Addr} {args : Args} {pl : Addr → Sem Bool} {R : Result → Shared → Prop} (S : SupFn prog K f fd D) (M : Md K mg s.heap) (hsm : mg "super" = none) (T : ExC EB K C)
    (ha : s.heap.get? a = some (exObj C none t0)) (sub : mroIn K C (.ref D) = some true) (hsup : ks_superIn K C D "__init__" = some (some (.ref f2))) (hf2 : typeIn K (.ref f2) = some (.type "function")) (hf3 : fnIn K f2 = true) (hroom : A.depth < recursionLimit)
    (hbody : fd.body = .stmts [.Expr (.Call (.Attribute (.Call (.Name "super" p0) [] [] p1) "__init__" p2) [.Constant (.str x2) j2 p3] [] p4) p5, .Assign [.Attribute (.Name "self" p6) fld p7] (.Name y p8) p9])
    (hcall : ∀ L tk, Does1 prog w K mg (A.deeper (callEnv fd L f)) f2 C a fld2 (.str x2 tk))
    (hbind : BindsTo s fd args [("self", .ref a), (y, v)]) (ky : fd.scope.names.lookup y = some .local) (hcell : ∀ x ∈ fd.scope.names, x.2 ≠ .cell) (hy : (y == ("self" : Str)) = false) (hyd : (y == ("__debug__" : Str)) = false)
    (hco : fd.scope.isCoroutine = false) (hgen : fd.scope.isGenerator = false) (hno : findIn K (.ref C) fld = some none) (hKa : K.lookup a = none)
    (hE : ∀ L, eval (.Call (.Attribute (.Call (.Name "super" p0) [] [] p1) "__init__" p2) [.Constant (.str x2) j2 p3] [] p4) (callEnv fd L f) = (do
      let ov ← attributeBase (.Call (.Name "super" p0) [] [] p1) "__init__" (callEnv fd L f) (eval (.Call (.Name "super" p0) [] [] p1) (callEnv fd L f))
      standAt p2.atName
      let (f', first) ← holding [ov] (getMethod ov "__init__" (pl L))
      callWith p4 f' first (backTo p4 (starEach [.Constant (.str x2) j2 p3] (callEnv fd L f))) []))
    (hi : ∀ L, interactive (callEnv fd L f) = false) (hs : ∀ L, swapsWith (.Call (.Attribute (.Call (.Name "super" p0) [] [] p1) "__init__" p2) [.Constant (.str x2) j2 p3] [] p4) none p5.line (callEnv fd L f) = pure false)
    (hs2 : ∀ L, swapsWith (.Name y p8) (some (.Attribute (.Name "self" p6) fld p7)) p9.line (callEnv fd L f) = pure false)
    (h : ∀ h' tk dx t1 tk2, (∀ b o, b ≠ a → s.heap.get? b = some o → h'.get? b = some o) → s.heap.objs.size ≤ dx → dx ≠ a → h'.get? a = some (exObj C (some dx) t1) → h'.Ns1 dx (fun z => if z = fld then some v else if z = fld2 then some (.str x2 tk2) else none) → R (.ok (.ret .none)) { s with heap := h', toks := tk }) :
    codeAny (model prog w) A (.call (.ref f) args) R s := by
  obtain ⟨oc, od, osl, lk⟩ := S.lk
  have hloc : ∀ x ∈ [(("self" : Str), Value.ref a), (y, v)], fd.scope.names.lookup x.1 = some .local := fun x hx => by
    rcases List.mem_cons.mp hx with rfl | hx
    · exact S.kself
    · rw [List.mem_singleton.mp hx]
      exact ky
  refine ks_codeAny_call_defAt hroom (M.kin _ _ lk) rfl M.lim (codeRec_of M.kin S.codeQ) hbody hbind hcell hloc (fun h₀ hns k0 => ?_) hco hgen S.kind
  have aL : a ≠ s.heap.objs.size := Nat.ne_of_lt (Heap.lt_size ha)
  have mself : (fun x : Str => ([(("self" : Str), Value.ref a), (y, v)] : List (Str × Value)).reverse.lookup x) "self" = some (.ref a) := by
    show List.lookup ("self" : Str) [(y, v), ("self", Value.ref a)] = _
    have : (("self" : Str) == y) = false := by
      rw [Bool.eq_false_iff] at hy ⊢
      exact fun e => hy (beq_iff_eq.mpr (beq_iff_eq.mp e).symm)
    simp [List.lookup, this]
  have my : (fun x : Str => ([(("self" : Str), Value.ref a), (y, v)] : List (Str × Value)).reverse.lookup x) y = some v := by
    show List.lookup y [(y, v), ("self", Value.ref a)] = _
    simp [List.lookup]
  generalize (fun x : Str => ([(("self" : Str), Value.ref a), (y, v)] : List (Str × Value)).reverse.lookup x) = m at hns mself my
  obtain ⟨hh, g, d, t, os⟩ := s
  have lL : hh.objs.size < h₀.objs.size := by
    obtain ⟨o, _, _, e, _⟩ := hns
    exact Heap.lt_size e
  refine ks_wpAt_execs_cons (wpAt_supCall (fld2 := fld2) (Pv := fun v => ∃ tk, v = .str x2 tk) S (M.keeps k0) hsm hns mself T (k0 _ _ ha) sub hsup hf2 hf3 (fun v hv => ?_) (fun s1 Q1 n1 q1 => ?_) rfl (hE _) (hi _) (hs _) fun v2 h1 tk dx t1 hv2 k1 dn dne e1 hn1 => ?_)
  · obtain ⟨tk, rfl⟩ := hv
    exact hcall _ _
  · obtain ⟨a1, a2, a3, a4, a5⟩ := s1
    exact Calls.Constant_str (q1 _ _ ⟨_, rfl⟩)
  · obtain ⟨tk2', rfl⟩ := hv2
    have n1 : h1.Ns hh.objs.size m := ns_at hns fun o z => k1 _ _ aL.symm z
    refine ks_wpAt_execs_cons (ks_wpAt_Assign_Attr (wpAt_of_wpAny (ld_loc S.kind ky n1 my ?_ hyd)) (hs2 _))
    refine ld_loc S.kind S.kself n1 mself ?_ (by decide)
    have X1 : K.In h1 := fun b o z => by
      have zb : b ≠ a := fun q => by
        rw [q, hKa] at z
        cases z
      exact k1 b o zb (k0 b o (M.kin b o z))
    refine set_more (s := ⟨h1, g, d, tk, os⟩) (nl := [fld2]) X1 T e1 hn1 (fun z hz => ?_) (by show 1 ≤ 1000; decide) hno fun h2 tk2 k2 hnx => ?_
    · by_cases q : z = fld2
      · rw [q]
        exact List.mem_singleton.mpr rfl
      · exact absurd (if_neg q) hz
    · have ne1 : ∀ b o, hh.get? b = some o → b ≠ dx := fun b o z => Nat.ne_of_lt (Nat.lt_of_lt_of_le (Nat.lt_trans (Heap.lt_size z) lL) dn)
      refine wpAt_of_wpAny (wpAny_pure ?_)
      exact h h2 tk2 dx t1 _ (fun b o hb z => k2 b o (ne1 b o z) (k1 b o hb (k0 b o z))) (Nat.le_trans (Nat.le_of_lt lL) dn) dne (k2 a _ dne.symm e1) hnx
end
end Fk
namespace Fk
open PySem PySem.Spec PyProof.Rows L2
section
open PySem.W
variable {EB : EBase} {P : Program} {w : World} {A : Around} {E : Value → Shared → Prop} {s : Shared} {K : PySem.W.Frag} {mg : Str → Option Value} {base : Heap} {f D C a L : Addr} {fd : FuncData}
/-- what __init__ of the class C promises: the fields -/
def spI (C : Addr) (mk : V → List (Str × V)) : Sp := fun vs H Q _ => ∃ (a : Addr) (x : V), vs = [.ref a, x] ∧ H a = some (exo a C none) ∧ ∀ dx, H dx = none → dx ≠ a → Q .non (upd (upd H dx (exd dx (mk x))) a (exo a C (some dx)))
/-- a class, the def's class D, its field: what the plain __init__ asks -/
structure In1 (EB : EBase) (K : PySem.W.Frag) (C D : Addr) (fld : Str) : Prop where
  c : ExC EB K C
  sub : mroIn K C (.ref D) = some true
  sup : ks_superIn K C D "__init__" = some (some (.builtin EB.ini))
  no : findIn K (.ref C) fld = some none
/-- the shape of such a def -/
structure De1 (fd : FuncData) (y fld : Str) : Prop where
  body : ∃ (p0 p1 p2 p3 p4 p5 p6 p7 p8 p9 : Pos) (pl : Addr → Addr → Sem Bool), fd.body = .stmts [.Expr (.Call (.Attribute (.Call (.Name "super" p0) [] [] p1) "__init__" p2) [.Name y p3] [] p4) p5, .Assign [.Attribute (.Name "self" p6) fld p7] (.Name y p8) p9] ∧ ∀ (f L : Addr), eval (.Call (.Attribute (.Call (.Name "super" p0) [] [] p1) "__init__" p2) [.Name y p3] [] p4) (callEnv fd L f) = (do
      let ov ← attributeBase (.Call (.Name "super" p0) [] [] p1) "__init__" (callEnv fd L f) (eval (.Call (.Name "super" p0) [] [] p1) (callEnv fd L f))
      standAt p2.atName
      let (f', first) ← holding [ov] (getMethod ov "__init__" (pl f L))
      callWith p4 f' first (backTo p4 (starEach [.Name y p3] (callEnv fd L f))) [])
  ky : fd.scope.names.lookup y = some .local
  cell : ∀ x ∈ fd.scope.names, x.2 ≠ .cell
  hy : (y == ("self" : Str)) = false
  hyd : (y == ("__debug__" : Str)) = false
  co : fd.scope.isCoroutine = false
  gen : fd.scope.isGenerator = false
theorem inter_no (h : fd.scope.kind = .function) : interactive (callEnv fd L f) = false := by
  show (fd.scope.kind == .module && _) = false
  rw [h]
  rfl
theorem run1 {y fld : Str} {v : Value} {t0 : Addr} {args : Args} {R : Result → Shared → Prop} (S : SupFn P K f fd D) (De : De1 fd y fld) (M : Md K mg s.heap) (hsm : mg "super" = none) (T : In1 EB K C D fld)
    (ha : s.heap.get? a = some (exObj C none t0)) (hroom : A.depth < recursionLimit) (hbind : BindsTo s fd args [("self", .ref a), (y, v)]) (hKa : K.lookup a = none)
    (h : ∀ h' tk dx t1, (∀ b o, b ≠ a → s.heap.get? b = some o → h'.get? b = some o) → s.heap.objs.size ≤ dx → dx ≠ a → h'.get? a = some (exObj C (some dx) t1) → h'.Ns1 dx (fun z => if z = fld then some v else none) → R (.ok (.ret .none)) { s with heap := h', toks := tk }) :
    codeAny (model P w) A (.call (.ref f) args) R s := by
  obtain ⟨p0, p1, p2, p3, p4, p5, p6, p7, p8, p9, pl, hbody, hev⟩ := De.body
  exact init1 S M hsm T.c ha T.sub T.sup hroom hbody hbind De.ky De.cell De.hy De.hyd De.co De.gen T.no hKa (fun L => hev f L) (fun L => inter_no S.kind) (fun L => rfl) (fun L => rfl) h
theorem ini1 {y fld : Str} (S : SupFn P K f fd D) (De : De1 fd y fld) (hsm : mg "super" = none) (T : In1 EB K C D fld) : FnOk P w K mg base CX0 1 f fd ["self", y] (spI C fun x => [(fld, x)]) := by
  refine ⟨fun vs H Q E h => ?_, fun A outer s H args us vs Q E hr e0 hb r h => ?_⟩
  · obtain ⟨a, x, rfl, _⟩ := h
    rfl
  · obtain ⟨a, x, rfl, e, q⟩ := h
    obtain ⟨u1, v, rfl, r1, r2⟩ := vals2 r
    obtain rfl : u1 = Value.ref a := r1
    obtain ⟨t0, ha⟩ := exo_at e0.hok e
    refine run1 S De (Env0.md e0) hsm T ha hr.depth hb (Env0.off e0 e) fun h' tk dx t1 k dn dne hx hn => ?_
    obtain ⟨U, O⟩ := exo_made (fs' := frs outer) (fs := [(fld, x)]) e0.hok e k dn dne hx hn (relO_put (fs := []) r2 fun g => True.intro)
    exact ⟨.non, _, rfl, e0.bare, U, O, rfl, q dx (e0.hok.fresh dn) dne⟩
/-- __init__ that says super().__init__('text') to such a def -/
structure De2 (fd : FuncData) (y fld x2 : Str) : Prop where
  body : ∃ (p0 p1 p2 p3 : Pos) (j : Nat) (p4 p5 p6 p7 p8 p9 : Pos) (pl : Addr → Addr → Sem Bool), fd.body = .stmts [.Expr (.Call (.Attribute (.Call (.Name "super" p0) [] [] p1) "__init__" p2) [.Constant (.str x2) j p3] [] p4) p5, .Assign [.Attribute (.Name "self" p6) fld p7] (.Name y p8) p9] ∧ ∀ (f L : Addr), eval (.Call (.Attribute (.Call (.Name "super" p0) [] [] p1) "__init__" p2) [.Constant (.str x2) j p3] [] p4) (callEnv fd L f) = (do
      let ov ← attributeBase (.Call (.Name "super" p0) [] [] p1) "__init__" (callEnv fd L f) (eval (.Call (.Name "super" p0) [] [] p1) (callEnv fd L f))
      standAt p2.atName
      let (f', first) ← holding [ov] (getMethod ov "__init__" (pl f L))
      callWith p4 f' first (backTo p4 (starEach [.Constant (.str x2) j p3] (callEnv fd L f))) [])
  ky : fd.scope.names.lookup y = some .local
  cell : ∀ x ∈ fd.scope.names, x.2 ≠ .cell
  hy : (y == ("self" : Str)) = false
  hyd : (y == ("__debug__" : Str)) = false
  co : fd.scope.isCoroutine = false
  gen : fd.scope.isGenerator = false
structure In2 (EB : EBase) (K : PySem.W.Frag) (C D D2 f2 : Addr) (fld fld2 : Str) : Prop where
  i : In1 EB K C D2 fld2
  sub : mroIn K C (.ref D) = some true
  sup : ks_superIn K C D "__init__" = some (some (.ref f2))
  ty : typeIn K (.ref f2) = some (.type "function")
  fn : fnIn K f2 = true
  no : findIn K (.ref C) fld = some none
theorem ini2 {D2 f2 : Addr} {fd2 : FuncData} {y y2 fld fld2 x2 : Str} (S : SupFn P K f fd D) (De : De2 fd y fld x2) (S2 : SupFn P K f2 fd2 D2) (Db : De1 fd2 y2 fld2) (hb2 : ∀ (s : Shared) (a v : Value), K.In s.heap → BindsTo s fd2 ⟨[a, v], []⟩ [("self", a), (y2, v)])
    (hsm : mg "super" = none) (T : In2 EB K C D D2 f2 fld fld2) : FnOk P w K mg base CX0 2 f fd ["self", y] (spI C fun x => [(fld, x), (fld2, .str x2)]) := by
  refine ⟨fun vs H Q E h => ?_, fun A outer s H args us vs Q E hr e0 hb r h => ?_⟩
  · obtain ⟨a, x, rfl, _⟩ := h
    rfl
  · obtain ⟨a, x, rfl, e, q⟩ := h
    obtain ⟨u1, v, rfl, r1, r2⟩ := vals2 r
    obtain rfl : u1 = Value.ref a := r1
    obtain ⟨t0, ha⟩ := exo_at e0.hok e
    obtain ⟨p0, p1, p2, p3, j, p4, p5, p6, p7, p8, p9, pl, hbody, hev⟩ := De.body
    refine init2 (fld2 := fld2) S (Env0.md e0) hsm T.i.c ha T.sub T.sup T.ty T.fn hr.depth hbody (fun L tk => ?_) hb De.ky De.cell De.hy De.hyd De.co De.gen T.no (Env0.off e0 e) (fun L => hev f L) (fun L => inter_no S.kind) (fun L => rfl) (fun L => rfl) fun h' tk dx t1 tk2 k dn dne hx hn => ?_
    · intro s1 t1 R M1 ha1 h1
      exact run1 S2 Db M1 hsm T.i ha1 (Room.depth (hr.deeper _)) (hb2 s1 _ _ M1.kin) (Env0.off e0 e) h1
    · obtain ⟨U, O⟩ := exo_made (fs' := frs outer) (fs := [(fld, x), (fld2, .str x2)]) e0.hok e k dn dne hx hn (relO_put (fs := [(fld2, .str x2)]) r2 (relO_put (fs := []) ⟨tk2, rfl⟩ fun g => True.intro))
      exact ⟨.non, _, rfl, e0.bare, U, O, rfl, q dx (e0.hok.fresh dn) dne⟩
/-! ### C(..) as a value -/
/-- what is said of the class C, its __init__ and their promise -/
structure Mkr (P : Program) (w : World) (K : PySem.W.Frag) (mg : Str → Option Value) (base : Heap) (C : Addr) (y : Str) (mk : V → List (Str × V)) : Prop where
  ex : ∃ (EB : EBase) (fI : Addr) (fd : FuncData), ExC EB K C ∧ findIn K (.ref C) "__init__" = some (some (.ref fI)) ∧ typeIn K (.ref fI) = some (.type "function") ∧ FnOk P w K mg base CX0 2 fI fd ["self", y] (spI C mk) ∧
    (∀ (s : Shared) (a v : Value), K.In s.heap → BindsTo s fd ⟨[a, v], []⟩ [("self", a), (y, v)]) ∧ ∀ (s : Shared) (a v : Value), K.In s.heap → BindsTo s fd ⟨[a], [(y, v)]⟩ [("self", a), (y, v)]
/-- .. that may be called without an argument -/
structure Mk0 (P : Program) (w : World) (K : PySem.W.Frag) (mg : Str → Option Value) (base : Heap) (C : Addr) (y : Str) (mk : V → List (Str × V)) (dv : V) : Prop where
  ex : ∃ (EB : EBase) (fI : Addr) (fd : FuncData) (d : Value), ExC EB K C ∧ findIn K (.ref C) "__init__" = some (some (.ref fI)) ∧ typeIn K (.ref fI) = some (.type "function") ∧ FnOk P w K mg base CX0 2 fI fd ["self", y] (spI C mk) ∧
    RelV dv d ∧ ∀ (s : Shared) (a : Value), K.In s.heap → BindsTo s fd ⟨[a], []⟩ [("self", a), (y, d)]
theorem upd3 {H : Hp} {a dx : Addr} {o e u : HO} (h : dx ≠ a) : upd (upd (upd H a o) dx e) a u = upd (upd H dx e) a u := by
  funext b
  by_cases hb : b = a
  · rw [hb, upd_same, upd_same]
  · rw [upd_ne hb, upd_ne hb]
    by_cases hd : b = dx
    · rw [hd, upd_same, upd_same]
    · rw [upd_ne hd, upd_ne hd, upd_ne hb]
theorem run_ex {X : Cx} {pins : List (Addr × Obj)} {σ : L2.St} {H : Hp} {Q : Value → Shared → Prop} {y : Str} {mk : V → List (Str × V)} {fI : Addr} {us : List Value} {kw : List (Str × Value)} {x : V} {v : Value} (T : ExC EB X.K C) (iC : findIn X.K (.ref C) "__init__" = some (some (.ref fI))) (tI : typeIn X.K (.ref fI) = some (.type "function"))
    (F1 : FnOk X.prog X.w X.K X.mg X.base CX0 2 fI fd ["self", y] (spI C mk)) (hr : Room 3 X.A) (hb : ∀ (s : Shared) (a : Value), X.K.In s.heap → BindsTo s fd ⟨a :: us, kw⟩ [("self", a), (y, v)]) (rv : RelV x v) (hl : us.length ≤ 10) (I : Inv X pins σ H s)
    (h : ∀ (s' : Shared) (a dx : Addr), s.heap.objs.size ≤ a → H a = none → H dx = none → dx ≠ a → (∃ hp2, (∀ b o, s.heap.get? b = some o → hp2.get? b = some o) ∧ Un (frs X.stack) [] (upd H a (exo a C none)) (upd (upd H dx (exd dx (mk x))) a (exo a C (some dx))) hp2 s'.heap) → HOk X.prog X.w (upd (upd H dx (exd dx (mk x))) a (exo a C (some dx))) s'.heap →
      s'.os = s.os → AllBare s'.gens → Inv X pins σ (upd (upd H dx (exd dx (mk x))) a (exo a C (some dx))) s' → Q (.ref a) s') : wpAny (model X.prog X.w) X.A (call (.ref C) us kw) Q X.xe s := by
  obtain ⟨nm, q, N, bs, bm, sn, sub, ab, col, dd, k0, k1, k2, k3, k5, hC, hbm⟩ := T.cls
  obtain ⟨i0, tl0, fb⟩ := EB.fn
  obtain ⟨hp, g, dr, tk, os⟩ := s
  have hsz : hp.objs.size ≤ hp.objs.size + 1 := Nat.le_succ _
  have hn : H (hp.objs.size + 1) = none := I.hok.fresh hsz
  have kk : ∀ b o, hp.get? b = some o → ((hp.push (PySem.W.kdv_tup us)).push (PySem.HandSPX.excO C hp.objs.size)).get? b = some o := fun b o e => Heap.get?_push_of_some _ (Heap.get?_push_of_some _ e)
  have hget : ((hp.push (PySem.W.kdv_tup us)).push (PySem.HandSPX.excO C hp.objs.size)).get? (hp.objs.size + 1) = some (PySem.HandSPX.excO C hp.objs.size) := by heap_get
  have I2 : Inv X pins σ (upd H (hp.objs.size + 1) (exo (hp.objs.size + 1) C none)) ⟨(hp.push (PySem.W.kdv_tup us)).push (PySem.HandSPX.excO C hp.objs.size), g, dr, tk, os⟩ :=
    I.laid (t' := tk) (a := hp.objs.size + 1) (o := exo (hp.objs.size + 1) C none) (h' := (hp.push (PySem.W.kdv_tup us)).push (PySem.HandSPX.excO C hp.objs.size)) kk hsz (exo_ok hget)
  have hT : bm.contains (.type EB.nb) = true ∧ bm.contains (.type "AttributeError") = false ∧ bm.contains (.type "NameError") = false := ⟨(tl_has _ _ hbm).trans EB.has, (tl_has _ _ hbm).trans EB.noA, (tl_has _ _ hbm).trans EB.noN⟩
  have hus : us.length ≤ sizeLine := by
    rw [sizeLine_eq]
    omega
  refine wpAny_call (cl_own fb hT (I.kIn _ _ hC) (PySem.W.looks_findIn I.kIn iC) (fun self => PySem.W.bind_fn I.kIn self tI) hus
    (codeAny_mono (F1.run _ X.stack _ _ ⟨Value.ref (hp.objs.size + 1) :: us, kw⟩ [Value.ref (hp.objs.size + 1), v] [V.ref (hp.objs.size + 1), x] (fun r H2 => r = .non ∧ ∃ dx, H dx = none ∧ dx ≠ hp.objs.size + 1 ∧ H2 = upd (upd H dx (exd dx (mk x))) (hp.objs.size + 1) (exo (hp.objs.size + 1) C (some dx))) (fun _ _ _ => False) (hr.make C us kw) (I2.env0.make C us kw) (hb _ _ I2.kIn) (.cons rfl (.cons rv .nil)) ⟨_, x, rfl, upd_same, fun dx h1 h2 => ⟨rfl, dx, by rw [upd_ne h2] at h1; exact h1, h2, upd3 h2⟩⟩) fun r s' hq' => ?_))
  cases r with
  | error er => exact hq'.elim
  | ok fl =>
    cases fl with
    | ret u =>
      have I3 := I2.after hq'
      obtain ⟨v', H2, os2, bare2, un2, hok2, rv', ev, dx, h1, h2, rfl⟩ := hq'
      subst ev
      obtain ⟨v3, H3, J, r3, ev3, dx3, h13, h23, e3⟩ := I3
      refine ⟨rv', h s' (hp.objs.size + 1) dx hsz hn h1 h2 ⟨_, kk, un2⟩ hok2 os2 bare2 ?_⟩
      obtain ⟨hh, g2, d2, t2, os'⟩ := s'
      obtain rfl : os' = os := os2
      exact I2.call (h' := hh) (g' := g2) (d' := d2) (t' := t2) (ch := []) un2 hok2 bare2 (fun b z => absurd z (by simp))
    | next => exact False.elim hq'
    | brk => exact False.elim hq'
    | cont => exact False.elim hq'
end
/-- C(e) | C(k = e) | C(), a new exception -/
def tMkE (C : Addr) (mk : V → List (Str × V)) (ta : TA) : TE := fun σ H Q => ta σ H fun vs H1 => ∃ x, vs = [x] ∧ ∀ a dx, H1 a = none → H1 dx = none → dx ≠ a → Q (.ref a) (upd (upd H1 dx (exd dx (mk x))) a (exo a C (some dx)))
section
variable {X : Cx} {x y : Str} {p pos kp : Pos} {e : Expr} {te : TE} {C : Addr} {mk : V → List (Str × V)} {dv : V}
theorem pe_mkE (M : Mkr X.prog X.w X.K X.mg X.base C y mk) (hr : Room 3 X.A) (hg : Gl X x) (hm : X.mg x = some (.ref C)) (he : PE X e te) (hdb : (x == ("__debug__" : Str)) = false := by decide)
    (hse : starEach [e] X.env = [(false, eval e X.env)] := by rfl) : PE X (.Call (.Name x p) [e] [] pos) (tMkE C mk (tCons te tNil)) := by
  obtain ⟨EB, fI, fd, T, iC, tI, F1, b1, b2⟩ := M.ex
  refine ⟨fun pins s σ H Q I h => ?_⟩
  refine wpAny_Call_Name_kw (ld_glob I hg hm ?_ hdb)
  have ha : PA X [e] (tCons te tNil) := pa_cons he pa_nil hse
  refine PySem.W.callWith_K (h₀ := X.base) I.ok.mod.kin T.kC (thn (ha.run pos pins s σ H (fun vs H1 => ∃ z, vs = [z] ∧ ∀ a dx, H1 a = none → H1 dx = none → dx ≠ a → Q (.ref a) (upd (upd H1 dx (exd dx (mk z))) a (exo a C (some dx)))) I h) fun us s1 ⟨vs, H1, I1, r1, z, ez, q1⟩ => ⟨I1.kIn, ?_⟩) hse rfl
  subst ez
  obtain ⟨v, rfl, rv⟩ := vals1 r1
  exact run_ex T iC tI F1 hr (fun s a k => b1 s a v k) rv (by show 1 ≤ 10; decide) I1 fun s' a dx _ h1 h2 h3 _ _ _ _ J => ⟨.ref a, _, J, rfl, q1 a dx h1 h2 h3⟩
theorem pe_mkEk (M : Mkr X.prog X.w X.K X.mg X.base C y mk) (hr : Room 3 X.A) (hg : Gl X x) (hm : X.mg x = some (.ref C)) (he : PE X e te) (hdb : (x == ("__debug__" : Str)) = false := by decide) :
    PE X (.Call (.Name x p) [] [⟨some y, e, kp⟩] pos) (tMkE C mk (tCons te tNil)) := by
  obtain ⟨EB, fI, fd, T, iC, tI, F1, b1, b2⟩ := M.ex
  refine ⟨fun pins s σ H Q I h => ?_⟩
  refine wpAny_Call_Name_kw (ld_glob I hg hm ?_ hdb)
  have ha : PK X [⟨some y, e, kp⟩] (tCons te tNil) := pk_cons he pk_nil
  refine PySem.W.callWith_KW0 (h₀ := X.base) I.ok.mod.kin T.kC rfl (thn (ha.run pos pins s σ H (fun vs H1 => ∃ z, vs = [z] ∧ ∀ a dx, H1 a = none → H1 dx = none → dx ≠ a → Q (.ref a) (upd (upd H1 dx (exd dx (mk z))) a (exo a C (some dx)))) I h) fun us s1 ⟨vs, H1, I1, r1, z, ez, q1⟩ => ⟨I1.kIn, ?_⟩)
  subst ez
  obtain ⟨v, rfl, rv⟩ := vals1 r1
  show wpAny _ _ (call (.ref C) [] [(y, v)]) _ _ _
  exact run_ex T iC tI F1 hr (fun s a k => b2 s a v k) rv (by show 0 ≤ 10; decide) I1 fun s' a dx _ h1 h2 h3 _ _ _ _ J => ⟨.ref a, _, J, rfl, q1 a dx h1 h2 h3⟩
theorem pe_mkE0 (M : Mk0 X.prog X.w X.K X.mg X.base C y mk dv) (hr : Room 3 X.A) (hg : Gl X x) (hm : X.mg x = some (.ref C)) (hdb : (x == ("__debug__" : Str)) = false := by decide) :
    PE X (.Call (.Name x p) [] [] pos) (tMkE C mk fun σ H Q => Q [dv] H) := by
  obtain ⟨EB, fI, fd, d, T, iC, tI, F1, rv, b1⟩ := M.ex
  refine ⟨fun pins s σ H Q I h => ?_⟩
  refine wpAny_Call_Name_kw (ld_glob I hg hm ?_ hdb)
  refine PySem.W.callWith_K0 I.kIn T.kC ?_
  obtain ⟨z, ez, q1⟩ := h
  obtain rfl : dv = z := (List.cons.inj ez).1
  exact run_ex (us := []) T iC tI F1 hr (fun s a k => b1 s a k) rv (by show 0 ≤ 10; decide) I fun s' a dx _ h1 h2 h3 _ _ _ _ J => ⟨.ref a, _, J, rfl, q1 a dx h1 h2 h3⟩
/-- the same, raised -/
def tMkX (C : Addr) (mk : V → List (Str × V)) (ta : TA) : L2.St → Hp → XK → Prop := fun σ H Q => ta σ H fun vs H1 => ∃ x, vs = [x] ∧ ∀ dx, H1 dx = none → Q (.ref C) (some dx) (upd H1 dx (.xd (mk x)))
theorem pmk_ex1 (M : Mkr X.prog X.w X.K X.mg X.base C y mk) (hr : Room 3 X.A) (hg : Gl X x) (hm : X.mg x = some (.ref C)) (he : PE X e te) (hdb : (x == ("__debug__" : Str)) = false := by decide)
    (hse : starEach [e] X.env = [(false, eval e X.env)] := by rfl) : PMk X (.Call (.Name x p) [e] [] pos) (tMkX C mk (tCons te tNil)) := by
  obtain ⟨EB, fI, fd, T, iC, tI, F1, b1, b2⟩ := M.ex
  intro pins s σ H Q I h
  refine wpAny_Call_Name_kw (ld_glob I hg hm ?_ hdb)
  have ha : PA X [e] (tCons te tNil) := pa_cons he pa_nil hse
  refine PySem.W.callWith_K (h₀ := X.base) I.ok.mod.kin T.kC (thn (ha.run pos pins s σ H (fun vs H1 => ∃ z, vs = [z] ∧ ∀ dx, H1 dx = none → Q (.ref C) (some dx) (upd H1 dx (.xd (mk z)))) I h) fun us s1 ⟨vs, H1, I1, r1, z, ez, q1⟩ => ⟨I1.kIn, ?_⟩) hse rfl
  subst ez
  obtain ⟨v, rfl, rv⟩ := vals1 r1
  refine run_ex T iC tI F1 hr (fun s a k => b1 s a v k) rv (by show 1 ≤ 10; decide) I1 fun s' a dx ha h1 h2 h3 hu hok ho hbr J => ?_
  obtain ⟨hp2, kk, un⟩ := hu
  obtain ⟨hp, g, dr, tk, os⟩ := s1
  obtain ⟨hp', g', dr', tk', os'⟩ := s'
  have e1 : (upd (upd H1 dx (exd dx (mk z))) a (exo a C (some dx))) dx = some (exd dx (mk z)) := by rw [upd_ne h3, upd_same]
  refine mk_end (raises_own T.exC T.tyC) I1 ha kk un hok ho hbr upd_same e1 h2 ?_
  have e2 : upd (del (upd (upd H1 dx (exd dx (mk z))) a (exo a C (some dx))) a) dx (.xd (mk z)) = upd H1 dx (.xd (mk z)) := by
    funext b
    by_cases hb : b = dx
    · rw [hb, upd_same, upd_same]
    · rw [upd_ne hb, upd_ne hb]
      by_cases hba : b = a
      · rw [hba, del_same, h1]
      · rw [del_ne hba, upd_ne hba, upd_ne hb]
  rw [e2]
  exact q1 dx h2
end
end Fk
namespace Fk
open PySem PySem.Spec PyProof.Rows L2
/-- isinstance(e, c), e an exception that is held as a value -/
def rIsX (K : PySem.W.Frag) : List V → Hp → VK → Prop := fun xs H Q => ∃ (a D dx : Addr) (fs : List (Str × V)) (c : V) (u : Value) (b : Bool), xs = [.ref a, c] ∧ H a = some (exo a D (some dx)) ∧ H dx = some (exd dx fs) ∧ ExcC K D ∧ ClsV c u ∧ PySem.W.kitOne K (.ref D) u = some b ∧ Q (.bl b) H
theorem cls_some {K : PySem.W.Frag} {D : Addr} (T : ExcC K D) : (PySem.W.clsIn K D).isSome = true := by
  obtain ⟨cd, hc, _⟩ := PySem.W.any_some T.hd
  rw [hc]
  rfl
theorem call_isX {X : Cx} : CallR X (.builtin "isinstance") (rIsX X.K) := by
  intro pins s σ H xs us Q I r h
  obtain ⟨a, D, dx, fs, c, u, b, rfl, ea, ed, T, k, e, q⟩ := h
  obtain ⟨u1, u2, rfl, r1, r2⟩ := vals2 r
  have e2 := k.eq r2
  subst e2
  cases (show u1 = Value.ref a from r1)
  obtain ⟨t1, ha⟩ := exo_at I.hok ea
  obtain ⟨mA, hns, _⟩ := exd_at I.hok ed
  obtain ⟨od, es, ep, ho, _⟩ := hns
  have J : PySem.W.InstAt s.heap a (exObj D (some dx) t1) D (some od) := ⟨ha, rfl, rfl, ho⟩
  exact PySem.W.kia_one (PySem.W.kitx_exc (cls_some T) T.hg T.hk T.hs T.ha T.hn T.ht T.hm) I.kIn J e (fun z => nomatch z) fun tk => ⟨.bl b, H, I.tok tk, rfl, q⟩
/-- e.f of such an exception -/
def tFx (K : PySem.W.Frag) (f : Str) (te : TE) : TE := fun σ H Q => te σ H fun x H1 => ∃ (a D dx : Addr) (fs : List (Str × V)) (v : V), x = .ref a ∧ H1 a = some (exo a D (some dx)) ∧ H1 dx = some (exd dx fs) ∧ XfC K D ∧ PySem.W.findIn K (.ref D) f = some none ∧ fs.lookup f = some v ∧ Q v H1
theorem pe_fx {X : Cx} {e : Expr} {te : TE} {pos : Pos} {f : Str} (he : PE X e te) (hb : attributeBase e f X.env (eval e X.env) = eval e X.env := by rfl) : PE X (.Attribute e f pos) (tFx X.K f te) := by
  refine ⟨fun pins s σ H Q I h => ?_⟩
  refine attr_of hb (thn (he.run pins s σ H _ I h) fun u s1 hh => ?_)
  obtain ⟨x, H1, I1, rx, a, D, dx, fs, v, ex, ea, ed, T, hno, l, q⟩ := hh
  subst ex
  obtain rfl : u = Value.ref a := rx
  obtain ⟨t1, ha⟩ := exo_at I1.hok ea
  obtain ⟨mA, hns, hr⟩ := exd_at I1.hok ed
  obtain ⟨od, ho, hl⟩ := lookIn_ns hns
  obtain ⟨u, hu, ru⟩ := RelO.some_of (v := v) (o := mA f) (by rw [← l]; exact hr f)
  have J : PySem.W.InstAt s1.heap a (exObj D (some dx) t1) D (some od) := ⟨ha, rfl, rfl, ho⟩
  exact HandSPX.exc_get I1.kIn J T.ga T.gg T.exC (PySem.W.findObj_own T.hdC hno rfl (by rw [hl, hu])) (handed_of ru) ⟨v, H1, I1.tok _, ru, q⟩
/-- isinstance(e, (c1, ..)), e the exception that the suite holds -/
def rIsS (K : PySem.W.Frag) (a : Addr) (cls : Value) (d : Option Addr) : List V → Hp → VK → Prop := fun xs H Q => ∃ (D tp dx : Addr) (fs : List (Str × V)) (cs : List V) (us : List Value) (b : Bool), xs = [.ref a, .ref tp] ∧ cls = .ref D ∧ ExcC K D ∧ d = some dx ∧ H dx = some (.xd fs) ∧ H tp = some (.tup cs) ∧ Paired ClsV cs us ∧ PySem.W.kitAny K (.ref D) us = some b ∧ Q (.bl b) H
theorem call_isS {X : Cx} {a : Addr} {oe : Obj} {cls : Value} {d : Option Addr} {pn : List (Addr × Obj)} (hz : Zc cls d oe) (hf : ∃ vs, oe.data = .fields vs) : CallR (X.suite a ((a, oe) :: pn)) (.builtin "isinstance") (rIsS X.K a cls d) := by
  intro pins s σ H xs us Q I r h
  obtain ⟨D, tp, dx, fs, cs, ws, b, rfl, rfl, T, rfl, ed, hT, k, e, q⟩ := h
  obtain ⟨u1, u2, rfl, r1, r2⟩ := vals2 r
  cases (show u1 = Value.ref a from r1)
  cases (show u2 = Value.ref tp from r2)
  obtain ⟨ha, _⟩ := I.pin (a, oe) (List.mem_append_left _ List.mem_cons_self)
  obtain ⟨vs, hd⟩ := hf
  have hx : ObjOk X.prog X.w H s.heap dx (.xd fs) := I.hok dx _ ed
  obtain ⟨mA, hns, _⟩ := hx
  obtain ⟨od, es, ep, ho, _⟩ := hns
  have J : PySem.W.InstAt s.heap a oe D (some od) := ⟨ha, hz.1, by unfold PySem.W.notCls; rw [hd] <;> rfl, by rw [hz.2]; exact ho⟩
  obtain ⟨_, its, rv, o, h1, h2, n, h3⟩ := (show ObjOk X.prog X.w H s.heap tp (.tup cs) from I.hok tp _ hT)
  have e3 := ClsV.all k rv
  subst e3
  obtain ⟨oc, od', dt, sl⟩ := o
  simp only at h2 h3
  subst h2 h3
  exact PySem.W.kia_tup (PySem.W.kitx_exc (cls_some T) T.hg T.hk T.hs T.ha T.hn T.ht T.hm) I.kIn J h1 e (fun z => nomatch z) fun tk => ⟨.bl b, H, I.tok tk, rfl, q⟩
end Fk
namespace Fk
open PySem PySem.Spec PyProof.Rows L2
/-! ### __init__ defs that say super() -/
abbrev IniW : Type := Option (Str × Arguments × FuncBody × Scope × Addr × Addr)
def fI (K : PySem.W.Frag) (c : Str) : Addr := He.fAd K (c, some "__init__")
def iniW (K : PySem.W.Frag) (c : Str) : IniW := match K.lookup (fI K c) with
  | some ⟨_, _, .func fd, _⟩ => some (fd.qualname, fd.params, fd.body, fd.scope, fd.globals, fd.builtins)
  | _ => none
structure IniD where
  cls : Str
  qual : Str
  params : Arguments
  body : List Stmt
  scope : Scope
  dfl : List He.Dv := []
def IniD.val (d : IniD) : IniW := some (d.qual, d.params, .stmts d.body, d.scope, mainGlobals, builtinsNs)
def cellB (K : PySem.W.Frag) (D : Addr) : List (Str × Addr) → Bool
  | [(n, cc)] => decide (n = "__class__") && (match K.lookup cc with
    | some ⟨_, _, .cell (some (.ref D')), _⟩ => decide (D' = D)
    | _ => false)
  | _ => false
def fileB (K : PySem.W.Frag) (file : Str) : Value → Bool
  | .ref cda => (match K.lookup cda with
    | some ⟨_, _, .fields vs, _⟩ => (match (vs : Array Value)[2]? with
      | some (Value.str fl _) => file == fl
      | _ => false)
    | _ => false)
  | _ => false
def IniD.ok (file : Str) (K : PySem.W.Frag) (d : IniD) : Bool := match K.lookup (fI K d.cls) with
  | some ⟨_, _, .func fd, _⟩ => PySem.W.codeIn K fd.code d.qual && (He.dflB K fd.defaults (d.dfl.map (He.Dv.v K)) && (cellB K (He.ga K d.cls) fd.closure && (fileB K file fd.code && ((PySem.W.clsIn K (He.ga K d.cls)).isSome && decide (PySem.W.nsIn K cStatics "thirdparty.any" = some none)))))
  | _ => false
theorem cellB_ok {K : PySem.W.Frag} {D : Addr} {l : List (Str × Addr)} (h : cellB K D l = true) : ∃ cc cl cld csl, l = [(("__class__" : Str), cc)] ∧ K.lookup cc = some ⟨cl, cld, .cell (some (.ref D)), csl⟩ := by
  unfold cellB at h
  split at h
  · rename_i n cc
    rw [Bool.and_eq_true] at h
    obtain ⟨h1, h2⟩ := h
    split at h2
    · rename_i c d D' sl e
      rw [of_decide_eq_true h1, ← of_decide_eq_true h2]
      exact ⟨_, _, _, _, rfl, e⟩
    · cases h2
  · cases h
theorem fileB_ok {K : PySem.W.Frag} {file : Str} {v : Value} (h : fileB K file v = true) : ∃ cda ccl cdd ccs vs fl tf, v = .ref cda ∧ K.lookup cda = some ⟨ccl, cdd, .fields vs, ccs⟩ ∧ vs[2]? = some (.str fl tf) ∧ (file == fl) = true := by
  unfold fileB at h
  split at h
  · split at h
    · split at h
      · rename_i e1 _ fl tf e2
        exact ⟨_, _, _, _, _, _, _, rfl, e1, e2, h⟩
      · cases h
    · cases h
  · cases h
/-- what is asked of such a def's scope -/
structure ScI (sc : Scope) (params : Arguments) (y : Str) : Prop where
  ks : sc.names.lookup ("super" : Str) = some .globalImplicit
  kc : sc.names.lookup ("__class__" : Str) = some .free
  kself : sc.names.lookup ("self" : Str) = some .local
  ky : sc.names.lookup y = some .local
  kind : sc.kind = .function
  co : sc.isCoroutine = false
  gen : sc.isGenerator = false
  cell : (sc.names.all fun x => decide (x.2 ≠ .cell)) = true
  par : ∃ ar, (params.posonlyargs ++ params.args).head? = some ar ∧ ar.arg = "self"
  hy : (y == ("self" : Str)) = false
  hyd : (y == ("__debug__" : Str)) = false
/-- the def, its facts -/
theorem IniD.get {P : Program} {K : PySem.W.Frag} {d : IniD} {y : Str} (e : iniW K d.cls = d.val) (c : d.ok P.main.file K = true) (S : ScI d.scope d.params y) (top : (P.main.scope.names.lookup ("super" : Str)).isSome = false) :
    ∃ fd, SupFn P K (fI K d.cls) fd (He.ga K d.cls) ∧ (∃ n1 clo dV n9 n10 n11 n12 n13 n14, fd = ⟨n1, d.qual, d.params, .stmts d.body, d.scope, mainGlobals, clo, dV, n9, n10, n11, n12, n13, n14, builtinsNs⟩ ∧ DflV K dV (d.dfl.map (He.Dv.v K))) := by
  unfold iniW at e
  unfold IniD.ok at c
  cases q : K.lookup (fI K d.cls) with
  | none =>
    rw [q] at c
    cases c
  | some o =>
    obtain ⟨oc, od, dt, osl⟩ := o
    rw [q] at c e
    cases dt with
    | func fd =>
      obtain ⟨n1, n2, n3, n4, n5, n6, n7, n8, n9, n10, n11, n12, n13, n14, n15⟩ := fd
      have e2 : (some (n2, n3, n4, n5, n6, n15) : IniW) = some (d.qual, d.params, .stmts d.body, d.scope, mainGlobals, builtinsNs) := e
      simp only [Option.some.injEq, Prod.mk.injEq] at e2
      obtain ⟨rfl, rfl, rfl, rfl, rfl, rfl⟩ := e2
      obtain ⟨c1, c⟩ := He.ba (show (PySem.W.codeIn K n13 d.qual && (He.dflB K n8 (d.dfl.map (He.Dv.v K)) && (cellB K (He.ga K d.cls) n7 && (fileB K P.main.file n13 && ((PySem.W.clsIn K (He.ga K d.cls)).isSome && decide (PySem.W.nsIn K cStatics "thirdparty.any" = some none)))))) = true from c)
      obtain ⟨c2, c⟩ := He.ba c
      obtain ⟨c3, c⟩ := He.ba c
      obtain ⟨c4, c⟩ := He.ba c
      obtain ⟨c5, c6⟩ := He.ba c
      refine ⟨_, ⟨⟨oc, od, osl, q⟩, rfl, rfl, fileB_ok c4, c1, cellB_ok c3, Option.isSome_iff_exists.mp c5, of_decide_eq_true c6, top, S.ks, S.kc, S.kself, S.kind, S.par⟩, n1, n7, n8, n9, n10, n11, n12, n13, n14, rfl, He.dflB_ok c2⟩
    | _ => cases c
/-! ### the classes -/
def eb (key : Bool) : EBase := if key then ebK else ebV
def clsB (EB : EBase) (K : PySem.W.Frag) (C : Addr) : Bool := (match K.lookup C with
  | some ⟨.type "type", _, .cls cd, sl⟩ => (match cd.mro, sl.toList with
    | .ref C' :: bm, [_, _, _, _, some (.builtin n), _] => C' == C && n == EB.nw && !cd.hasDel && cd.hasDict && rowIs EB.tail bm
    | _, _ => false)
  | _ => false) && (decide (PySem.W.findIn K (.ref C) "__setattr__" = some (some (.builtin "object.__setattr__"))) && (decide (PySem.W.subIn K (.ref C) (.type "BaseException") = some true) && (decide (PySem.W.typeIn K (.ref C) = some (.type "type")) && (PySem.W.keepIn K (.ref C) && decide (PySem.W.mroIn K C (.type EB.B) = some true)))))
theorem clsB_ok {EB : EBase} {K : PySem.W.Frag} {C : Addr} (h : clsB EB K C = true) : ExC EB K C := by
  obtain ⟨q, h⟩ := He.ba h
  obtain ⟨h1, h⟩ := He.ba h
  obtain ⟨h2, h⟩ := He.ba h
  obtain ⟨h3, h⟩ := He.ba h
  obtain ⟨h4, h5⟩ := He.ba h
  refine ⟨?_, of_decide_eq_true h1, of_decide_eq_true h2, of_decide_eq_true h3, h4, of_decide_eq_true h5⟩
  split at q
  · rename_i dd cd sl ho
    split at q
    · rename_i C' bm k0 k1 k2 k3 n k5 hm hs
      simp only [Bool.and_eq_true, beq_iff_eq, Bool.not_eq_true'] at q
      obtain ⟨⟨⟨⟨rfl, rfl⟩, z1⟩, z2⟩, z3⟩ := q
      obtain ⟨nm, bs, mro, ns, qn, hd, sn, sub, ab, col, del⟩ := cd
      dsimp only at hm z1 z2
      subst hm z1 z2
      obtain rfl : sl = #[k0, k1, k2, k3, some (.builtin EB.nw), k5] := by
        obtain ⟨l⟩ := sl
        simp only at hs
        rw [hs]
      exact ⟨nm, qn, ns, bs, bm, sn, sub, ab, col, dd, k0, k1, k2, k3, k5, ho, z3⟩
    · cases q
  · cases q
def exkB (K : PySem.W.Frag) (C : Addr) : Bool := xfB K C && (decide (PySem.W.findIn K (.ref C) "__class__" = some (some (.builtin "object.__class__"))) && (decide (PySem.W.specialIn K (.builtin "object.__class__") "__get__" = some (some (.builtin "getset_descriptor.__get__"))) && (decide (PySem.W.takesIn K (.builtin "object.__class__") = some true) && decide (PySem.W.mroIn K C (.type "object") = some true))))
theorem exkB_ok {K : PySem.W.Frag} {C : Addr} (h : exkB K C = true) : XfC K C ∧ ExcC K C := by
  obtain ⟨h0, h⟩ := He.ba h
  obtain ⟨h1, h⟩ := He.ba h
  obtain ⟨h2, h⟩ := He.ba h
  obtain ⟨h3, h4⟩ := He.ba h
  have z := xfB_ok h0
  exact ⟨z, z.ga, z.gg, z.exC, z.hdC, of_decide_eq_true h1, of_decide_eq_true h2, of_decide_eq_true h3, of_decide_eq_true h4⟩
/-- a class of errors: whose __init__ it has, the def over the built-in class, the fields -/
structure ErrD where
  cls : Str
  own : Str
  root : Str
  key : Bool
  fld : Str
  fld2 : Str
def ErrD.ok (K : PySem.W.Frag) (e : ErrD) : Bool := clsB (eb e.key) K (He.ga K e.cls) && (exkB K (He.ga K e.cls) && (decide (PySem.W.mroIn K (He.ga K e.cls) (.ref (He.ga K e.root)) = some true) && (decide (PySem.W.ks_superIn K (He.ga K e.cls) (He.ga K e.root) "__init__" = some (some (.builtin (eb e.key).ini))) &&
  (decide (PySem.W.findIn K (.ref (He.ga K e.cls)) e.fld = some none) && (decide (PySem.W.findIn K (.ref (He.ga K e.cls)) e.fld2 = some none) && (decide (PySem.W.findIn K (.ref (He.ga K e.cls)) "__init__" = some (some (.ref (fI K e.own)))) && (decide (PySem.W.typeIn K (.ref (fI K e.own)) = some (.type "function")) &&
  (decide (e.own = e.root) || (decide (PySem.W.mroIn K (He.ga K e.cls) (.ref (He.ga K e.own)) = some true) && (decide (PySem.W.ks_superIn K (He.ga K e.cls) (He.ga K e.own) "__init__" = some (some (.ref (fI K e.root)))) && (decide (PySem.W.typeIn K (.ref (fI K e.root)) = some (.type "function")) && PySem.W.fnIn K (fI K e.root))))))))))))
structure ErrOk (K : PySem.W.Frag) (e : ErrD) : Prop where
  c : ExC (eb e.key) K (He.ga K e.cls)
  xf : XfC K (He.ga K e.cls)
  xc : ExcC K (He.ga K e.cls)
  i1 : In1 (eb e.key) K (He.ga K e.cls) (He.ga K e.root) e.fld2
  no : PySem.W.findIn K (.ref (He.ga K e.cls)) e.fld = some none
  ini : PySem.W.findIn K (.ref (He.ga K e.cls)) "__init__" = some (some (.ref (fI K e.own)))
  ty : PySem.W.typeIn K (.ref (fI K e.own)) = some (.type "function")
  i2 : e.own ≠ e.root → In2 (eb e.key) K (He.ga K e.cls) (He.ga K e.own) (He.ga K e.root) (fI K e.root) e.fld e.fld2
theorem ErrD.get {K : PySem.W.Frag} {e : ErrD} (h : e.ok K = true) : ErrOk K e := by
  obtain ⟨h1, h⟩ := He.ba h
  obtain ⟨h2, h⟩ := He.ba h
  obtain ⟨h3, h⟩ := He.ba h
  obtain ⟨h4, h⟩ := He.ba h
  obtain ⟨h5, h⟩ := He.ba h
  obtain ⟨h6, h⟩ := He.ba h
  obtain ⟨h7, h⟩ := He.ba h
  obtain ⟨h8, h⟩ := He.ba h
  have i1 : In1 (eb e.key) K (He.ga K e.cls) (He.ga K e.root) e.fld2 := ⟨clsB_ok h1, of_decide_eq_true h3, of_decide_eq_true h4, of_decide_eq_true h6⟩
  refine ⟨clsB_ok h1, (exkB_ok h2).1, (exkB_ok h2).2, i1, of_decide_eq_true h5, of_decide_eq_true h7, of_decide_eq_true h8, fun hne => ?_⟩
  rcases Bool.or_eq_true_iff.mp h with h | h
  · exact absurd (of_decide_eq_true h) hne
  · obtain ⟨g1, h⟩ := He.ba h
    obtain ⟨g2, h⟩ := He.ba h
    obtain ⟨g3, g4⟩ := He.ba h
    exact ⟨i1, of_decide_eq_true g1, of_decide_eq_true g2, of_decide_eq_true g3, g4, of_decide_eq_true h5⟩
/-! ### the Hook -/
def asY (g : Addr → Option Obj) : Nat → List Addr
  | 0 => [mainGlobals, cStatics]
  | n + 1 => He.growD g (asY g n)
abbrev AlY : Type := He.AlD × Bool × List IniW
def obsY (file : Str) (fa : List He.Fa) (fn : List He.DefD) (ini : List IniD) (ex : PySem.W.Frag → Bool) (K : PySem.W.Frag) : AlY := (He.obsD fa fn K, (ini.all fun d => d.ok file K) && ex K, ini.map fun d => iniW K d.cls)
def valY (fn : List He.DefD) (ini : List IniD) : AlY := (He.valD fn, true, ini.map IniD.val)
structure SaysY (file : Str) (fa : List He.Fa) (fn : List He.DefD) (ini : List IniD) (ex : PySem.W.Frag → Bool) (K : PySem.W.Frag) : Prop where
  d : He.SaysD fa fn K
  ok : ∀ d ∈ ini, d.ok file K = true
  ex : ex K = true
  w : ini.map (fun d => iniW K d.cls) = ini.map IniD.val
theorem saysY_of {file : Str} {fa : List He.Fa} {fn : List He.DefD} {ini : List IniD} {ex : PySem.W.Frag → Bool} {K : PySem.W.Frag} (e : obsY file fa fn ini ex K = valY fn ini) : SaysY file fa fn ini ex K := by
  obtain ⟨h1, h2⟩ := He.ba (show ((ini.all fun d => d.ok file K) && ex K) = true from congrArg (fun z : AlY => z.2.1) e)
  exact ⟨congrArg (fun z : AlY => z.1) e, fun d hd => List.all_eq_true.mp h1 d hd, h2, congrArg (fun z : AlY => z.2.2) e⟩
theorem SaysY.ini {file : Str} {fa : List He.Fa} {fn : List He.DefD} {ini : List IniD} {ex : PySem.W.Frag → Bool} {K : PySem.W.Frag} (c : SaysY file fa fn ini ex K) (i : Nat) {d : IniD} (h : ini[i]? = some d) : iniW K d.cls = d.val ∧ d.ok file K = true := by
  refine ⟨?_, c.ok d (List.mem_of_getElem? h)⟩
  have e2 : (ini.map fun d => iniW K d.cls)[i]? = (ini.map IniD.val)[i]? := by rw [c.w]
  rw [List.getElem?_map, List.getElem?_map, h] at e2
  exact Option.some.inj e2
def obsYG (file : Str) (n : Nat) (fa : List He.Fa) (fn : List He.DefD) (ini : List IniD) (ex : PySem.W.Frag → Bool) (g : Addr → Option Obj) : AlY := obsY file fa fn ini ex (He.frG g (asY g n))
def hookY (file : Str) (n : Nat) (fa : List He.Fa) (fn : List He.DefD) (ini : List IniD) (ex : PySem.W.Frag → Bool) : PySem.W.Hook where
  α := AlY
  obs := fun s => obsYG file n fa fn ini ex s.heap.get?
  val := fun _ => valY fn ini
  says := fun _ h => ∃ K : PySem.W.Frag, K.In h ∧ SaysY file fa fn ini ex K
  of := fun _ _ e => ⟨_, He.frG_in, saysY_of e⟩
  keeps := fun _ _ _ ⟨K, hK, c⟩ k => ⟨K, PySem.W.Frag.In.keeps hK k, c⟩
theorem obsYG_eq {file : Str} {n : Nat} {fa : List He.Fa} {fn : List He.DefD} {ini : List IniD} {ex : PySem.W.Frag → Bool} {g : Addr → Option Obj} {s : Shared} (h : ∀ a, g a = s.heap.get? a) : obsYG file n fa fn ini ex g = (hookY file n fa fn ini ex).obs s := by
  have e : g = s.heap.get? := funext h
  rw [e] <;> rfl
end Fk
namespace Fk
open PySem PySem.Spec PyProof.Rows L2
/-! ### defs by a path of one's own: getters of properties -/
/-- the property x of the class at C: its object, its getter -/
def prA (K : PySem.W.Frag) (C : Addr) (x : Str) : Addr := match PySem.W.findIn K (.ref C) x with
  | some (some (.ref p)) => p
  | _ => 0
def prG (K : PySem.W.Frag) (C : Addr) (x : Str) : Addr := match PySem.W.recIn K (prA K C x) "property" with
  | some (.ref g :: _) => g
  | _ => 0
structure DefP where
  at_ : PySem.W.Frag → Addr
  name : Str
  qual : Str
  params : Arguments
  body : List Stmt
  scope : Scope
abbrev FnP : Type := Option (Str × Str × Arguments × FuncBody × Scope × Addr × List (Str × Addr) × Addr)
def fnP (K : PySem.W.Frag) (a : Addr) : FnP := match K.lookup a with
  | some ⟨_, _, .func fd, _⟩ => some (fd.name, fd.qualname, fd.params, fd.body, fd.scope, fd.globals, fd.closure, fd.builtins)
  | _ => none
def DefP.val (d : DefP) : FnP := some (d.name, d.qual, d.params, .stmts d.body, d.scope, mainGlobals, [], builtinsNs)
def DefP.ok (K : PySem.W.Frag) (d : DefP) : Bool := PySem.W.keepIn K (.ref (d.at_ K)) && (match K.lookup (d.at_ K) with
  | some ⟨_, _, .func fd, _⟩ => PySem.W.codeIn K fd.code d.qual && (He.dflB K fd.defaults [] && He.kwdB K fd.kwdefaults [])
  | _ => false)
theorem DefP.get {K : PySem.W.Frag} {d : DefP} (e : fnP K (d.at_ K) = d.val) (c : d.ok K = true) : ∃ fd, FunD K d.name d.qual d.params d.body d.scope [] [] (d.at_ K) fd := by
  obtain ⟨kp, c2⟩ := He.ba c
  unfold fnP at e
  cases q : K.lookup (d.at_ K) with
  | none =>
    rw [q] at c2
    cases c2
  | some o =>
    obtain ⟨oc, od, dt, osl⟩ := o
    rw [q] at c2 e
    cases dt with
    | func fd =>
      obtain ⟨n1, n2, n3, n4, n5, n6, n7, n8, n9, n10, n11, n12, n13, n14, n15⟩ := fd
      have e2 : (some (n1, n2, n3, n4, n5, n6, n7, n15) : FnP) = some (d.name, d.qual, d.params, .stmts d.body, d.scope, mainGlobals, [], builtinsNs) := e
      simp only [Option.some.injEq, Prod.mk.injEq] at e2
      obtain ⟨rfl, rfl, rfl, rfl, rfl, rfl, rfl, rfl⟩ := e2
      obtain ⟨k1, k2⟩ := He.ba (show (PySem.W.codeIn K n13 d.qual && (He.dflB K n8 [] && He.kwdB K n9 [])) = true from c2)
      obtain ⟨k3, k4⟩ := He.ba k2
      exact ⟨_, ⟨oc, od, n8, n9, n10, n11, n12, n13, n14, osl, rfl, q, k1, He.dflB_ok k3, He.kwdB_ok k4⟩, kp⟩
    | _ => cases c2
/-- the class at C has x as such a property -/
def prB (K : PySem.W.Frag) (C : Addr) (x : Str) : Bool := decide (PySem.W.findIn K (.ref C) x = some (some (.ref (prA K C x)))) && (decide (PySem.W.specialIn K (.ref (prA K C x)) "__get__" = some (some (.builtin "property.__get__"))) && (decide (PySem.W.takesIn K (.ref (prA K C x)) = some true) &&
  (match PySem.W.recIn K (prA K C x) "property" with
    | some (.ref _ :: _) => true
    | _ => false)))
theorem prB_ok {K : PySem.W.Frag} {C : Addr} {x : Str} (h : prB K C x = true) : PropOf K C x (prA K C x) (prG K C x) := by
  obtain ⟨h1, h⟩ := He.ba h
  obtain ⟨h2, h⟩ := He.ba h
  obtain ⟨h3, h4⟩ := He.ba h
  refine ⟨of_decide_eq_true h1, of_decide_eq_true h2, of_decide_eq_true h3, ?_⟩
  unfold prG
  split at h4
  · rename_i g rest e
    rw [e]
    exact ⟨rest, rfl⟩
  · cases h4
/-! ### the Hook with these -/
abbrev AlZ : Type := AlY × Bool × List FnP
def obsZ (file : Str) (fa : List He.Fa) (fn : List He.DefD) (ini : List IniD) (gt : List DefP) (ex : PySem.W.Frag → Bool) (K : PySem.W.Frag) : AlZ := (obsY file fa fn ini ex K, gt.all fun d => d.ok K, gt.map fun d => fnP K (d.at_ K))
def valZ (fn : List He.DefD) (ini : List IniD) (gt : List DefP) : AlZ := (valY fn ini, true, gt.map DefP.val)
structure SaysZ (file : Str) (fa : List He.Fa) (fn : List He.DefD) (ini : List IniD) (gt : List DefP) (ex : PySem.W.Frag → Bool) (K : PySem.W.Frag) : Prop where
  y : SaysY file fa fn ini ex K
  ok : ∀ d ∈ gt, d.ok K = true
  w : gt.map (fun d => fnP K (d.at_ K)) = gt.map DefP.val
theorem SaysZ.get {file : Str} {fa : List He.Fa} {fn : List He.DefD} {ini : List IniD} {gt : List DefP} {ex : PySem.W.Frag → Bool} {K : PySem.W.Frag} (c : SaysZ file fa fn ini gt ex K) (i : Nat) {d : DefP} (h : gt[i]? = some d := by rfl) : ∃ fd, FunD K d.name d.qual d.params d.body d.scope [] [] (d.at_ K) fd := by
  have e2 : (gt.map fun d => fnP K (d.at_ K))[i]? = (gt.map DefP.val)[i]? := by rw [c.w]
  rw [List.getElem?_map, List.getElem?_map, h] at e2
  exact DefP.get (Option.some.inj e2) (c.ok d (List.mem_of_getElem? h))
def obsZG (file : Str) (n : Nat) (fa : List He.Fa) (fn : List He.DefD) (ini : List IniD) (gt : List DefP) (ex : PySem.W.Frag → Bool) (g : Addr → Option Obj) : AlZ := obsZ file fa fn ini gt ex (He.frG g (asY g n))
def hookZ (file : Str) (n : Nat) (fa : List He.Fa) (fn : List He.DefD) (ini : List IniD) (gt : List DefP) (ex : PySem.W.Frag → Bool) : PySem.W.Hook where
  α := AlZ
  obs := fun s => obsZG file n fa fn ini gt ex s.heap.get?
  val := fun _ => valZ fn ini gt
  says := fun _ h => ∃ K : PySem.W.Frag, K.In h ∧ SaysZ file fa fn ini gt ex K
  of := fun _ _ e => ⟨_, He.frG_in, ⟨saysY_of (congrArg (fun z : AlZ => z.1) e), fun d hd => List.all_eq_true.mp (congrArg (fun z : AlZ => z.2.1) e) d hd, congrArg (fun z : AlZ => z.2.2) e⟩⟩
  keeps := fun _ _ _ ⟨K, hK, c⟩ k => ⟨K, PySem.W.Frag.In.keeps hK k, c⟩
theorem obsZG_eq {file : Str} {n : Nat} {fa : List He.Fa} {fn : List He.DefD} {ini : List IniD} {gt : List DefP} {ex : PySem.W.Frag → Bool} {g : Addr → Option Obj} {s : Shared} (h : ∀ a, g a = s.heap.get? a) : obsZG file n fa fn ini gt ex g = (hookZ file n fa fn ini gt ex).obs s := by
  have e : g = s.heap.get? := funext h
  rw [e] <;> rfl
end Fk
namespace Fk
open PySem PySem.Spec PyProof.Rows L2
/-! ### == by an own __eq__, both answers -/
/-- the class C has the own __eq__ at f that keeps sp -/
structure EqM (P : Program) (w : World) (K : PySem.W.Frag) (mg : Str → Option Value) (base : Heap) (k : Nat) (C : Addr) (sp : Sp) : Prop where
  ex : ∃ (f : Addr) (fd : FuncData) (ps : List Str), FnOk P w K mg base CX0 k f fd ps sp ∧ PySem.W.findIn K (.ref C) "__eq__" = some (some (.ref f)) ∧ PySem.W.isFn K (.ref f) = true ∧ Binds K fd ps []
/-- x == y, x an instance of C -/
def rEqO (K : PySem.W.Frag) (C : Addr) (sp : Sp) : R2 := fun x y H Q => ∃ (a dx : Addr) (fs : List (Str × V)) (tb : Value), x = .ref a ∧ H a = some (.ins C dx fs) ∧ TyX K H y tb ∧ PySem.W.notFirst K C tb = true ∧ sp [x, y] H (fun v H' => ∃ b, v = .bl b ∧ Q (.bl b) H') E0
section
variable {X : Cx} {n : Nat} {C : Addr} {sp : Sp}
theorem run_eqO {pins : List (Addr × Obj)} {σ : L2.St} {H : Hp} {s : Shared} {a : Addr} {y : V} {u : Value} {Qv : Bool → Hp → Prop} {A : Around} {f : Addr} {fd : FuncData} {ps : List Str} {E : Value → Shared → Prop} (F : FnOk X.prog X.w X.K X.mg X.base CX0 n f fd ps sp) (hb : Binds X.K fd ps [])
    (sb : L2.Sub X n A) (I : Inv X pins σ H s) (ry : RelV y u) (h : sp [.ref a, y] H (fun v H' => ∃ b, v = .bl b ∧ Qv b H') E0) :
    wpAny (model X.prog X.w) A (call (.ref f) [.ref a, u]) (fun v s' => ∃ b H', v = .bool b ∧ Inv X pins σ H' s' ∧ Qv b H') E s := by
  have e0 : Env0 X.prog X.w X.K X.mg X.base A X.stack s H := by
    have e := I.env0
    exact ⟨by rw [sb.fr]; exact e.frames, e.mod, e.bs, e.bsz, e.funs, e.frf, e.hok, e.bare⟩
  have hl := F.len _ _ _ _ h
  have r2 : Vals [V.ref a, y] [Value.ref a, u] := .cons rfl (.cons ry .nil)
  refine wpAny_call (codeAny_mono (F.run A X.stack s H ⟨[.ref a, u], []⟩ [.ref a, u] [.ref a, y] _ E0 sb.room e0 (by
    have := hb s [.ref a, u] I.kIn (by simpa using hl)
    simpa using this) r2 h) fun r s' hq => ?_)
  cases r with
  | error e => exact hq.elim
  | ok fl =>
    cases fl with
    | ret z =>
      obtain ⟨v, H', I', rz, b, rfl, q⟩ := I.after hq
      cases rz
      exact ⟨b, H', rfl, I', q⟩
    | next => exact False.elim hq
    | brk => exact False.elim hq
    | cont => exact False.elim hq
theorem op_eqO (M : EqM X.prog X.w X.K X.mg X.base n C sp) (hr : Room n X.A) : OpR X (compareOp .Eq) (rEqO X.K C sp) := by
  obtain ⟨f, fd, ps, F, hs, hf, hb⟩ := M.ex
  intro pins s σ H x y v u Q I rx ry hq
  obtain ⟨a, dx, fs, tb, rfl, ha, ty, nf, h⟩ := hq
  cases rx
  obtain ⟨mA, J, _⟩ := ins_get I.hok ha
  obtain ⟨od, J, _⟩ := J.look
  obtain ⟨Pk, Z, p, _⟩ := kit_of I ry ty
  obtain ⟨m, hF⟩ := I.fr
  show wpAny (model X.prog X.w) X.A (richCompare .Eq (.ref a) u) (EP X pins σ Q) X.xe s
  refine PySem.W.cmp_K (op := .Eq) hr.units0 hF I.ok.mod.kin J (Z.ty _ _ I.kIn p) nf hs hf ?_
  refine wpAny_mono (run_eqO F hb ⟨hr, rfl⟩ I ry h) (fun v s' z => ?_) fun _ _ x => x
  obtain ⟨b, H', rfl, I', q⟩ := z
  exact ⟨.bl b, H', I', rfl, q⟩
/-! ### != : object's __ne__ asks __eq__ -/
theorem ifBound_ne {M : Model} {A : Around} {s : Shared} {K : PySem.W.Frag} {x C : Addr} {ox : Obj} {od : Option Obj} {args : List Value} {Q : Option Value → Shared → Prop} {E : Value → Shared → Prop} (Xk : K.In s.heap) (I : PySem.W.InstAt s.heap x ox C od) (hs : PySem.W.findIn K (.ref C) "__ne__" = some (some (.builtin "object.__ne__")))
    (h : wpAny M A (call (.builtin "object.__ne__") (.ref x :: args)) (fun v => Q (some v)) E s) : wpAny M A (callSpecialIfBound? (.ref x) "__ne__" args) Q E s := by
  simp only [callSpecialIfBound?, bindSpecialIfBound?]
  refine wpAny_holding (wpAny_bind (wpAny_bind (wpAny_bind (I.type.here ((PySem.W.looks_findIn Xk hs).here ?_)))))
  simp only [F.cmp_object.ne.bind]
  refine wpAny_bind (wpAny_askSetting (wpAny_ite ?_))
  have fin : wpAny M A (call (.builtin "object.__ne__") ([.ref x] ++ args) >>= fun v => pure (some v)) Q E s := wpAny_bind (wpAny_mono h (fun v s' h' => wpAny_pure h') fun _ _ h' => h')
  split
  · exact wpAny_bind (wpAny_pure (wpAny_pure fin))
  · exact wpAny_tryCatch (wpAny_bind (wpAny_pure (wpAny_pure fin)))
/-- the class has no own __ne__ -/
structure NeM (K : PySem.W.Frag) (C : Addr) : Prop where
  ne : PySem.W.findIn K (.ref C) "__ne__" = some (some (.builtin "object.__ne__"))
  ob : PySem.W.mroIn K C (.type "object") = some true
/-- x != y, x an instance of C -/
def rNeO (K : PySem.W.Frag) (C : Addr) (sp : Sp) : R2 := fun x y H Q => ∃ (a dx : Addr) (fs : List (Str × V)) (tb : Value), x = .ref a ∧ H a = some (.ins C dx fs) ∧ TyX K H y tb ∧ PySem.W.notFirst K C tb = true ∧ sp [x, y] H (fun v H' => ∃ b, v = .bl b ∧ Q (.bl (!b)) H') E0
theorem op_neO (M : EqM X.prog X.w X.K X.mg X.base n C sp) (N : NeM X.K C) (hr : Room (n + 2) X.A) : OpR X (compareOp .NotEq) (rNeO X.K C sp) := by
  obtain ⟨f, fd, ps, F1, hs, hf, hb⟩ := M.ex
  intro pins s σ H x y v u Q I rx ry hq
  obtain ⟨a, dx, fs, tb, rfl, ha, ty, nf, h⟩ := hq
  cases rx
  obtain ⟨mA, J, _⟩ := ins_get I.hok ha
  obtain ⟨od, J, _⟩ := J.look
  obtain ⟨Pk, Z, p, _⟩ := kit_of I ry ty
  have one : wpAny (model X.prog X.w) X.A (tryCompare (.ref a) "__ne__" u) (fun r s' => ∃ v, r = some v ∧ EP X pins σ Q v s') X.xe s := by
    unfold tryCompare
    refine wpAny_bind (ifBound_ne I.kIn J N.ne ?_)
    have sub : PySem.W.Looks (model X.prog X.w) s.heap (isInstance (.ref a) (.type "object")) true := J.type.andThen (PySem.W.looks_mroIn I.kIn N.ob)
    obtain ⟨hh, g, d, t, os⟩ := s
    refine wpAny_call (codeAny_call_builtin F.cmp_object.ne.plain F.cmpEntry_ne (@PySem.W.check_slot (model X.prog X.w) _ _ ⟨hh, g, d, t, os⟩ "object.__ne__" "object" "__ne__" (.ref a) [u] [] _ F.cmpKind_ne F.cmpSplit_ne sub (F.cmpArgs_ne (.ref a) u) ?_))
    unfold Builtin.«object.__ne__»
    refine wpAny_bind (wpAny_of_eq (a := ((Value.ref a : Value), [u])) (by first | rfl | (simp only [slotArgs]; rfl)) ?_)
    refine wpAny_bind (wpAny_cRoomFor ?_ ?_)
    · exact (hr.in1).units0
    · refine wpAny_bind (PySem.W.ifBound_K I.kIn J hs hf ?_)
      refine wpAny_mono (run_eqO F1 hb ⟨(hr.in1).mono (Nat.le_succ n), rfl⟩ I ry h) (fun v s' z => ?_) fun _ _ x => x
      obtain ⟨b, H', rfl, I', q⟩ := z
      show wpAny _ _ (truthy (.bool b) >>= fun r => ret (.bool (!r))) _ _ _
      refine wpAny_bind (wpAny_truthy_bool ?_)
      refine wpAny_pure ?_
      exact wpAny_pure ⟨_, rfl, .bl (!b), H', I', rfl, q⟩
  show wpAny (model X.prog X.w) X.A (richCompare .NotEq (.ref a) u) (EP X pins σ Q) X.xe s
  unfold richCompare
  simp only [oneThing_ref]
  refine wpAny_holding (wpAny_bind (wpAny_cRoomFor hr.units0 ?_))
  refine wpAny_bind (J.type.here (wpAny_bind ((Z.ty _ _ I.kIn p).here ?_)))
  split
  · rename_i q
    have e : PySem.W.subIn X.K tb (.ref C) = some false := by
      rcases Bool.or_eq_true_iff.mp nf with e | e
      · rw [beq_iff_eq.mp e] at q
        simp at q
      · exact beq_iff_eq.mp e
    refine wpAny_bind ((PySem.W.looks_subIn I.kIn e).here ?_)
    simp only [Bool.false_eq_true, if_false]
    refine wpAny_bind (wpAny_mono one (fun r s' z => ?_) fun _ _ e => e)
    obtain ⟨v, rfl, hq⟩ := z
    exact wpAny_pure hq
  · refine wpAny_bind (wpAny_pure ?_)
    simp only [Bool.false_eq_true, if_false]
    refine wpAny_bind (wpAny_mono one (fun r s' z => ?_) fun _ _ e => e)
    obtain ⟨v, rfl, hq⟩ := z
    exact wpAny_pure hq
end
end Fk
namespace Fk
open PySem PySem.Spec PyProof.Rows L2
/-- text.encode(), codes below 128 -/
def rEnc : V → List V → Hp → VK → Prop := fun x vs H Q => ∃ t : Str, x = .str t ∧ vs = [] ∧ PySem.W.KSb.Asc t ∧ t.length ≤ 16777216 ∧ ∀ c : Array UInt8, PySem.W.KBw.bInts c = PySem.W.KSb.codes t → Q (.byt c) H
theorem mt_encode {X : Cx} : MtR X "str.encode" rEnc := by
  intro pins s σ H x vs u us Q I rx r h
  obtain ⟨t, rfl, rfl, ha, hz, q⟩ := h
  obtain ⟨k, rfl⟩ := rx
  cases r
  exact PySem.W.KSb.encode_K ha hz fun c t' k e _ _ => ⟨.byt c, H, I.tok _, ⟨_, rfl⟩, q c e⟩
end Fk
/-! Mv0: values without a heap, an abstract heap of the things that change, results; how they stand for HandS' values -/
namespace Mv
open PySem PySem.Spec PyProof.Rows L2 Fk
/-- a value; lists and instances by value are never changed; ref n: the n-th thing that changes; ptp: a tuple that is known to have no dict of its own -/
inductive MV where
  | non | bl (b : Bool) | int (i : Int) | str (x : Str) | byt (b : Array UInt8)
  | tup (xs : List MV) | ptp (xs : List MV) | lst (xs : List MV) | obj (C : Str) (fs : List (Str × MV))
  | ref (n : Nat) | ty (n : String) | glo (x : Str)
instance : Inhabited MV := ⟨.non⟩
/-- a thing that changes; lkd, lkl: a dict, a list that is walked -/
inductive MO where
  | lst (xs : List MV) | dct (kvs : List (Key × MV)) | lkd (kvs : List (Key × MV)) | lkl (xs : List MV) | ins (C : Str) (fs : List (Str × MV))
instance : Inhabited MO := ⟨.lst []⟩
abbrev AH := List MO
abbrev ME := List (Option MV)
/-- how an expression ends -/
inductive Rs (α : Type) where
  | ok (a : α) (A : AH) | err (c : Str) (fs : List (Str × MV)) (A : AH) | bad
def Rs.bind {α β : Type} : Rs α → (α → AH → Rs β) → Rs β
  | .ok a A, k => k a A
  | .err c fs A, _ => .err c fs A
  | .bad, _ => .bad
/-- how a statement ends -/
inductive Fs where
  | nx (ρ : ME) (A : AH) | rt (v : MV) (A : AH) | bk (ρ : ME) (A : AH) | ct (ρ : ME) (A : AH) | err (c : Str) (fs : List (Str × MV)) (ρ : ME) (A : AH) | bad
abbrev FE := ME → AH → Rs MV
abbrev FB := ME → AH → Rs Bool
abbrev FL := ME → AH → Rs (List MV)
abbrev FS := ME → AH → Fs
/-! ### the relation -/
abbrev H0 : Hp := fun _ => none
/-- the tracked addresses; those that only one knows -/
structure Io where
  tr : List Addr
  pv : List Addr
def Io.out (ι : Io) (a : Addr) : Prop := a ∉ ι.tr ∧ a ∉ ι.pv
mutual
inductive RV (K : PySem.W.Frag) (ι : Io) (H : Hp) : MV → V → Prop
  | non : RV K ι H .non .non
  | bl (b : Bool) : RV K ι H (.bl b) (.bl b)
  | int (i : Int) : RV K ι H (.int i) (.int i)
  | str (x : Str) : RV K ι H (.str x) (.str x)
  | byt (b : Array UInt8) : RV K ι H (.byt b) (.byt b)
  | ty (n : String) : RV K ι H (.ty n) (.ty n)
  | glo (x : Str) : RV K ι H (.glo x) (.ref (He.ga K x))
  | ref {n : Nat} {a : Addr} : ι.tr[n]? = some a → RV K ι H (.ref n) (.ref a)
  | tup {a : Addr} {vs : List MV} {xs : List V} : ((ι.out a ∧ Rd H a (.tup xs)) ∨ SqT K H0 a xs) → RVs K ι H vs xs → RV K ι H (.tup vs) (.ref a)
  | ptp {a : Addr} {ob : Obj} {vs : List MV} {xs : List V} : ι.out a → H a = some (.frz ob (.tup xs)) → ob.dict = none → RVs K ι H vs xs → RV K ι H (.ptp vs) (.ref a)
  | lst {a : Addr} {vs : List MV} {xs : List V} : (ι.out a ∧ Rd H a (.lst xs)) → RVs K ι H vs xs → RV K ι H (.lst vs) (.ref a)
  | obj {a dx : Addr} {C : Str} {fs : List (Str × MV)} {ps : List (Str × V)} : ι.out a → H a = some (.ins (He.ga K C) dx ps) → RFs K ι H fs ps → RV K ι H (.obj C fs) (.ref a)
inductive RVs (K : PySem.W.Frag) (ι : Io) (H : Hp) : List MV → List V → Prop
  | nil : RVs K ι H [] []
  | cons {v : MV} {vs : List MV} {x : V} {xs : List V} : RV K ι H v x → RVs K ι H vs xs → RVs K ι H (v :: vs) (x :: xs)
inductive RFs (K : PySem.W.Frag) (ι : Io) (H : Hp) : List (Str × MV) → List (Str × V) → Prop
  | nil : RFs K ι H [] []
  | cons {k : Str} {v : MV} {vs : List (Str × MV)} {x : V} {xs : List (Str × V)} : RV K ι H v x → RFs K ι H vs xs → RFs K ι H ((k, v) :: vs) ((k, x) :: xs)
end
inductive RKs (K : PySem.W.Frag) (ι : Io) (H : Hp) : List (Key × MV) → List (Key × V) → Prop
  | nil : RKs K ι H [] []
  | cons {k : Key} {v : MV} {vs : List (Key × MV)} {x : V} {xs : List (Key × V)} : RV K ι H v x → RKs K ι H vs xs → RKs K ι H ((k, v) :: vs) ((k, x) :: xs)
/-- what was known is known still -/
structure Le (ι : Io) (H : Hp) (ι' : Io) (H' : Hp) : Prop where
  pre : ι.tr <+: ι'.tr
  keep : ∀ p o, ι.out p → H p = some o → ι'.out p ∧ H' p = some o
/-- what a run may do: what is untracked stays, what comes to the tracked was free, locks stay -/
structure Ext (ι : Io) (H : Hp) (ι' : Io) (H' : Hp) : Prop where
  pre : ι.tr <+: ι'.tr
  pv : ι'.pv = ι.pv
  new : ∀ p ∈ ι'.tr, p ∉ ι.tr → H p = none
  keep : ∀ p o, p ∉ ι.tr → H p = some o → H' p = some o
  frz : ∀ p o u, H p = some (.frz o u) → H' p = some (.frz o u)
theorem Ext.refl (ι : Io) (H : Hp) : Ext ι H ι H := ⟨List.prefix_refl _, rfl, fun _ h n => absurd h n, fun _ _ _ h => h, fun _ _ _ h => h⟩
theorem Ext.out {ι ι' : Io} {H H' : Hp} (e : Ext ι H ι' H') {p : Addr} {o : HO} (n : p ∉ ι.tr) (h : H p = some o) : p ∉ ι'.tr := fun hp => by
  rw [e.new p hp n] at h
  cases h
theorem Ext.trans {ι ι' ι'' : Io} {H H' H'' : Hp} (a : Ext ι H ι' H') (b : Ext ι' H' ι'' H'') : Ext ι H ι'' H'' := by
  refine ⟨a.pre.trans b.pre, b.pv.trans a.pv, fun p hp n => ?_, fun p o n h => b.keep p o (a.out n h) (a.keep p o n h), fun p o u h => b.frz p o u (a.frz p o u h)⟩
  by_cases hq : p ∈ ι'.tr
  · exact a.new p hq n
  · cases e : H p with
    | none => rfl
    | some o =>
      have := b.new p hp hq
      rw [a.keep p o n e] at this
      cases this
theorem Ext.le {ι ι' : Io} {H H' : Hp} (e : Ext ι H ι' H') : Le ι H ι' H' := ⟨e.pre, fun p o n h => ⟨⟨e.out n.1 h, by rw [e.pv]; exact n.2⟩, e.keep p o n.1 h⟩⟩
theorem Le.refl (ι : Io) (H : Hp) : Le ι H ι H := (Ext.refl ι H).le
theorem Le.trans {ι ι' ι'' : Io} {H H' H'' : Hp} (a : Le ι H ι' H') (b : Le ι' H' ι'' H'') : Le ι H ι'' H'' := ⟨a.pre.trans b.pre, fun p o n h => b.keep p o (a.keep p o n h).1 (a.keep p o n h).2⟩
theorem pre_get {l l' : List Addr} (e : l <+: l') {n : Nat} {a : Addr} (h : l[n]? = some a) : l'[n]? = some a := by
  obtain ⟨t, rfl⟩ := e
  rw [List.getElem?_append_left]
  · exact h
  · exact (List.getElem?_eq_some_iff.mp h).1
theorem Ext.get {ι ι' : Io} {H H' : Hp} (e : Ext ι H ι' H') {n : Nat} {a : Addr} (h : ι.tr[n]? = some a) : ι'.tr[n]? = some a := pre_get e.pre h
theorem Le.rd {ι ι' : Io} {H H' : Hp} (e : Le ι H ι' H') {a : Addr} {u : HO} (n : ι.out a) (h : Rd H a u) : ι'.out a ∧ Rd H' a u := by
  rcases h with h | ⟨o, h⟩
  · exact ⟨(e.keep _ _ n h).1, .inl (e.keep _ _ n h).2⟩
  · exact ⟨(e.keep _ _ n h).1, .inr ⟨o, (e.keep _ _ n h).2⟩⟩
section
variable {K : PySem.W.Frag} {ι ι' : Io} {H H' : Hp}
mutual
theorem RV.le (e : Le ι H ι' H') : ∀ {v : MV} {x : V}, RV K ι H v x → RV K ι' H' v x
  | _, _, .non => .non
  | _, _, .bl b => .bl b
  | _, _, .int b => .int b
  | _, _, .str b => .str b
  | _, _, .byt b => .byt b
  | _, _, .ty b => .ty b
  | _, _, .glo b => .glo b
  | _, _, .ref h => .ref (pre_get e.pre h)
  | _, _, .tup h r => .tup (h.imp (fun h => e.rd h.1 h.2) id) (RVs.le e r)
  | _, _, .ptp n h d r => .ptp (e.keep _ _ n h).1 (e.keep _ _ n h).2 d (RVs.le e r)
  | _, _, .lst h r => .lst (e.rd h.1 h.2) (RVs.le e r)
  | _, _, .obj n h r => .obj (e.keep _ _ n h).1 (e.keep _ _ n h).2 (RFs.le e r)
theorem RVs.le (e : Le ι H ι' H') : ∀ {v : List MV} {x : List V}, RVs K ι H v x → RVs K ι' H' v x
  | _, _, .nil => .nil
  | _, _, .cons a b => .cons (RV.le e a) (RVs.le e b)
theorem RFs.le (e : Le ι H ι' H') : ∀ {v : List (Str × MV)} {x : List (Str × V)}, RFs K ι H v x → RFs K ι' H' v x
  | _, _, .nil => .nil
  | _, _, .cons a b => .cons (RV.le e a) (RFs.le e b)
end
theorem RKs.le (e : Le ι H ι' H') : ∀ {v : List (Key × MV)} {x : List (Key × V)}, RKs K ι H v x → RKs K ι' H' v x
  | _, _, .nil => .nil
  | _, _, .cons a b => .cons (RV.le e a) (RKs.le e b)
theorem RV.ext (e : Ext ι H ι' H') {v : MV} {x : V} (h : RV K ι H v x) : RV K ι' H' v x := h.le e.le
theorem RVs.ext (e : Ext ι H ι' H') {v : List MV} {x : List V} (h : RVs K ι H v x) : RVs K ι' H' v x := h.le e.le
theorem RFs.ext (e : Ext ι H ι' H') {v : List (Str × MV)} {x : List (Str × V)} (h : RFs K ι H v x) : RFs K ι' H' v x := h.le e.le
theorem RKs.ext (e : Ext ι H ι' H') {v : List (Key × MV)} {x : List (Key × V)} (h : RKs K ι H v x) : RKs K ι' H' v x := h.le e.le
theorem RVs.length : ∀ {v : List MV} {x : List V}, RVs K ι H v x → v.length = x.length
  | _, _, .nil => rfl
  | _, _, .cons _ b => congrArg (· + 1) b.length
theorem RVs.get : ∀ {v : List MV} {x : List V} {i : Nat} {a : MV}, RVs K ι H v x → v[i]? = some a → ∃ b, x[i]? = some b ∧ RV K ι H a b
  | _, _, _, _, .nil, e => by simp at e
  | _, _, 0, _, .cons r _, e => by simp at e; subst e; exact ⟨_, rfl, r⟩
  | _, _, i + 1, a, .cons _ t, e => by
    obtain ⟨b, h1, h2⟩ := RVs.get (i := i) (a := a) t (by simpa using e)
    exact ⟨b, by simpa using h1, h2⟩
theorem RVs.getR : ∀ {v : List MV} {x : List V} {i : Nat} {b : V}, RVs K ι H v x → x[i]? = some b → ∃ a, v[i]? = some a ∧ RV K ι H a b
  | _, _, _, _, .nil, e => by simp at e
  | _, _, 0, _, .cons r _, e => by simp at e; subst e; exact ⟨_, rfl, r⟩
  | _, _, i + 1, a, .cons _ t, e => by
    obtain ⟨b, h1, h2⟩ := RVs.getR (i := i) (b := a) t (by simpa using e)
    exact ⟨b, by simpa using h1, h2⟩
theorem RVs.append : ∀ {v w : List MV} {x y : List V}, RVs K ι H v x → RVs K ι H w y → RVs K ι H (v ++ w) (x ++ y)
  | _, _, _, _, .nil, q => q
  | _, _, _, _, .cons a b, q => .cons a (b.append q)
theorem RVs.take : ∀ {v : List MV} {x : List V} (n : Nat), RVs K ι H v x → RVs K ι H (v.take n) (x.take n)
  | _, _, 0, _ => .nil
  | _, _, _ + 1, .nil => .nil
  | _, _, n + 1, .cons r t => .cons r (RVs.take n t)
theorem RVs.drop : ∀ {v : List MV} {x : List V} (n : Nat), RVs K ι H v x → RVs K ι H (v.drop n) (x.drop n)
  | _, _, 0, r => r
  | _, _, _ + 1, .nil => .nil
  | _, _, n + 1, .cons _ t => RVs.drop n t
theorem RVs.set {a : MV} {b : V} (r : RV K ι H a b) : ∀ {v : List MV} {x : List V} (i : Nat), RVs K ι H v x → RVs K ι H (v.set i a) (x.set i b)
  | _, _, _, .nil => .nil
  | _, _, 0, .cons _ t => .cons r t
  | _, _, i + 1, .cons q t => .cons q (RVs.set r i t)
theorem RVs.one {v : MV} {x : V} (h : RV K ι H v x) : RVs K ι H [v] [x] := .cons h .nil
theorem RVs.reverse : ∀ {v : List MV} {x : List V}, RVs K ι H v x → RVs K ι H v.reverse x.reverse
  | _, _, .nil => .nil
  | _, _, .cons a b => by
    rw [List.reverse_cons, List.reverse_cons]
    exact RVs.append (RVs.reverse b) (.one a)
theorem RFs.get : ∀ {v : List (Str × MV)} {x : List (Str × V)} {f : Str} {a : MV}, RFs K ι H v x → v.lookup f = some a → ∃ b, x.lookup f = some b ∧ RV K ι H a b
  | _, _, _, _, .nil, e => by cases e
  | _, _, f, a, .cons (k := k) (v := v) (x := x) r t, e => by
    rw [List.lookup_cons] at e ⊢
    cases h : f == k with
    | true => rw [h] at e; cases e; exact ⟨_, rfl, r⟩
    | false => rw [h] at e; exact RFs.get t e
theorem RFs.getN : ∀ {v : List (Str × MV)} {x : List (Str × V)} {f : Str}, RFs K ι H v x → v.lookup f = none → x.lookup f = none
  | _, _, _, .nil, e => rfl
  | _, _, f, .cons (k := k) (v := v) (x := x) r t, e => by
    rw [List.lookup_cons] at e ⊢
    cases h : f == k with
    | true => rw [h] at e; cases e
    | false => rw [h] at e; exact RFs.getN t e
theorem RFs.length : ∀ {v : List (Str × MV)} {x : List (Str × V)}, RFs K ι H v x → v.length = x.length
  | _, _, .nil => rfl
  | _, _, .cons _ b => congrArg (· + 1) b.length
theorem RKs.length : ∀ {v : List (Key × MV)} {x : List (Key × V)}, RKs K ι H v x → v.length = x.length
  | _, _, .nil => rfl
  | _, _, .cons _ b => congrArg (· + 1) b.length
end
/-! ### things that change -/
inductive OkO (K : PySem.W.Frag) (ι : Io) (H : Hp) : MO → Addr → Prop
  | lst {a : Addr} {vs : List MV} {xs : List V} : H a = some (.lst xs) → RVs K ι H vs xs → OkO K ι H (.lst vs) a
  | dct {a : Addr} {vs : List (Key × MV)} {xs : List (Key × V)} : H a = some (.dK xs) → RKs K ι H vs xs → OkO K ι H (.dct vs) a
  | lkd {a : Addr} {o : Obj} {vs : List (Key × MV)} {xs : List (Key × V)} : H a = some (.frz o (.dK xs)) → RKs K ι H vs xs → OkO K ι H (.lkd vs) a
  | lkl {a : Addr} {o : Obj} {vs : List MV} {xs : List V} : H a = some (.frz o (.lst xs)) → RVs K ι H vs xs → OkO K ι H (.lkl vs) a
  | ins {a dx : Addr} {C : Str} {vs : List (Str × MV)} {xs : List (Str × V)} : H a = some (.ins (He.ga K C) dx xs) → RFs K ι H vs xs → OkO K ι H (.ins C vs) a
theorem OkO.some {K : PySem.W.Frag} {ι : Io} {H : Hp} {o : MO} {a : Addr} (h : OkO K ι H o a) : ∃ u, H a = some u := by
  cases h with
  | lst h _ => exact ⟨_, h⟩
  | dct h _ => exact ⟨_, h⟩
  | lkd h _ => exact ⟨_, h⟩
  | lkl h _ => exact ⟨_, h⟩
  | ins h _ => exact ⟨_, h⟩
/-- .. when its own place stays and all outside too -/
theorem OkO.le {K : PySem.W.Frag} {ι ι' : Io} {H H' : Hp} {o : MO} {a : Addr} (e : Le ι H ι' H') (s : H' a = H a) (h : OkO K ι H o a) : OkO K ι' H' o a := by
  cases h with
  | lst h r => exact .lst (s.trans h) (r.le e)
  | dct h r => exact .dct (s.trans h) (r.le e)
  | lkd h r => exact .lkd (s.trans h) (r.le e)
  | lkl h r => exact .lkl (s.trans h) (r.le e)
  | ins h r => exact .ins (s.trans h) (r.le e)
structure Sim (K : PySem.W.Frag) (ι : Io) (A : AH) (H : Hp) : Prop where
  nd : ι.tr.Nodup
  len : ι.tr.length = A.length
  ok : ∀ (n : Nat) (a : Addr) (o : MO), ι.tr[n]? = some a → A[n]? = some o → OkO K ι H o a
  pvs : ∀ p ∈ ι.pv, ∃ u, H p = some u
section
variable {K : PySem.W.Frag} {ι ι' : Io} {tr pv : List Addr} {H H' : Hp} {A A' : AH}
theorem Sim.at (S : Sim K ι A H) {n : Nat} {o : MO} (h : A[n]? = some o) : ∃ a, ι.tr[n]? = some a ∧ OkO K ι H o a := by
  have hl := (List.getElem?_eq_some_iff.mp h).1
  rw [← S.len] at hl
  have e : ι.tr[n]? = some ι.tr[n] := List.getElem?_eq_getElem hl
  exact ⟨ι.tr[n], e, S.ok n _ _ e h⟩
/-- the thing that a reference leads to -/
theorem Sim.ref (S : Sim K ι A H) {n : Nat} {o : MO} {u : V} (r : RV K ι H (.ref n) u) (h : A[n]? = some o) : ∃ a, u = .ref a ∧ ι.tr[n]? = some a ∧ OkO K ι H o a := by
  cases r with
  | ref e => exact ⟨_, rfl, e, S.ok n _ _ e h⟩
theorem Sim.inn (S : Sim K ι A H) {p : Addr} (h : p ∈ ι.tr) : ∃ u, H p = some u := by
  obtain ⟨n, hn, e⟩ := List.mem_iff_getElem.mp h
  have e1 : ι.tr[n]? = some p := by rw [List.getElem?_eq_getElem hn, e]
  have hl : n < A.length := by rw [← S.len]; exact hn
  exact (S.ok n p _ e1 (List.getElem?_eq_getElem hl)).some
theorem Sim.out (S : Sim K ι A H) {p : Addr} (h : H p = none) : p ∉ ι.tr := fun hp => by
  obtain ⟨u, e⟩ := S.inn hp
  rw [h] at e
  cases e
theorem Sim.outA (S : Sim K ι A H) {p : Addr} (h : H p = none) : ι.out p := ⟨S.out h, fun hp => by
  obtain ⟨u, e⟩ := S.pvs p hp
  rw [h] at e
  cases e⟩
theorem Sim.le (S : Sim K ι A H) (e : Le ι H ι' H') (ht : ι'.tr = ι.tr) (s : ∀ p ∈ ι.tr, H' p = H p) (hp : ∀ p ∈ ι'.pv, ∃ u, H' p = some u) : Sim K ι' A H' := ⟨by rw [ht]; exact S.nd, by rw [ht]; exact S.len, fun n a o h1 h2 => by
  rw [ht] at h1
  exact (S.ok n a o h1 h2).le e (s a (List.mem_of_getElem? h1)), hp⟩
theorem upd_some {p q : Addr} {o : HO} (h : ∃ u, H p = some u) : ∃ u, upd H q o p = some u := by
  by_cases e : p = q
  · subst e
    exact ⟨_, upd_same⟩
  · rw [upd_ne e]
    exact h
/-- a new object outside -/
theorem Ext.new1 {p : Addr} {o : HO} (h : H p = none) : Ext ι H ι (upd H p o) := ⟨List.prefix_refl _, rfl, fun _ h n => absurd h n, fun q u n e => by
  rw [upd_ne (ne_of_none e h)]
  exact e, fun q ob u e => by
  rw [upd_ne (ne_of_none e h)]
  exact e⟩
theorem Sim.new1 (S : Sim K ι A H) {p : Addr} {o : HO} (h : H p = none) : Sim K ι A (upd H p o) := S.le (Ext.new1 h).le rfl (fun q hq => upd_ne fun z => by
  subst z
  exact S.out h hq) fun p hp => upd_some (S.pvs p hp)
/-- hide what is new, show it again -/
theorem Le.hide {a : Addr} (h : H a = none) : Le ⟨tr, pv⟩ H ⟨tr, a :: pv⟩ H := ⟨List.prefix_refl _, fun p o n e => ⟨⟨n.1, fun q => by
  rcases List.mem_cons.mp q with q | q
  · subst q
    rw [h] at e
    cases e
  · exact n.2 q⟩, e⟩⟩
theorem Le.show {a : Addr} : Le ⟨tr, a :: pv⟩ H ⟨tr, pv⟩ H := ⟨List.prefix_refl _, fun p o n e => ⟨⟨n.1, fun q => n.2 (List.mem_cons_of_mem _ q)⟩, e⟩⟩
theorem Sim.hide {a : Addr} {o : HO} (S : Sim K ⟨tr, pv⟩ A H) (h : H a = none) : Sim K ⟨tr, a :: pv⟩ A (upd H a o) := S.le ((Le.hide h).trans ⟨List.prefix_refl _, fun p u n e => ⟨n, by
  rw [upd_ne (ne_of_none e h)]
  exact e⟩⟩) rfl (fun q hq => upd_ne fun z => by
  subst z
  exact S.out h hq) fun p hp => by
  rcases List.mem_cons.mp hp with q | q
  · subst q
    exact ⟨_, upd_same⟩
  · exact upd_some (S.pvs p q)
theorem Sim.show {a : Addr} (S : Sim K ⟨tr, a :: pv⟩ A H) : Sim K ⟨tr, pv⟩ A H := S.le Le.show rfl (fun _ _ => rfl) fun p hp => S.pvs p (List.mem_cons_of_mem _ hp)
/-- a hidden thing changes -/
theorem Le.priv {a : Addr} {o : HO} (h : a ∈ ι.pv) : Le ι H ι (upd H a o) := ⟨List.prefix_refl _, fun p u n e => ⟨n, by
  rw [upd_ne (fun z => n.2 (by rw [z]; exact h))]
  exact e⟩⟩
theorem Sim.priv {a : Addr} {o : HO} (S : Sim K ι A H) (h : a ∈ ι.pv) (n : a ∉ ι.tr) : Sim K ι A (upd H a o) := S.le (Le.priv h) rfl (fun p hp => upd_ne fun z => n (by rw [← z]; exact hp)) fun p hp => upd_some (S.pvs p hp)
/-- what was free at the start may change -/
theorem Ext.mutNew {p : Addr} {o : HO} (e : Ext ι H ι' H') (h : H p = none) : Ext ι H ι' (upd H' p o) := ⟨e.pre, e.pv, e.new, fun q u n h' => by
  rw [upd_ne (ne_of_none h' h)]
  exact e.keep q u n h', fun q ob u h' => by
  rw [upd_ne (ne_of_none h' h)]
  exact e.frz q ob u h'⟩
/-- a hidden thing becomes tracked -/
theorem Le.adopt {a : Addr} : Le ⟨tr, a :: pv⟩ H ⟨tr ++ [a], pv⟩ H := ⟨List.prefix_append _ _, fun p o n e => ⟨⟨fun q => by
  rcases List.mem_append.mp q with q | q
  · exact n.1 q
  · exact n.2 (by rw [List.mem_singleton.mp q]; exact List.mem_cons_self ..), fun q => n.2 (List.mem_cons_of_mem _ q)⟩, e⟩⟩
theorem Sim.adopt {a : Addr} {m : MO} (S : Sim K ⟨tr, a :: pv⟩ A H) (n : a ∉ tr) (q : OkO K ⟨tr ++ [a], pv⟩ H m a) : Sim K ⟨tr ++ [a], pv⟩ (A ++ [m]) H := by
  have sl : tr.length = A.length := S.len
  refine ⟨?_, by simp [sl], fun i b u h1 h2 => ?_, fun p hp => S.pvs p (List.mem_cons_of_mem _ hp)⟩
  · show (tr ++ [a]).Nodup
    rw [List.nodup_append]
    exact ⟨S.nd, by simp, fun x hx b hb e => by
      rw [List.mem_singleton.mp hb] at e
      rw [e] at hx
      exact n hx⟩
  · have h1 : (tr ++ [a])[i]? = some b := h1
    by_cases hn : i < A.length
    · rw [List.getElem?_append_left hn] at h2
      rw [List.getElem?_append_left (by rw [sl]; exact hn)] at h1
      exact (S.ok i b u h1 h2).le Le.adopt rfl
    · have hn2 : i < (A ++ [m]).length := (List.getElem?_eq_some_iff.mp h2).1
      have en : i = A.length := by simp at hn2; omega
      subst en
      rw [List.getElem?_append_right (Nat.le_refl _), Nat.sub_self] at h2
      rw [← sl, List.getElem?_append_right (Nat.le_refl _), Nat.sub_self] at h1
      simp at h1 h2
      subst h1 h2
      exact q
theorem Ext.adopt {a : Addr} (e : Ext ι H ⟨tr, pv⟩ H') (h : H a = none) : Ext ι H ⟨tr ++ [a], pv⟩ H' := ⟨e.pre.trans (List.prefix_append _ _), e.pv, fun p hp n => by
  rcases List.mem_append.mp hp with q | q
  · exact e.new p q n
  · rw [List.mem_singleton.mp q]
    exact h, e.keep, e.frz⟩
/-- a new object comes in -/
theorem Ext.push {p : Addr} {o : HO} (h : H p = none) : Ext ι H ⟨ι.tr ++ [p], ι.pv⟩ (upd H p o) := (Ext.new1 (ι := ι) h).adopt h
theorem Sim.push (S : Sim K ι A H) {p : Addr} {o : HO} {m : MO} (h : H p = none) (q : OkO K ⟨ι.tr ++ [p], ι.pv⟩ (upd H p o) m p) : Sim K ⟨ι.tr ++ [p], ι.pv⟩ (A ++ [m]) (upd H p o) := by
  have s1 : Sim K ⟨ι.tr, p :: ι.pv⟩ A (upd H p o) := Sim.hide S h
  exact s1.adopt (S.out h) q
/-- a thing of ι changes -/
def NoFrz (H : Hp) (p : Addr) : Prop := ∀ o u, H p ≠ some (.frz o u)
theorem Ext.mut {p : Addr} {o : HO} (h : p ∈ ι.tr) (nf : NoFrz H p) : Ext ι H ι (upd H p o) := ⟨List.prefix_refl _, rfl, fun _ h n => absurd h n, fun q u n e => by
  have z : q ≠ p := fun z => n (by rw [z]; exact h)
  rw [upd_ne z]
  exact e, fun q ob u e => by
  have z : q ≠ p := fun z => nf ob u (by rw [← z]; exact e)
  rw [upd_ne z]
  exact e⟩
theorem Le.mut {p : Addr} {o : HO} (h : p ∈ ι.tr) : Le ι H ι (upd H p o) := ⟨List.prefix_refl _, fun q u n e => ⟨n, by
  have z : q ≠ p := fun z => n.1 (by rw [z]; exact h)
  rw [upd_ne z]
  exact e⟩⟩
theorem Sim.put (S : Sim K ι A H) {n : Nat} {a : Addr} {o : HO} {m : MO} (h : ι.tr[n]? = some a) (q : OkO K ι (upd H a o) m a) : Sim K ι (A.set n m) (upd H a o) := by
  have hm : a ∈ ι.tr := List.mem_of_getElem? h
  refine ⟨S.nd, by rw [List.length_set]; exact S.len, fun k b u h1 h2 => ?_, fun p hp => upd_some (S.pvs p hp)⟩
  by_cases hk : k = n
  · subst hk
    have e : A.length = ι.tr.length := S.len.symm
    have hl := (List.getElem?_eq_some_iff.mp h).1
    rw [List.getElem?_set_self (by omega)] at h2
    rw [h] at h1
    cases h1
    cases h2
    exact q
  · rw [List.getElem?_set_ne (Ne.symm hk)] at h2
    refine (S.ok k b u h1 h2).le (Le.mut hm) (upd_ne ?_)
    intro z
    subst z
    have hl := (List.getElem?_eq_some_iff.mp h1).1
    have hl' := (List.getElem?_eq_some_iff.mp h).1
    exact hk ((List.getElem?_inj hl S.nd).mp (h1.trans h.symm))
end
/-! ### slots -/
/-- what is wanted of an error; what holds all the while (of the error that is handled) -/
structure Wi where
  w : WX
  z : Io → Hp → Prop
  zx : ∀ {ι H ι' H'}, Le ι H ι' H' → z ι H → z ι' H'
  sl : Option (Nat × Addr)
def Wi.of (w : WX) : Wi := ⟨w, fun _ _ => True, fun _ _ => trivial, none⟩
structure REnv (W : Wi) (K : PySem.W.Frag) (ι : Io) (H : Hp) (ρ : ME) (σ : L2.St) : Prop where
  len : ρ.length = σ.length
  get : ∀ (i : Nat) (v : MV), ρ[i]? = some (some v) → ∃ u, σ[i]? = some (some u) ∧ RV K ι H v u
  z : W.z ι H
  sl : ∀ i a, W.sl = some (i, a) → ρ[i]? = some none → σ[i]? = some (some (.ref a))
section
variable {W : Wi} {K : PySem.W.Frag} {ι ι' : Io} {H H' : Hp} {ρ : ME} {σ : L2.St}
theorem REnv.le (e : Le ι H ι' H') (r : REnv W K ι H ρ σ) : REnv W K ι' H' ρ σ := ⟨r.len, fun i v h => by
  obtain ⟨u, h1, h2⟩ := r.get i v h
  exact ⟨u, h1, h2.le e⟩, W.zx e r.z, r.sl⟩
theorem REnv.ext (e : Ext ι H ι' H') (r : REnv W K ι H ρ σ) : REnv W K ι' H' ρ σ := r.le e.le
theorem REnv.set (r : REnv W K ι H ρ σ) (i : Nat) {v : MV} {u : V} (h : RV K ι H v u) : REnv W K ι H (ρ.set i (some v)) (σ.set i (some u)) := by
  refine ⟨by rw [List.length_set, List.length_set]; exact r.len, fun j w e => ?_, r.z, fun j a q e => ?_⟩
  · by_cases hj : i = j
    · subst hj
      have hl := (List.getElem?_eq_some_iff.mp e).1
      rw [List.length_set] at hl
      rw [List.getElem?_set_self hl] at e
      cases e
      exact ⟨u, List.getElem?_set_self (by rw [← r.len]; exact hl), h⟩
    · rw [List.getElem?_set_ne hj] at e ⊢
      exact r.get j w e
  · by_cases hj : i = j
    · subst hj
      have hl := (List.getElem?_eq_some_iff.mp e).1
      rw [List.length_set] at hl
      rw [List.getElem?_set_self hl] at e
      cases e
    · rw [List.getElem?_set_ne hj] at e ⊢
      exact r.sl j a q e
theorem REnv.unset {w : WX} (r : REnv (Wi.of w) K ι H ρ σ) (i : Nat) (x : Option V) : REnv (Wi.of w) K ι H (ρ.set i none) (σ.set i x) := by
  refine ⟨by rw [List.length_set, List.length_set]; exact r.len, fun j w e => ?_, r.z, fun _ _ q => nomatch q⟩
  by_cases hj : i = j
  · subst hj
    have hl := (List.getElem?_eq_some_iff.mp e).1
    rw [List.length_set] at hl
    rw [List.getElem?_set_self hl] at e
    cases e
  · rw [List.getElem?_set_ne hj] at e ⊢
    exact r.get j w e
theorem REnv.w0 {w : WX} (r : REnv W K ι H ρ σ) : REnv (Wi.of w) K ι H ρ σ := ⟨r.len, r.get, trivial, fun _ _ q => nomatch q⟩
end
/-! ### what a result wants -/
/-- a raised error of the program's own: its class, its fields -/
structure ErrR (K : PySem.W.Frag) (ι : Io) (H : Hp) (fs : List (Str × MV)) (d : Addr) : Prop where
  ex : ∃ ps, H d = some (.xd ps) ∧ RFs K ι H fs ps
  out : ι.out d
section
variable {α β : Type}
/-- a relation: the heap ahead, the tracked things and the heap behind, the plain result, the result -/
abbrev Rel (α β : Type) := Io → Hp → Io → Hp → AH → α → β → Prop
class Mono (R : Rel α β) : Prop where
  mono : ∀ {ι H ι' H' ι2 H2 A v u}, Ext ι H ι' H' → Ext ι' H' ι2 H2 → R ι' H' ι2 H2 A v u → R ι H ι2 H2 A v u
instance {R : Io → Hp → AH → α → β → Prop} : Mono (fun (_ : Io) (_ : Hp) => R) := ⟨fun _ _ h => h⟩
def RP (K : PySem.W.Frag) (W : Wi) (σ : L2.St) (R : Rel α β) (ι : Io) (H : Hp) (r : Rs α) (Q : β → Hp → Prop) : Prop :=
  match r with
  | .ok v A' => ∀ ι' H' u, Ext ι H ι' H' → R ι H ι' H' A' v u → Q u H'
  | .err c fs A' => ∀ ι' H' d, Ext ι H ι' H' → Sim K ι' A' H' → ErrR K ι' H' fs d → W.w (.ref (He.ga K c)) (some d) σ H'
  | .bad => False
theorem RP.ext {K : PySem.W.Frag} {W : Wi} {σ : L2.St} {R : Rel α β} [Mono R] {ι ι' : Io} {H H' : Hp} {r : Rs α} {Q : β → Hp → Prop} (e : Ext ι H ι' H') (h : RP K W σ R ι H r Q) : RP K W σ R ι' H' r Q := by
  cases r with
  | ok v A => exact fun ι2 H2 u e2 r => h ι2 H2 u (e.trans e2) (Mono.mono e e2 r)
  | err c fs A => exact fun ι2 H2 u e2 s r => h ι2 H2 u (e.trans e2) s r
  | bad => exact h
/-- a reading by a plain function -/
def tG (K : PySem.W.Frag) (W : Wi) (R : Rel α β) (f : ME → AH → Rs α) : L2.St → Hp → (β → Hp → Prop) → Prop := fun σ H Q => ∃ ι A ρ, Sim K ι A H ∧ REnv W K ι H ρ σ ∧ RP K W σ R ι H (f ρ A) Q
end
/-- the readings of expressions, tests, rows of values -/
abbrev rV (K : PySem.W.Frag) : Rel MV V := fun _ _ ι' H' A' v u => Sim K ι' A' H' ∧ RV K ι' H' v u
abbrev rB (K : PySem.W.Frag) : Rel Bool Bool := fun _ _ ι' H' A' a b => Sim K ι' A' H' ∧ a = b
abbrev rA (K : PySem.W.Frag) : Rel (List MV) (List V) := fun _ _ ι' H' A' v u => Sim K ι' A' H' ∧ RVs K ι' H' v u
abbrev tM (K : PySem.W.Frag) (W : Wi) (f : FE) : TE := tG K W (rV K) f
abbrev tMB (K : PySem.W.Frag) (W : Wi) (f : FB) : TT := tG K W (rB K) f
abbrev tMA (K : PySem.W.Frag) (W : Wi) (f : FL) : TA := tG K W (rA K) f
/-- a fresh list that nothing else knows -/
structure FL1 (K : PySem.W.Frag) (H : Hp) (ι' : Io) (H' : Hp) (A' : AH) (vs : List MV) (a : Addr) : Prop where
  free : H a = none
  nt : a ∉ ι'.tr
  np : a ∉ ι'.pv
  ex : ∃ xs, H' a = some (.lst xs) ∧ RVs K ⟨ι'.tr, a :: ι'.pv⟩ H' vs xs
  sim : Sim K ⟨ι'.tr, a :: ι'.pv⟩ A' H'
def rL (K : PySem.W.Frag) : Rel (List MV) V := fun _ H ι' H' A' vs u => ∃ a, u = .ref a ∧ FL1 K H ι' H' A' vs a
abbrev tML (K : PySem.W.Frag) (W : Wi) (f : FL) : TE := tG K W (rL K) f
theorem Ext.free {ι ι' ι2 : Io} {H H' H2 : Hp} (e : Ext ι H ι' H') (e2 : Ext ι' H' ι2 H2) {a : Addr} (h : H' a = none) (n : a ∉ ι2.tr) : H a = none := by
  cases q : H a with
  | none => rfl
  | some o =>
    have na : a ∉ ι.tr := fun z => n ((e.trans e2).pre.subset z)
    rw [e.keep a o na q] at h
    cases h
instance {K : PySem.W.Frag} : Mono (rL K) := ⟨fun e e2 h => by
  obtain ⟨a, rfl, h⟩ := h
  exact ⟨a, rfl, e.free e2 h.free h.nt, h.nt, h.np, h.ex, h.sim⟩⟩
theorem FL1.sim0 {K : PySem.W.Frag} {H H' : Hp} {ι' : Io} {A' : AH} {vs : List MV} {a : Addr} (h : FL1 K H ι' H' A' vs a) : Sim K ι' A' H' := h.sim.show
/-- what a statement's end wants -/
def RPS (K : PySem.W.Frag) (W : Wi) (D : Ends) (ι : Io) (H : Hp) : Fs → Prop
  | .nx ρ' A' => ∀ ι' H' σ', Ext ι H ι' H' → Sim K ι' A' H' → REnv W K ι' H' ρ' σ' → D.nx σ' H'
  | .bk ρ' A' => ∀ ι' H' σ', Ext ι H ι' H' → Sim K ι' A' H' → REnv W K ι' H' ρ' σ' → D.bk σ' H'
  | .ct ρ' A' => ∀ ι' H' σ', Ext ι H ι' H' → Sim K ι' A' H' → REnv W K ι' H' ρ' σ' → D.ct σ' H'
  | .rt v A' => ∀ ι' H' u, Ext ι H ι' H' → Sim K ι' A' H' → RV K ι' H' v u → D.rt u H'
  | .err c fs ρ' A' => ∀ ι' H' σ' d, Ext ι H ι' H' → Sim K ι' A' H' → REnv W K ι' H' ρ' σ' → ErrR K ι' H' fs d → W.w (.ref (He.ga K c)) (some d) σ' H'
  | .bad => False
theorem RPS.ext {K : PySem.W.Frag} {W : Wi} {D : Ends} {ι ι' : Io} {H H' : Hp} {r : Fs} (e : Ext ι H ι' H') (h : RPS K W D ι H r) : RPS K W D ι' H' r := by
  cases r with
  | nx ρ A => exact fun ι2 H2 σ2 e2 s r => h ι2 H2 σ2 (e.trans e2) s r
  | bk ρ A => exact fun ι2 H2 σ2 e2 s r => h ι2 H2 σ2 (e.trans e2) s r
  | ct ρ A => exact fun ι2 H2 σ2 e2 s r => h ι2 H2 σ2 (e.trans e2) s r
  | rt v A => exact fun ι2 H2 σ2 e2 s r => h ι2 H2 σ2 (e.trans e2) s r
  | err c fs ρ A => exact fun ι2 H2 σ2 d e2 s r q => h ι2 H2 σ2 d (e.trans e2) s r q
  | bad => exact h
def tMS (K : PySem.W.Frag) (W : Wi) (f : FS) : TS := fun D σ H => ∃ ι A ρ, Sim K ι A H ∧ REnv W K ι H ρ σ ∧ RPS K W D ι H (f ρ A)
end Mv
/-! Mv1: expressions: names, constants, operators, comparisons, tests, and, or, not, if-expressions -/
namespace Mv
open PySem PySem.Spec PyProof.Rows L2 Fk
theorem _root_.L2.PE.imp {X : Cx} {e : Expr} {t t' : TE} (h : PE X e t) (i : ∀ σ H Q, t' σ H Q → t σ H Q) : PE X e t' := ⟨fun pins s σ H Q I q => h.run pins s σ H Q I (i σ H Q q)⟩
theorem _root_.L2.PT.imp {X : Cx} {e : Expr} {t t' : TT} (h : PT X e t) (i : ∀ σ H Q, t' σ H Q → t σ H Q) : PT X e t' := ⟨fun pins s σ H Q I q => h.run pins s σ H Q I (i σ H Q q)⟩
theorem _root_.L2.PW.imp {X : Cx} {e : Expr} {t t' : TT} (h : PW X e t) (i : ∀ σ H Q, t' σ H Q → t σ H Q) : PW X e t' := ⟨fun wh pins s σ H Q I q => h.run wh pins s σ H Q I (i σ H Q q)⟩
theorem _root_.L2.PA.imp {X : Cx} {e : List Expr} {t t' : TA} (h : PA X e t) (i : ∀ σ H Q, t' σ H Q → t σ H Q) : PA X e t' := ⟨fun pos pins s σ H Q I q => h.run pos pins s σ H Q I (i σ H Q q)⟩
theorem _root_.L2.PS.imp {X : Cx} {e : Stmt} {t t' : TS} (h : PS X e t) (i : ∀ D σ H, t' D σ H → t D σ H) : PS X e t' := ⟨fun pins s σ H Q I q => h.run pins s σ H Q I (i Q σ H q)⟩
theorem _root_.L2.PSs.imp {X : Cx} {e : List Stmt} {t t' : TS} (h : PSs X e t) (i : ∀ D σ H, t' D σ H → t D σ H) : PSs X e t' := ⟨fun pins s σ H Q I q => h.run pins s σ H Q I (i Q σ H q)⟩
def tupOf : MV → Option (List MV)
  | .tup xs => some xs
  | .ptp xs => some xs
  | _ => none
section
variable {α β γ δ : Type} {K : PySem.W.Frag} {W : Wi} {σ : L2.St} {ι : Io} {H : Hp} {A : AH} {ρ : ME}
/-- one thing, then another, from a known state -/
theorem RP_bind {R : Rel α β} {R' : Rel γ δ} [Mono R'] {f : ME → AH → Rs α} {g : α → AH → Rs γ} {Q : δ → Hp → Prop} {Q1 : β → Hp → Prop} (S : Sim K ι A H) (E : REnv W K ι H ρ σ)
    (h : RP K W σ R' ι H ((f ρ A).bind g) Q) (k : ∀ ι' A' v u H', Ext ι H ι' H' → R ι H ι' H' A' v u → RP K W σ R' ι' H' (g v A') Q → Q1 u H') : tG K W R f σ H Q1 := by
  refine ⟨ι, A, ρ, S, E, ?_⟩
  cases e : f ρ A with
  | ok v A' =>
    rw [e] at h
    exact fun ι' H' u x r => k ι' A' v u H' x r (RP.ext x h)
  | err c fs A' =>
    rw [e] at h
    exact h
  | bad =>
    rw [e] at h
    exact h
theorem RP.bnd {R : Rel α β} {R' : Rel γ δ} [Mono R'] {r : Rs α} {g : α → AH → Rs γ} {Q : δ → Hp → Prop} {Q1 : β → Hp → Prop} (h : RP K W σ R' ι H (r.bind g) Q)
    (k : ∀ ι' A' v u H', Ext ι H ι' H' → R ι H ι' H' A' v u → RP K W σ R' ι' H' (g v A') Q → Q1 u H') : RP K W σ R ι H r Q1 := by
  cases r with
  | ok v A' => exact fun ι' H' u x r => k ι' A' v u H' x r (RP.ext x h)
  | err c fs A' => exact h
  | bad => exact h
theorem RP.ok0 {R : Rel α β} {v : α} {u : β} {Q : β → Hp → Prop} (h : RP K W σ R ι H (.ok v A) Q) (r : R ι H ι H A v u) : Q u H := h ι H u (Ext.refl _ _) r
theorem RP.new {v : MV} {u : V} {Q : V → Hp → Prop} {p : Addr} {o : HO} (h : RP K W σ (rV K) ι H (.ok v A) Q) (S : Sim K ι A H) (hp : H p = none) (r : RV K ι (upd H p o) v u) : Q u (upd H p o) := h ι _ u (Ext.new1 hp) ⟨S.new1 hp, r⟩
theorem new_tup {vs : List MV} {xs : List V} {p : Addr} (S : Sim K ι A H) (hp : H p = none) (r : RVs K ι H vs xs) : RV K ι (upd H p (.tup xs)) (.tup vs) (.ref p) := .tup (.inl ⟨S.outA hp, .inl upd_same⟩) (r.ext (Ext.new1 hp))
theorem sqT0 {a : Addr} {xs : List V} (h : SqT K H0 a xs) : SqT K H a xs := by
  rcases h with h | h
  · rcases h with h | ⟨o, h⟩ <;> cases h
  · exact .inr h
theorem sqL0 {a : Addr} {xs : List V} (h : SqL K H0 a xs) : SqL K H a xs := by
  rcases h with h | h
  · rcases h with h | ⟨o, h⟩ <;> cases h
  · exact .inr h
theorem RV.tupR {v : MV} {vs : List MV} {u : V} (q : tupOf v = some vs) (h : RV K ι H v u) : ∃ a xs, u = .ref a ∧ ((ι.out a ∧ Rd H a (.tup xs)) ∨ SqT K H0 a xs) ∧ RVs K ι H vs xs := by
  cases h with
  | tup h r => cases q; exact ⟨_, _, rfl, h, r⟩
  | ptp n h d r => cases q; exact ⟨_, _, rfl, .inl ⟨n, .inr ⟨_, h⟩⟩, r⟩
  | _ => cases q
theorem RV.sqT {v : MV} {vs : List MV} {u : V} (q : tupOf v = some vs) (h : RV K ι H v u) : ∃ a xs, u = .ref a ∧ SqT K H a xs ∧ RVs K ι H vs xs := by
  obtain ⟨a, xs, e, h, r⟩ := h.tupR q
  exact ⟨a, xs, e, h.elim (fun h => .inl h.2) sqT0, r⟩
theorem RV.sqL {vs : List MV} {u : V} (h : RV K ι H (.lst vs) u) : ∃ a xs, u = .ref a ∧ SqL K H a xs ∧ RVs K ι H vs xs := by
  cases h with
  | lst h r => exact ⟨_, _, rfl, .inl h.2, r⟩
/-- a fresh list as a value -/
theorem FL1.frz {H' : Hp} {vs : List MV} {a : Addr} (h : FL1 K H' ι H A vs a) : RV K ι H (.lst vs) (.ref a) := by
  obtain ⟨_, n1, n2, ⟨xs, e, r⟩, _⟩ := h
  exact .lst ⟨⟨n1, n2⟩, .inl e⟩ (r.le Le.show)
/-- a fresh list, laid just now -/
theorem FL1.new {vs : List MV} {xs : List V} {p : Addr} (S : Sim K ι A H) (hp : H p = none) (r : RVs K ι H vs xs) : FL1 K H ι (upd H p (.lst xs)) A vs p := by
  refine ⟨hp, (S.outA hp).1, (S.outA hp).2, ⟨xs, upd_same, r.le ((Le.hide hp).trans ⟨List.prefix_refl _, fun p u n e => ⟨n, ?_⟩⟩)⟩, Sim.hide S hp⟩
  rw [upd_ne (ne_of_none e hp)]
  exact e
theorem RP.newL {vs : List MV} {xs : List V} {Q : V → Hp → Prop} {p : Addr} (h : RP K W σ (rL K) ι H (.ok vs A) Q) (S : Sim K ι A H) (hp : H p = none) (r : RVs K ι H vs xs) : Q (.ref p) (upd H p (.lst xs)) := h ι _ _ (Ext.new1 hp) ⟨p, rfl, FL1.new S hp r⟩
end
/-! ### names and constants -/
def eVar (i : Nat) : FE := fun ρ A => match ρ[i]? with
  | some (some v) => .ok v A
  | _ => .bad
def eC (v : MV) : FE := fun _ A => .ok v A
def eBin (g : MV → MV → AH → Rs MV) (a b : FE) : FE := fun ρ A => (a ρ A).bind fun x A => (b ρ A).bind fun y A => g x y A
def eUn (g : MV → AH → Rs MV) (a : FE) : FE := fun ρ A => (a ρ A).bind g
def tB' (a : FE) : FB := fun ρ A => (a ρ A).bind fun x A => match x with
  | .bl b => .ok b A
  | _ => .bad
def eB (a : FB) : FE := fun ρ A => (a ρ A).bind fun b A => .ok (.bl b) A
def bNot (a : FB) : FB := fun ρ A => (a ρ A).bind fun b A => .ok (!b) A
def bAnd (a b : FB) : FB := fun ρ A => (a ρ A).bind fun x A => match x with
  | true => b ρ A
  | false => .ok false A
def bOr (a b : FB) : FB := fun ρ A => (a ρ A).bind fun x A => match x with
  | true => .ok true A
  | false => b ρ A
def eIf (c : FB) (a b : FE) : FE := fun ρ A => (c ρ A).bind fun x A => match x with
  | true => a ρ A
  | false => b ρ A
section
variable {X : Cx} {W : Wi} {a b c : Expr} {fa fb fc : FE} {ga gb : FB} {pos : Pos}
theorem m_var (i : Nat) {x : Str} (hN : X.N[i]? = some x := by rfl) (hv : Vis X.env.scope x := by first | exact Or.inl rfl | exact Or.inr (Or.inl rfl) | exact Or.inr (Or.inr rfl)) (hd : (x == ("__debug__" : Str)) = false := by decide) (hcd : (x == ("__classdict__" : Str)) = false := by decide) :
    PE X (.Name x pos) (tM X.K W (eVar i)) := (pe_var hN hv hd hcd).imp fun σ H Q ⟨ι, A, ρ, S, E, h⟩ => by
  unfold eVar at h
  split at h
  · rename_i v e
    obtain ⟨u, e1, r⟩ := E.get i v e
    exact ⟨u, e1, h.ok0 ⟨S, r⟩⟩
  · exact h.elim
theorem m_c {e : Expr} {v : MV} {u : V} (h : PE X e (tC u)) (r : ∀ ι H, RV X.K ι H v u) : PE X e (tM X.K W (eC v)) := h.imp fun σ H Q ⟨ι, A, ρ, S, E, h⟩ => RP.ok0 h ⟨S, (r ι H)⟩
theorem m_int {i : Int} {j : Nat} : PE X (.Constant (.int i) j pos) (tM X.K W (eC (.int i))) := m_c pe_int fun _ _ => .int i
theorem m_bl {i : Bool} {j : Nat} : PE X (.Constant (.bool i) j pos) (tM X.K W (eC (.bl i))) := m_c pe_bl fun _ _ => .bl i
theorem m_str {i : Str} {j : Nat} : PE X (.Constant (.str i) j pos) (tM X.K W (eC (.str i))) := m_c pe_str fun _ _ => .str i
theorem m_non {j : Nat} : PE X (.Constant .none j pos) (tM X.K W (eC .non)) := m_c pe_non fun _ _ => .non
/-! ### operators -/
/-- what an operator's rule asks follows from the plain function -/
def OpS (X : Cx) (W : Wi) (r : R2) (g : MV → MV → AH → Rs MV) : Prop := ∀ {σ : L2.St} {ι : Io} {H : Hp} {A : AH} {x y : MV} {u v : V} {Q : VK}, Sim X.K ι A H → RV X.K ι H x u → RV X.K ι H y v → RP X.K W σ (rV X.K) ι H (g x y A) Q → r u v H Q
/-- an operator and its plain function -/
structure OpM (X : Cx) (W : Wi) (f : Value → Value → Sem Value) (g : MV → MV → AH → Rs MV) : Prop where
  ex : ∃ r, OpR X f r ∧ OpS X W r g
theorem m_op {op : Operator} {g : MV → MV → AH → Rs MV} (ho : OpM X W (binaryOp op) g) (ha : PE X a (tM X.K W fa)) (hb : PE X b (tM X.K W fb)) : PE X (.BinOp a op b pos) (tM X.K W (eBin g fa fb)) := by
  obtain ⟨r, hr, hs⟩ := ho.ex
  exact (pe_op hr ha hb).imp fun σ H Q ⟨ι, A, ρ, S, E, h⟩ => RP_bind S E h fun ι1 A1 x u H1 e1 ⟨S1, r1⟩ h1 => RP_bind S1 (E.ext e1) h1 fun ι2 A2 y v H2 e2 ⟨S2, r2⟩ h2 => hs S2 (r1.ext e2) r2 h2
theorem m_cmp {op : CmpOp} {g : MV → MV → AH → Rs MV} (ho : OpM X W (compareOp op) g) (ha : PE X a (tM X.K W fa)) (hb : PE X b (tM X.K W fb)) (hm : behindInMarks op b = false := by first | exact nomark _ | rfl) : PE X (.Compare a [op] [b] pos) (tM X.K W (eBin g fa fb)) := by
  obtain ⟨r, hr, hs⟩ := ho.ex
  exact (pe_cmpR hr ha hb hm).imp fun σ H Q ⟨ι, A, ρ, S, E, h⟩ => RP_bind S E h fun ι1 A1 x u H1 e1 ⟨S1, r1⟩ h1 => RP_bind S1 (E.ext e1) h1 fun ι2 A2 y v H2 e2 ⟨S2, r2⟩ h2 => hs S2 (r1.ext e2) r2 h2
theorem tB_of {t : L2.St} {H : Hp} {Q : Bool → Hp → Prop} (h : tMB X.K W (tB' fa) t H Q) : tM X.K W fa t H fun x H1 => ∃ k, x = .bl k ∧ Q k H1 := by
  obtain ⟨ι, A, ρ, S, E, h⟩ := h
  refine RP_bind S E h fun ι1 A1 x u H1 e1 ⟨S1, r1⟩ h1 => ?_
  cases r1 with
  | bl b => exact ⟨b, rfl, h1.ok0 ⟨S1, rfl⟩⟩
  | _ => exact h1.elim
theorem mt_cmp {op : CmpOp} {g : MV → MV → AH → Rs MV} (ho : OpM X W (compareOp op) g) (ha : PE X a (tM X.K W fa)) (hb : PE X b (tM X.K W fb)) (hm : behindInMarks op b = false := by first | exact nomark _ | rfl) : PT X (.Compare a [op] [b] pos) (tMB X.K W (tB' (eBin g fa fb))) := by
  obtain ⟨r, hr, hs⟩ := ho.ex
  refine (pt_cmpR hr ha hb hm).imp fun σ H Q h => ?_
  obtain ⟨ι, A, ρ, S, E, h⟩ := tB_of h
  exact RP_bind S E h fun ι1 A1 x u H1 e1 ⟨S1, r1⟩ h1 => RP_bind S1 (E.ext e1) h1 fun ι2 A2 y v H2 e2 ⟨S2, r2⟩ h2 => hs S2 (r1.ext e2) r2 h2
theorem mt_val (ha : PE X a (tM X.K W fa)) (he : ∀ whole, isTrue a X.env whole = (do let v ← whole; standAt a.pos; holding [v] (truthy v)) := by intro _; rfl) : PT X a (tMB X.K W (tB' fa)) := (pt_val ha he).imp fun σ H Q h => tB_of h
theorem mt_not (ha : PT X a (tMB X.K W ga)) : PT X (.UnaryOp .Not a pos) (tMB X.K W (bNot ga)) := (pt_not ha).imp fun σ H Q ⟨ι, A, ρ, S, E, h⟩ => RP_bind S E h fun ι1 A1 x u H1 e1 ⟨S1, r1⟩ h1 => by
  cases r1
  exact h1.ok0 ⟨S1, rfl⟩
theorem mw_and1 (ha : PT X a (tMB X.K W ga)) : PW X (.BoolOp .And [a] pos) (tMB X.K W ga) := pw_and1 ha
theorem mw_or1 (ha : PT X a (tMB X.K W ga)) : PW X (.BoolOp .Or [a] pos) (tMB X.K W ga) := pw_or1 ha
theorem mw_and {rest : List Expr} (ha : PT X a (tMB X.K W ga)) (hb : PW X (.BoolOp .And (b :: rest) pos) (tMB X.K W gb)) : PW X (.BoolOp .And (a :: b :: rest) pos) (tMB X.K W (bAnd ga gb)) := (pw_and ha hb).imp fun σ H Q ⟨ι, A, ρ, S, E, h⟩ => RP_bind S E h fun ι1 A1 x u H1 e1 ⟨S1, r1⟩ h1 => by
  cases r1
  cases x with
  | true => exact ⟨ι1, A1, ρ, S1, E.ext e1, h1⟩
  | false => exact h1.ok0 ⟨S1, rfl⟩
theorem mw_or {rest : List Expr} (ha : PT X a (tMB X.K W ga)) (hb : PW X (.BoolOp .Or (b :: rest) pos) (tMB X.K W gb)) : PW X (.BoolOp .Or (a :: b :: rest) pos) (tMB X.K W (bOr ga gb)) := (pw_or ha hb).imp fun σ H Q ⟨ι, A, ρ, S, E, h⟩ => RP_bind S E h fun ι1 A1 x u H1 e1 ⟨S1, r1⟩ h1 => by
  cases r1
  cases x with
  | true => exact h1.ok0 ⟨S1, rfl⟩
  | false => exact ⟨ι1, A1, ρ, S1, E.ext e1, h1⟩
/-- and, or, not as values of bools -/
def eAnd (a b : FE) : FE := fun ρ A => (a ρ A).bind fun x A => match x with
  | .bl true => b ρ A
  | .bl false => .ok (.bl false) A
  | _ => .bad
def eOr (a b : FE) : FE := fun ρ A => (a ρ A).bind fun x A => match x with
  | .bl true => .ok (.bl true) A
  | .bl false => b ρ A
  | _ => .bad
def eNot (a : FE) : FE := fun ρ A => (a ρ A).bind fun x A => match x with
  | .bl b => .ok (.bl (!b)) A
  | _ => .bad
theorem m_one {op} (ha : PE X a (tM X.K W fa)) : PE X (.BoolOp op [a] pos) (tM X.K W fa) := pe_one ha
theorem m_and {rest : List Expr} (ha : PE X a (tM X.K W fa)) (hb : PE X (.BoolOp .And (b :: rest) pos) (tM X.K W fb)) : PE X (.BoolOp .And (a :: b :: rest) pos) (tM X.K W (eAnd fa fb)) := (pe_and ha hb).imp fun σ H Q ⟨ι, A, ρ, S, E, h⟩ => RP_bind S E h fun ι1 A1 x u H1 e1 ⟨S1, r1⟩ h1 => by
  cases r1 with
  | bl k =>
    refine ⟨k, rfl, ?_⟩
    cases k with
    | true => exact ⟨ι1, A1, ρ, S1, E.ext e1, h1⟩
    | false => exact RP.ok0 h1 ⟨S1, (.bl _)⟩
  | _ => exact h1.elim
theorem m_or {rest : List Expr} (ha : PE X a (tM X.K W fa)) (hb : PE X (.BoolOp .Or (b :: rest) pos) (tM X.K W fb)) : PE X (.BoolOp .Or (a :: b :: rest) pos) (tM X.K W (eOr fa fb)) := (pe_or ha hb).imp fun σ H Q ⟨ι, A, ρ, S, E, h⟩ => RP_bind S E h fun ι1 A1 x u H1 e1 ⟨S1, r1⟩ h1 => by
  cases r1 with
  | bl k =>
    refine ⟨k, rfl, ?_⟩
    cases k with
    | false => exact ⟨ι1, A1, ρ, S1, E.ext e1, h1⟩
    | true => exact RP.ok0 h1 ⟨S1, (.bl _)⟩
  | _ => exact h1.elim
theorem m_not (ha : PE X a (tM X.K W fa)) : PE X (.UnaryOp .Not a pos) (tM X.K W (eNot fa)) := (pe_not ha).imp fun σ H Q ⟨ι, A, ρ, S, E, h⟩ => RP_bind S E h fun ι1 A1 x u H1 e1 ⟨S1, r1⟩ h1 => by
  cases r1 with
  | bl k => exact ⟨k, rfl, RP.ok0 h1 ⟨S1, (.bl _)⟩⟩
  | _ => exact h1.elim
theorem m_if (hc : PT X c (tMB X.K W ga)) (ha : PE X a (tM X.K W fa)) (hb : PE X b (tM X.K W fb)) : PE X (.IfExp c a b pos) (tM X.K W (eIf ga fa fb)) := (pe_ifExp hc ha hb).imp fun σ H Q ⟨ι, A, ρ, S, E, h⟩ => RP_bind S E h fun ι1 A1 x u H1 e1 ⟨S1, r1⟩ h1 => by
  cases r1
  cases x with
  | true => exact ⟨ι1, A1, ρ, S1, E.ext e1, h1⟩
  | false => exact ⟨ι1, A1, ρ, S1, E.ext e1, h1⟩
/-- a chain a op b op' c -/
def eChain (g g' : MV → MV → AH → Rs MV) (a b c : FE) : FE := fun ρ A => (a ρ A).bind fun x A => (b ρ A).bind fun y A => (g x y A).bind fun z A => match z with
  | .bl true => (c ρ A).bind fun w A => g' y w A
  | .bl false => .ok (.bl false) A
  | _ => .bad
/-! ### operators on values -/
section
variable {σ : L2.St} {ι : Io} {H : Hp} {A : AH} {x y : MV} {u v : V} {Q : VK}
def addM : MV → MV → AH → Rs MV
  | .int i, .int j, A => .ok (.int (i + j)) A
  | .str s, .str t, A => if s.length + t.length ≤ 1000000 then .ok (.str (s ++ t)) A else .bad
  | .byt s, .byt t, A => if s.size + t.size ≤ 1000000 then .ok (.byt (s ++ t)) A else .bad
  | a, b, A => match tupOf a, tupOf b with
    | some s, some t => if s.length ≠ 0 ∧ t.length ≠ 0 ∧ s.length + t.length ≤ 1000000 then .ok (.tup (s ++ t)) A else .bad
    | _, _ => .bad
theorem lim {n : Nat} (h : n ≤ 1000000) : n ≤ sizeLine := by
  rw [sizeLine_eq]
  omega
theorem op_addM : OpM X W (binaryOp .Add) addM := ⟨_, op_add.or (op_add_str.or (op_add_byt.or op_catT)), fun S rx ry h => by
  unfold addM at h
  split at h
  · cases rx; cases ry
    exact .inl ⟨_, _, rfl, rfl, h.ok0 ⟨S, (.int _)⟩⟩
  · cases rx; cases ry
    split at h
    · rename_i hl
      exact .inr (.inl ⟨_, _, rfl, rfl, lim hl, h.ok0 ⟨S, (.str _)⟩⟩)
    · exact h.elim
  · cases rx; cases ry
    split at h
    · rename_i hl
      exact .inr (.inr (.inl ⟨_, _, rfl, rfl, by omega, h.ok0 ⟨S, (.byt _)⟩⟩))
    · exact h.elim
  · split at h
    · rename_i s t e1 e2
      split at h
      · rename_i hl
        obtain ⟨a, xs, rfl, sx, qx⟩ := rx.sqT e1
        obtain ⟨b, ys, rfl, sy, qy⟩ := ry.sqT e2
        have l1 := qx.length
        have l2 := qy.length
        refine .inr (.inr (.inr ⟨a, b, xs, ys, rfl, rfl, sx, sy, fun e => ?_, lim (by omega), fun e => ?_, fun _ p hp => h.new S hp (new_tup S hp (qx.append qy))⟩))
        · subst e
          exact hl.1 (by simpa using l1)
        · subst e
          exact absurd (by simpa using l2) hl.2.1
      · exact h.elim
    · exact h.elim⟩
def subM : MV → MV → AH → Rs MV
  | .int i, .int j, A => .ok (.int (i - j)) A
  | _, _, _ => .bad
theorem op_subM : OpM X W (binaryOp .Sub) subM := ⟨_, op_sub, fun S rx ry h => by
  unfold subM at h
  split at h
  · cases rx; cases ry
    exact ⟨_, _, rfl, rfl, h.ok0 ⟨S, (.int _)⟩⟩
  · exact h.elim⟩
def small (i : Int) : Bool := decide (-(2 ^ 64) < i) && decide (i < 2 ^ 64)
def mulM : MV → MV → AH → Rs MV
  | .int i, .int j, A => if small i || small j then .ok (.int (i * j)) A else .bad
  | .str s, .int j, A => if 0 ≤ j ∧ j ≤ 1000 ∧ s.length ≤ 1000 then .ok (.str (Txt.mul s j)) A else .bad
  | _, _, _ => .bad
theorem op_mulM : OpM X W (binaryOp .Mult) mulM := ⟨_, op_mul.or op_mul_str, fun S rx ry h => by
  unfold mulM at h
  split at h
  · cases rx; cases ry
    split at h
    · rename_i i j A hl
      refine .inl ⟨_, _, rfl, rfl, ?_, h.ok0 ⟨S, (.int _)⟩⟩
      unfold small at hl
      simp only [Bool.or_eq_true, Bool.and_eq_true, decide_eq_true_eq] at hl
      exact hl
    · exact h.elim
  · cases rx; cases ry
    split at h
    · rename_i s j hl
      refine .inr ⟨_, _, rfl, rfl, ⟨hl.1, by omega, hl.2.2, ?_⟩, h.ok0 ⟨S, (.str _)⟩⟩
      have h1 : j.toNat ≤ 1000 := by omega
      exact Nat.mul_le_mul hl.2.2 h1
    · exact h.elim
  · exact h.elim⟩
def fdivM : MV → MV → AH → Rs MV
  | .int i, .int j, A => if 0 < j ∧ j < 2 ^ 64 then .ok (.int (i / j)) A else .bad
  | _, _, _ => .bad
theorem op_fdivM : OpM X W (binaryOp .FloorDiv) fdivM := ⟨_, op_fdivW, fun S rx ry h => by
  unfold fdivM at h
  split at h
  · cases rx; cases ry
    split at h
    · rename_i hl
      exact ⟨_, _, rfl, rfl, wide_div (b := 64) hl.1 (by omega) (by decide) (by decide), h.ok0 ⟨S, (.int _)⟩⟩
    · exact h.elim
  · exact h.elim⟩
def modM : MV → MV → AH → Rs MV
  | .int i, .int j, A => if 0 < j then .ok (.int (i % j)) A else .bad
  | _, _, _ => .bad
theorem op_modM : OpM X W (binaryOp .Mod) modM := ⟨_, op_mod, fun S rx ry h => by
  unfold modM at h
  split at h
  · cases rx; cases ry
    split at h
    · rename_i hl
      exact ⟨_, _, rfl, rfl, hl, h.ok0 ⟨S, (.int _)⟩⟩
    · exact h.elim
  · exact h.elim⟩
def powM : MV → MV → AH → Rs MV
  | .int i, .int j, A => if 0 ≤ j ∧ j ≤ 1000 ∧ i.natAbs < 2 ^ 64 then .ok (.int (i ^ j.toNat)) A else .bad
  | _, _, _ => .bad
theorem op_powM : OpM X W (binaryOp .Pow) powM := ⟨_, op_pow, fun S rx ry h => by
  unfold powM at h
  split at h
  · cases rx; cases ry
    split at h
    · rename_i hl
      exact ⟨_, _, rfl, rfl, ⟨hl.1, by omega, hl.2.2⟩, h.ok0 ⟨S, (.int _)⟩⟩
    · exact h.elim
  · exact h.elim⟩
def negM : MV → AH → Rs MV
  | .int i, A => .ok (.int (-i)) A
  | _, _ => .bad
theorem m_neg (ha : PE X a (tM X.K W fa)) : PE X (.UnaryOp .USub a pos) (tM X.K W (eUn negM fa)) := (pe_un un_neg ha).imp fun σ H Q ⟨ι, A, ρ, S, E, h⟩ => RP_bind S E h fun ι1 A1 x u H1 e1 ⟨S1, r1⟩ h1 => by
  unfold negM at h1
  split at h1
  · cases r1
    exact ⟨_, rfl, RP.ok0 h1 ⟨S1, (.int _)⟩⟩
  · exact h1.elim
/-- < <= > >= of ints and texts -/
def ltS (s t : Str) : Bool := decide (s.cps.toList < t.cps.toList)
def ltM : MV → MV → AH → Rs MV
  | .int i, .int j, A => .ok (.bl (decide (i < j))) A
  | .str i, .str j, A => .ok (.bl (ltS i j)) A
  | _, _, _ => .bad
def leM : MV → MV → AH → Rs MV
  | .int i, .int j, A => .ok (.bl (decide (i ≤ j))) A
  | .str i, .str j, A => .ok (.bl (!ltS j i)) A
  | _, _, _ => .bad
def gtM : MV → MV → AH → Rs MV
  | .int i, .int j, A => .ok (.bl (decide (j < i))) A
  | .str i, .str j, A => .ok (.bl (ltS j i)) A
  | _, _, _ => .bad
def geM : MV → MV → AH → Rs MV
  | .int i, .int j, A => .ok (.bl (decide (j ≤ i))) A
  | .str i, .str j, A => .ok (.bl (!ltS i j)) A
  | _, _, _ => .bad
theorem op_ltM : OpM X W (compareOp .Lt) ltM := ⟨_, op_lt.or op_lt_str, fun S rx ry h => by
  unfold ltM at h
  split at h
  · cases rx; cases ry
    exact .inl ⟨_, _, rfl, rfl, h.ok0 ⟨S, (.bl _)⟩⟩
  · cases rx; cases ry
    exact .inr ⟨_, _, rfl, rfl, h.ok0 ⟨S, (.bl _)⟩⟩
  · exact h.elim⟩
theorem op_leM : OpM X W (compareOp .LtE) leM := ⟨_, op_le.or op_le_str, fun S rx ry h => by
  unfold leM at h
  split at h
  · cases rx; cases ry
    exact .inl ⟨_, _, rfl, rfl, h.ok0 ⟨S, (.bl _)⟩⟩
  · cases rx; cases ry
    exact .inr ⟨_, _, rfl, rfl, h.ok0 ⟨S, (.bl _)⟩⟩
  · exact h.elim⟩
theorem op_gtM : OpM X W (compareOp .Gt) gtM := ⟨_, op_gt.or op_gt_str, fun S rx ry h => by
  unfold gtM at h
  split at h
  · cases rx; cases ry
    exact .inl ⟨_, _, rfl, rfl, h.ok0 ⟨S, (.bl _)⟩⟩
  · cases rx; cases ry
    exact .inr ⟨_, _, rfl, rfl, h.ok0 ⟨S, (.bl _)⟩⟩
  · exact h.elim⟩
theorem op_geM : OpM X W (compareOp .GtE) geM := ⟨_, op_ge.or op_ge_str, fun S rx ry h => by
  unfold geM at h
  split at h
  · cases rx; cases ry
    exact .inl ⟨_, _, rfl, rfl, h.ok0 ⟨S, (.bl _)⟩⟩
  · cases rx; cases ry
    exact .inr ⟨_, _, rfl, rfl, h.ok0 ⟨S, (.bl _)⟩⟩
  · exact h.elim⟩
/-- is None, is not None -/
def isN : MV → Bool
  | .non => true
  | _ => false
def isNM : MV → MV → AH → Rs MV
  | x, .non, A => .ok (.bl (isN x)) A
  | _, _, _ => .bad
def notNM : MV → MV → AH → Rs MV
  | x, .non, A => .ok (.bl (!isN x)) A
  | _, _, _ => .bad
theorem isN_rel {K : PySem.W.Frag} (r : RV K ι H x u) : decide (u = V.non) = isN x := by
  cases r <;> rfl
theorem op_isNM : OpM X W (compareOp .Is) isNM := ⟨_, op_isN, fun S rx ry h => by
  unfold isNM at h
  split at h
  · cases ry
    refine ⟨rfl, ?_⟩
    rw [isN_rel rx]
    exact h.ok0 ⟨S, (.bl _)⟩
  · exact h.elim⟩
theorem op_notNM : OpM X W (compareOp .IsNot) notNM := ⟨_, op_notN, fun S rx ry h => by
  unfold notNM at h
  split at h
  · cases ry
    refine ⟨rfl, ?_⟩
    rw [isN_rel rx]
    exact h.ok0 ⟨S, (.bl _)⟩
  · exact h.elim⟩
end
theorem m_chain {op op' : CmpOp} {g g' : MV → MV → AH → Rs MV} (ho : OpM X W (compareOp op) g) (ho' : OpM X W (compareOp op') g') (ha : PE X a (tM X.K W fa)) (hb : PE X b (tM X.K W fb)) (hc : PE X c (tM X.K W fc)) (hm : lastMarks [op, op'] [b, c] = false := by with_unfolding_all rfl) : PE X (.Compare a [op, op'] [b, c] pos) (tM X.K W (eChain g g' fa fb fc)) := by
  obtain ⟨r, hr, hs⟩ := ho.ex
  obtain ⟨r', hr', hs'⟩ := ho'.ex
  exact (pe_chain hr hr' ha hb hc hm).imp fun σ H Q ⟨ι, A, ρ, S, E, h⟩ => RP_bind S E h fun ι1 A1 x u H1 e1 ⟨S1, r1⟩ h1 => RP_bind S1 (E.ext e1) h1 fun ι2 A2 y v H2 e2 ⟨S2, r2⟩ h2 => by
    refine hs S2 (r1.ext e2) r2 (h2.bnd fun ι3 A3 z w H3 e3 ⟨S3, r3⟩ h3 => ?_)
    cases r3 with
    | bl k =>
      refine ⟨k, rfl, ?_⟩
      cases k with
      | true => exact RP_bind S3 (E.ext ((e1.trans e2).trans e3)) h3 fun ι4 A4 y' v' H4 e4 ⟨S4, r4⟩ h4 => hs' S4 (r2.ext (e3.trans e4)) r4 h4
      | false => exact RP.ok0 h3 ⟨S3, (.bl _)⟩
    | _ => exact h3.elim
theorem mt_chain {op op' : CmpOp} {g g' : MV → MV → AH → Rs MV} (ho : OpM X W (compareOp op) g) (ho' : OpM X W (compareOp op') g') (ha : PE X a (tM X.K W fa)) (hb : PE X b (tM X.K W fb)) (hc : PE X c (tM X.K W fc)) (hm : lastMarks [op, op'] [b, c] = false := by with_unfolding_all rfl) : PT X (.Compare a [op, op'] [b, c] pos) (tMB X.K W (tB' (eChain g g' fa fb fc))) := by
  obtain ⟨r, hr, hs⟩ := ho.ex
  obtain ⟨r', hr', hs'⟩ := ho'.ex
  refine (pt_chain hr hr' ha hb hc hm).imp fun σ H Q h => ?_
  obtain ⟨ι, A, ρ, S, E, h⟩ := tB_of h
  exact RP_bind S E h fun ι1 A1 x u H1 e1 ⟨S1, r1⟩ h1 => RP_bind S1 (E.ext e1) h1 fun ι2 A2 y v H2 e2 ⟨S2, r2⟩ h2 => by
    refine hs S2 (r1.ext e2) r2 (h2.bnd fun ι3 A3 z w H3 e3 ⟨S3, r3⟩ h3 => ?_)
    cases r3 with
    | bl k =>
      refine ⟨k, rfl, ?_⟩
      cases k with
      | true => exact RP_bind S3 (E.ext ((e1.trans e2).trans e3)) h3 fun ι4 A4 y' v' H4 e4 ⟨S4, r4⟩ h4 => hs' S4 (r2.ext (e3.trans e4)) r4 h4
      | false => exact RP.ok0 h3 ⟨S3, (.bl _)⟩
    | _ => exact h3.elim
end
end Mv
/-! Mv2: rows of values, tuples, lists, statements, targets, loops, locks -/
namespace Mv
open PySem PySem.Spec PyProof.Rows L2 Fk
section
variable {α β γ δ : Type} {K : PySem.W.Frag} {W : Wi} {σ : L2.St} {ι : Io} {H : Hp} {A : AH} {ρ : ME}
/-- as RP_bind, what follows told from the start -/
theorem RP_bind0 {R : Rel α β} {R' : Rel γ δ} {f : ME → AH → Rs α} {g : α → AH → Rs γ} {Q : δ → Hp → Prop} {Q1 : β → Hp → Prop} (S : Sim K ι A H) (E : REnv W K ι H ρ σ)
    (h : RP K W σ R' ι H ((f ρ A).bind g) Q) (k : ∀ ι' A' v u H', Ext ι H ι' H' → R ι H ι' H' A' v u → RP K W σ R' ι H (g v A') Q → Q1 u H') : tG K W R f σ H Q1 := by
  refine ⟨ι, A, ρ, S, E, ?_⟩
  cases e : f ρ A with
  | ok v A' =>
    rw [e] at h
    exact fun ι' H' u x r => k ι' A' v u H' x r h
  | err c fs A' =>
    rw [e] at h
    exact h
  | bad =>
    rw [e] at h
    exact h
end
/-! ### rows of values -/
def aNil : FL := fun _ A => .ok [] A
def aCons (f : FE) (g : FL) : FL := fun ρ A => (f ρ A).bind fun v A => (g ρ A).bind fun vs A => .ok (v :: vs) A
def szL (vs : List MV) : Bool := decide (vs.length ≤ 1000000)
def eTup (g : FL) : FE := fun ρ A => (g ρ A).bind fun vs A => if szL vs then .ok (.tup vs) A else .bad
def aLst (g : FL) : FL := fun ρ A => (g ρ A).bind fun vs A => if szL vs then .ok vs A else .bad
def eFrz (g : FL) : FE := fun ρ A => (g ρ A).bind fun vs A => .ok (.lst vs) A
def eRef (g : FL) : FE := fun ρ A => (g ρ A).bind fun vs A => .ok (.ref A.length) (A ++ [.lst vs])
section
variable {X : Cx} {W : Wi} {e : Expr} {es : List Expr} {f : FE} {g : FL} {pos : Pos}
theorem ma_nil : PA X [] (tMA X.K W aNil) := ⟨fun p pins s σ H Q I ⟨ι, A, ρ, S, E, h⟩ => pa_nil.run p pins s σ H Q I (RP.ok0 h ⟨S, .nil⟩)⟩
theorem _root_.L2.PA.imp' {X : Cx} {e : List Expr} {t t' : TA} (h : PA X e t) (i : ∀ σ H Q, t' σ H Q → t σ H Q) : PA X e t' := ⟨fun pos pins s σ H Q I q => h.run pos pins s σ H Q I (i σ H Q q)⟩
theorem ma_cons (ha : PE X e (tM X.K W f)) (hr : PA X es (tMA X.K W g)) (hs : starEach (e :: es) X.env = (false, eval e X.env) :: starEach es X.env := by rfl) : PA X (e :: es) (tMA X.K W (aCons f g)) :=
  (pa_cons ha hr hs).imp' fun σ H Q ⟨ι, A, ρ, S, E, h⟩ => RP_bind S E h fun ι1 A1 x u H1 e1 ⟨S1, r1⟩ h1 => RP_bind S1 (E.ext e1) h1 fun ι2 A2 xs us H2 e2 ⟨S2, r2⟩ h2 => RP.ok0 h2 ⟨S2, .cons (r1.ext e2) r2⟩
theorem m_tup {x1 : Nat} (h : PA X es (tMA X.K W g)) : PE X (.Tuple es x1 pos) (tM X.K W (eTup g)) := (pe_tup h).imp fun σ H Q ⟨ι, A, ρ, S, E, h⟩ => RP_bind S E h fun ι1 A1 xs us H1 e1 ⟨S1, r1⟩ h1 => by
  by_cases hz : szL xs = true
  · rw [if_pos hz] at h1
    exact ⟨lim (by rw [← r1.length]; exact of_decide_eq_true hz), fun p hp => h1.new S1 hp (new_tup S1 hp r1)⟩
  · rw [if_neg hz] at h1
    exact h1.elim
theorem ml_lst (h : PA X es (tMA X.K W g)) : PE X (.List es pos) (tML X.K W (aLst g)) := (pe_lst h).imp fun σ H Q ⟨ι, A, ρ, S, E, h⟩ => RP_bind S E h fun ι1 A1 xs us H1 e1 ⟨S1, r1⟩ h1 => by
  by_cases hz : szL xs = true
  · rw [if_pos hz] at h1
    exact ⟨lim (by rw [← r1.length]; exact of_decide_eq_true hz), fun p hp => h1.newL S1 hp r1⟩
  · rw [if_neg hz] at h1
    exact h1.elim
/-- a fresh list as a value that stays -/
theorem m_frz (h : PE X e (tML X.K W g)) : PE X e (tM X.K W (eFrz g)) := h.imp fun σ H Q ⟨ι, A, ρ, S, E, h⟩ => RP_bind S E h fun ι1 A1 xs u H1 e1 r h1 => by
  obtain ⟨a, rfl, f⟩ := r
  exact h1.ok0 ⟨f.sim0, f.frz⟩
/-- .. as a thing that changes -/
theorem m_ref (h : PE X e (tML X.K W g)) : PE X e (tM X.K W (eRef g)) := h.imp fun σ H Q ⟨ι, A, ρ, S, E, h⟩ => RP_bind0 S E h fun ι1 A1 xs u H1 e1 r h1 => by
  obtain ⟨a, rfl, f⟩ := r
  obtain ⟨ys, hy, ry⟩ := f.ex
  refine h1 ⟨ι1.tr ++ [a], ι1.pv⟩ H1 _ (e1.adopt f.free) ⟨f.sim.adopt f.nt (.lst hy (ry.le Le.adopt)), .ref ?_⟩
  have sl : ι1.tr.length = A1.length := f.sim.len
  show (ι1.tr ++ [a])[A1.length]? = some a
  rw [← sl, List.getElem?_append_right (Nat.le_refl _), Nat.sub_self]
  rfl
end
/-! ### statements -/
def Rs.fs {α : Type} (r : Rs α) (ρ : ME) (k : α → AH → Fs) : Fs := match r with
  | .ok v A => k v A
  | .err c fs A => .err c fs ρ A
  | .bad => .bad
section
variable {α β : Type} {K : PySem.W.Frag} {W : Wi} {D : Ends} {σ : L2.St} {ι : Io} {H : Hp} {A : AH} {ρ : ME}
theorem RPS_bind {R : Rel α β} {f : ME → AH → Rs α} {g : α → AH → Fs} {Q1 : β → Hp → Prop} (S : Sim K ι A H) (E : REnv W K ι H ρ σ)
    (h : RPS K W D ι H ((f ρ A).fs ρ g)) (k : ∀ ι' A' v u H', Ext ι H ι' H' → R ι H ι' H' A' v u → RPS K W D ι' H' (g v A') → Q1 u H') : tG K W R f σ H Q1 := by
  refine ⟨ι, A, ρ, S, E, ?_⟩
  cases e : f ρ A with
  | ok v A' =>
    rw [e] at h
    exact fun ι' H' u x r => k ι' A' v u H' x r (RPS.ext x h)
  | err c fs A' =>
    rw [e] at h
    exact fun ι' H' d x s q => h ι' H' σ d x s (E.ext x) q
  | bad =>
    rw [e] at h
    exact h
end
def sNext : FS := fun ρ A => .nx ρ A
def sBad : FS := fun _ _ => .bad
def sBreak : FS := fun ρ A => .bk ρ A
def sCont : FS := fun ρ A => .ct ρ A
def sSeq (a b : FS) : FS := fun ρ A => match a ρ A with
  | .nx ρ A => b ρ A
  | r => r
def sExpr (f : FE) : FS := fun ρ A => (f ρ A).fs ρ fun _ A => .nx ρ A
def sRet (f : FE) : FS := fun ρ A => (f ρ A).fs ρ fun v A => .rt v A
def sRetN : FS := fun _ A => .rt .non A
def sIf (c : FB) (a b : FS) : FS := fun ρ A => (c ρ A).fs ρ fun x A => match x with
  | true => a ρ A
  | false => b ρ A
def sSet (i : Nat) (f : FE) : FS := fun ρ A => (f ρ A).fs ρ fun v A => .nx (ρ.set i (some v)) A
section
variable {X : Cx} {W : Wi} {st : Stmt} {rest a b : List Stmt} {c e : Expr} {f : FE} {gc : FB} {fa fb : FS} {pos pos' : Pos}
theorem mss_nil : PSs X [] (tMS X.K W sNext) := pss_nil.imp fun D σ H ⟨ι, A, ρ, S, E, h⟩ => h ι H σ (Ext.refl _ _) S E
theorem ms_pass : PS X (.Pass pos) (tMS X.K W sNext) := ps_pass.imp fun D σ H ⟨ι, A, ρ, S, E, h⟩ => h ι H σ (Ext.refl _ _) S E
theorem ms_break : PS X (.Break pos) (tMS X.K W sBreak) := ps_break.imp fun D σ H ⟨ι, A, ρ, S, E, h⟩ => h ι H σ (Ext.refl _ _) S E
theorem ms_continue : PS X (.Continue pos) (tMS X.K W sCont) := ps_continue.imp fun D σ H ⟨ι, A, ρ, S, E, h⟩ => h ι H σ (Ext.refl _ _) S E
theorem ms_bad : PS X st (tMS X.K W sBad) := ps_never.imp fun D σ H ⟨ι, A, ρ, S, E, h⟩ => h
theorem mss_cons (h1 : PS X st (tMS X.K W fa)) (h2 : PSs X rest (tMS X.K W fb)) : PSs X (st :: rest) (tMS X.K W (sSeq fa fb)) := (pss_cons h1 h2).imp fun D σ H ⟨ι, A, ρ, S, E, h⟩ => by
  refine ⟨ι, A, ρ, S, E, ?_⟩
  unfold sSeq at h
  cases e : fa ρ A with
  | nx ρ' A' =>
    rw [e] at h
    exact fun ι' H' σ' x s r => ⟨ι', A', ρ', s, r, RPS.ext x h⟩
  | rt v A' => rw [e] at h; exact h
  | bk ρ' A' => rw [e] at h; exact h
  | ct ρ' A' => rw [e] at h; exact h
  | err c fs ρ' A' => rw [e] at h; exact h
  | bad => rw [e] at h; exact h
theorem mss_one (h1 : PS X st (tMS X.K W fa)) : PSs X [st] (tMS X.K W fa) := pss_one h1
theorem ms_expr (he : PE X e (tM X.K W f)) (hs : swapsWith e none pos.line X.env = pure false := by rfl) : PS X (.Expr e pos) (tMS X.K W (sExpr f)) := (ps_expr he hs).imp fun D σ H ⟨ι, A, ρ, S, E, h⟩ => RPS_bind S E h fun ι1 A1 x u H1 e1 ⟨S1, r1⟩ h1 => h1 ι1 H1 σ (Ext.refl _ _) S1 (E.ext e1)
theorem ms_ret (he : PE X e (tM X.K W f)) : PS X (.Return (some e) pos) (tMS X.K W (sRet f)) := (ps_ret he).imp fun D σ H ⟨ι, A, ρ, S, E, h⟩ => RPS_bind S E h fun ι1 A1 x u H1 e1 ⟨S1, r1⟩ h1 => h1 ι1 H1 u (Ext.refl _ _) S1 r1
theorem ms_retN : PS X (.Return none pos) (tMS X.K W sRetN) := ps_retN.imp fun D σ H ⟨ι, A, ρ, S, E, h⟩ => h ι H .non (Ext.refl _ _) S .non
theorem ms_if (hc : PT X c (tMB X.K W gc)) (ha : PSs X a (tMS X.K W fa)) (hb : PSs X b (tMS X.K W fb)) : PS X (.If c a b pos) (tMS X.K W (sIf gc fa fb)) := (ps_if hc ha hb).imp fun D σ H ⟨ι, A, ρ, S, E, h⟩ => RPS_bind S E h fun ι1 A1 x u H1 e1 ⟨S1, r1⟩ h1 => by
  cases r1
  cases x with
  | true => exact ⟨ι1, A1, ρ, S1, E.ext e1, h1⟩
  | false => exact ⟨ι1, A1, ρ, S1, E.ext e1, h1⟩
theorem ms_set {i : Nat} {x : Str} (hN : X.N.Nodup) (he : PE X e (tM X.K W f)) (hi : X.N[i]? = some x := by rfl) (hx : Loc X.env.scope x := by first | exact Or.inl rfl | exact Or.inr rfl) (hs : swapsWith e (some (.Name x pos')) pos.line X.env = pure false := by rfl) (hf : X.fn x = true ∨ X.env.scope.names.lookup x = some .local := by first | exact .inl rfl | exact .inr rfl | assumption) :
    PS X (.Assign [.Name x pos'] e pos) (tMS X.K W (sSet i f)) := (ps_set hN hi hx he hs hf).imp fun D σ H ⟨ι, A, ρ, S, E, h⟩ => RPS_bind S E h fun ι1 A1 x u H1 e1 ⟨S1, r1⟩ h1 => h1 ι1 H1 _ (Ext.refl _ _) S1 ((E.ext e1).set i r1)
end
/-! ### targets -/
def setAll (σ : L2.St) : List Nat → List V → L2.St
  | i :: is, u :: us => setAll (σ.set i (some u)) is us
  | _, _ => σ
def setAllM (ρ : ME) : List Nat → List MV → ME
  | i :: is, u :: us => setAllM (ρ.set i (some u)) is us
  | _, _ => ρ
theorem setAll_append : ∀ {is js : List Nat} {us ws : List V} {σ : L2.St}, us.length = is.length → setAll σ (is ++ js) (us ++ ws) = setAll (setAll σ is us) js ws
  | [], js, [], ws, σ, _ => rfl
  | i :: is, js, u :: us, ws, σ, h => setAll_append (is := is) (us := us) (by simpa using h)
  | [], _, _ :: _, _, _, h => by simp at h
  | _ :: _, _, [], _, _, h => by simp at h
theorem REnv.setAll {W : Wi} {K : PySem.W.Frag} {ι : Io} {H : Hp} : ∀ {is : List Nat} {ms : List MV} {us : List V} {ρ : ME} {σ : L2.St}, REnv W K ι H ρ σ → RVs K ι H ms us → REnv W K ι H (setAllM ρ is ms) (Mv.setAll σ is us)
  | [], _, _, _, _, r, q => by cases q <;> exact r
  | i :: is, _, _, ρ, σ, r, .nil => r
  | i :: is, _, _, ρ, σ, r, .cons a b => REnv.setAll (is := is) (r.set i a) b
/-- a target: its slots, how it takes a value apart -/
def tMG (K : PySem.W.Frag) (is : List Nat) (g : MV → Option (List MV)) : TG := fun v σ H Q => ∃ ι A m ms, Sim K ι A H ∧ RV K ι H m v ∧ g m = some ms ∧ ∀ us, RVs K ι H ms us → us.length = is.length → Q (setAll σ is us) H
def tMGs (K : PySem.W.Frag) (is : List Nat) (g : List MV → Option (List MV)) : TGs := fun v σ H Q => ∃ ι A m ms, Sim K ι A H ∧ RVs K ι H m v ∧ g m = some ms ∧ ∀ us, RVs K ι H ms us → us.length = is.length → Q (setAll σ is us) H
abbrev TgM (X : Cx) (tg : Expr) (is : List Nat) (g : MV → Option (List MV)) : Prop := PG X tg (tMG X.K is g)
abbrev TgsM (X : Cx) (tgs : List Expr) (is : List Nat) (g : List MV → Option (List MV)) : Prop := PGs X tgs (tMGs X.K is g)
theorem _root_.L2.PG.imp {X : Cx} {tg : Expr} {t t' : TG} (h : PG X tg t) (i : ∀ v σ H Q, t' v σ H Q → t v σ H Q) : PG X tg t' := ⟨fun pins s σ H v u Q I r q => h.run pins s σ H v u Q I r (i v σ H Q q)⟩
theorem _root_.L2.PGs.imp {X : Cx} {tg : List Expr} {t t' : TGs} (h : PGs X tg t) (i : ∀ v σ H Q, t' v σ H Q → t v σ H Q) : PGs X tg t' := ⟨fun pins s σ H v u Q I r q => h.run pins s σ H v u Q I r (i v σ H Q q)⟩
def gNm : MV → Option (List MV) := fun m => some [m]
def gNilM : List MV → Option (List MV)
  | [] => some []
  | _ => none
def gConsM (g : MV → Option (List MV)) (gs : List MV → Option (List MV)) : List MV → Option (List MV)
  | m :: ms => match g m, gs ms with
    | some a, some b => some (a ++ b)
    | _, _ => none
  | [] => none
def gTupM (n : Nat) (gs : List MV → Option (List MV)) : MV → Option (List MV) := fun v => match tupOf v with
  | some ms => if ms.length = n then gs ms else none
  | none => none
section
variable {X : Cx} {pos : Pos}
theorem tg_name {i : Nat} {x : Str} (hN : X.N.Nodup) (hi : X.N[i]? = some x := by rfl) (hx : Loc X.env.scope x := by first | exact Or.inl rfl | exact Or.inr rfl) (hf : X.fn x = true ∨ X.env.scope.names.lookup x = some .local := by first | exact .inl rfl | exact .inr rfl | assumption) : TgM X (.Name x pos) [i] gNm :=
  (pg_name hN hi hx hf).imp fun v σ H Q ⟨ι, A, m, ms, S, r, e, k⟩ => by
    cases e
    exact k [_] (.one r) rfl
theorem tgs_nil : TgsM X [] [] gNilM := pgs_nil.imp fun v σ H Q ⟨ι, A, m, ms, S, r, e, k⟩ => by
  cases r with
  | nil =>
    cases e
    exact ⟨rfl, k [] .nil rfl⟩
  | cons _ _ => cases e
theorem tgs_cons {e : Expr} {es : List Expr} {is js : List Nat} {g : MV → Option (List MV)} {gs : List MV → Option (List MV)} (h1 : TgM X e is g) (h2 : TgsM X es js gs) (ha : (assignEach (e :: es) X.env).map (·.2) = assign e X.env :: (assignEach es X.env).map (·.2) := by rfl) : TgsM X (e :: es) (is ++ js) (gConsM g gs) := (pgs_cons h1 h2 ha).imp fun v σ H Q ⟨ι, A, m, ms, S, r, e, k⟩ => by
  cases r with
  | nil => cases e
  | @cons mv mvs x xs a b =>
    have e : (match g mv, gs mvs with
      | some a, some b => some (a ++ b)
      | _, _ => none) = some ms := e
    split at e
    · rename_i m1 m2 e1 e2
      cases e
      refine ⟨x, xs, rfl, ι, A, mv, m1, S, a, e1, fun us hr hl => ⟨ι, A, mvs, m2, S, b, e2, fun ws hw hl2 => ?_⟩⟩
      have := k (us ++ ws) (hr.append hw) (by simp [hl, hl2])
      rw [setAll_append hl] at this
      exact this
    · cases e
theorem tg_tup {es : List Expr} {k n : Nat} {is : List Nat} {gs : List MV → Option (List MV)} (hc : X.calm = true) (h : TgsM X es is gs) (hn : (assignEach es X.env).length = n := by rfl) (hst : (assignEach es X.env).findIdx? (·.1) = none := by rfl) : TgM X (.Tuple es k pos) is (gTupM n gs) := (pg_tup hc h hn hst).imp fun v σ H Q ⟨ι, A, m, ms, S, r, e, k⟩ => by
  unfold gTupM at e
  split at e
  · rename_i ev
    split at e
    · rename_i hl
      obtain ⟨a, xs, rfl, sq, rs⟩ := r.sqT ev
      exact ⟨a, xs, rfl, sq, by rw [← rs.length]; exact hl, ι, A, _, ms, S, rs, e, k⟩
    · cases e
  · cases e
end
def sAsg (f : FE) (is : List Nat) (g : MV → Option (List MV)) : FS := fun ρ A => (f ρ A).fs ρ fun v A => match g v with
  | some ms => .nx (setAllM ρ is ms) A
  | none => .bad
theorem ms_asg {X : Cx} {W : Wi} {tg e : Expr} {f : FE} {is : List Nat} {g : MV → Option (List MV)} {pos : Pos} (he : PE X e (tM X.K W f)) (hg : TgM X tg is g) (hs : swapsWithSole [tg] e pos.line X.env = pure false := by rfl) (hw : swappedStores [tg] e X.env = pure none := by rfl) (h1 : (assignEach [tg] X.env).map (·.2) = [assign tg X.env] := by rfl) :
    PS X (.Assign [tg] e pos) (tMS X.K W (sAsg f is g)) := by
  refine (ps_asg he hg hs hw h1).imp fun D σ H ⟨ι, A, ρ, S, E, h⟩ => RPS_bind S E h fun ι1 A1 x u H1 e1 ⟨S1, r1⟩ h1 => ?_
  cases eg : g x with
  | none =>
    rw [eg] at h1
    exact h1.elim
  | some ms =>
    rw [eg] at h1
    exact ⟨ι1, A1, x, ms, S1, r1, eg, fun us hr _ => h1 ι1 H1 _ (Ext.refl _ _) S1 ((E.ext e1).setAll hr)⟩
/-! ### loops -/
/-- what is known stays known, locks too -/
structure Lx (ι : Io) (H : Hp) (ι' : Io) (H' : Hp) : Prop where
  le : Le ι H ι' H'
  frz : ∀ p o u, H p = some (.frz o u) → H' p = some (.frz o u)
theorem Ext.lx {ι ι' : Io} {H H' : Hp} (e : Ext ι H ι' H') : Lx ι H ι' H' := ⟨e.le, e.frz⟩
theorem Lx.trans {ι ι' ι'' : Io} {H H' H'' : Hp} (a : Lx ι H ι' H') (b : Lx ι' H' ι'' H'') : Lx ι H ι'' H'' := ⟨a.le.trans b.le, fun p o u h => b.frz p o u (a.frz p o u h)⟩
/-- the iterator gives the values vs, one by one -/
def ItOk (K : PySem.W.Frag) (ι : Io) (H : Hp) (vs : List MV) (J : It) : Prop := ∀ ι2 A2 H2, Lx ι H ι2 H2 → Sim K ι2 A2 H2 → ∀ i : Nat,
  (∀ v, vs[i]? = some v → J.go i H2 ∧ ∀ x H3, J.yld i H2 x H3 → Ext ι2 H2 ι2 H3 ∧ Sim K ι2 A2 H3 ∧ RV K ι2 H3 v x) ∧ (vs.length ≤ i → J.stop i H2)
abbrev rI (K : PySem.W.Frag) : Rel (List MV) It := fun _ _ ι' H' A' vs J => Sim K ι' A' H' ∧ ItOk K ι' H' vs J
abbrev tMI (K : PySem.W.Frag) (W : Wi) (f : FL) : TI := tG K W (rI K) f
theorem _root_.L2.PI.imp {X : Cx} {tg e : Expr} {t t' : TI} (h : PI X tg e t) (i : ∀ σ H R, t' σ H R → t σ H R) : PI X tg e t' := ⟨fun pins s σ H R I q => h.run pins s σ H R I (i σ H R q)⟩
def runL (body : MV → FS) : List MV → FS
  | [], ρ, A => .nx ρ A
  | x :: xs, ρ, A => match body x ρ A with
    | .nx ρ' A' => runL body xs ρ' A'
    | .ct ρ' A' => runL body xs ρ' A'
    | .bk ρ' A' => .nx ρ' A'
    | r => r
def turn (is : List Nat) (g : MV → Option (List MV)) (body : FS) : MV → FS := fun x ρ A => match g x with
  | some ms => body (setAllM ρ is ms) A
  | none => .bad
def sFor (fi : FL) (is : List Nat) (g : MV → Option (List MV)) (body : FS) : FS := fun ρ A => (fi ρ A).fs ρ fun xs A => runL (turn is g body) xs ρ A
theorem ms_for {X : Cx} {W : Wi} {tg iter : Expr} {body : List Stmt} {fi : FL} {is : List Nat} {g : MV → Option (List MV)} {fb : FS} {pos : Pos} (hp : PassesOwn (model X.prog X.w) X.A X.env X.xe) (hc : X.calm = true) (hi : PI X tg iter (tMI X.K W fi)) (hg : TgM X tg is g) (hb : PSs X body (tMS X.K W fb))
    (hs : ∀ x, foldedSetIterable iter X.env x = pure x := by intro _; rfl) : PS X (.For tg iter body [] pos) (tMS X.K W (sFor fi is g fb)) := by
  refine (ps_for hp hc hi hg hb hs).imp fun D σ H ⟨ι, A, ρ, S, E, h⟩ => RPS_bind S E h fun ι1 A1 vs J H1 e1 ⟨S1, ok⟩ h1 => ?_
  refine ⟨fun i m σ H => ∃ ι A ρ, Ext ι1 H1 ι H ∧ Sim X.K ι A H ∧ REnv W X.K ι H ρ σ ∧ m = vs.length - i ∧ i ≤ vs.length ∧ RPS X.K W D ι H (runL (turn is g fb) (vs.drop i) ρ A), ⟨_, ι1, A1, ρ, Ext.refl _ _, S1, E.ext e1, rfl, Nat.zero_le _, h1⟩, fun i m σ H ⟨ι, A, ρ, e, S, E, em, hl, h⟩ => ?_⟩
  obtain ⟨k1, k2⟩ := ok ι A H e.lx S i
  by_cases hi : i < vs.length
  · obtain ⟨v, hv⟩ : ∃ v, vs[i]? = some v := ⟨_, List.getElem?_eq_getElem hi⟩
    obtain ⟨go, yl⟩ := k1 v hv
    have ed : vs.drop i = v :: vs.drop (i + 1) := by
      rw [List.drop_eq_getElem_cons hi]
      rw [List.getElem?_eq_getElem hi] at hv
      cases hv
      rfl
    rw [ed] at h
    refine .inr ⟨go, fun σ' H' => ∃ ι' A' ρ', Ext ι1 H1 ι' H' ∧ Sim X.K ι' A' H' ∧ REnv W X.K ι' H' ρ' σ' ∧ RPS X.K W D ι' H' (runL (turn is g fb) (vs.drop (i + 1)) ρ' A'), fun σ' H' ⟨ι', A', ρ', a, b, c, d⟩ => ⟨vs.length - (i + 1), by omega, ι', A', ρ', a, b, c, rfl, hi, d⟩, fun x H2 y => ?_⟩
    obtain ⟨e2, S2, r2⟩ := yl x H2 y
    have h2 : RPS X.K W D ι H2 (runL (turn is g fb) (v :: vs.drop (i + 1)) ρ A) := RPS.ext e2 h
    unfold runL turn at h2
    cases eg : g v with
    | none =>
      rw [eg] at h2
      exact h2.elim
    | some ms =>
      rw [eg] at h2
      refine ⟨ι, A, v, ms, S2, r2, eg, fun us hr hl2 => ⟨ι, A, _, S2, (E.ext e2).setAll hr, ?_⟩⟩
      dsimp only at h2
      cases ef : fb (setAllM ρ is ms) A with
      | nx ρ' A' =>
        rw [ef] at h2
        exact fun ι' H' σ' x s r => ⟨ι', A', ρ', (e.trans e2).trans x, s, r, RPS.ext x h2⟩
      | ct ρ' A' =>
        rw [ef] at h2
        exact fun ι' H' σ' x s r => ⟨ι', A', ρ', (e.trans e2).trans x, s, r, RPS.ext x h2⟩
      | bk ρ' A' =>
        rw [ef] at h2
        exact h2
      | rt v A' =>
        rw [ef] at h2
        exact h2
      | err c fs ρ' A' =>
        rw [ef] at h2
        exact h2
      | bad =>
        rw [ef] at h2
        exact h2
  · refine .inl ⟨k2 (by omega), ?_⟩
    rw [List.drop_eq_nil_of_le (by omega)] at h
    exact h ι H σ (Ext.refl _ _) S E
/-! ### what is walked -/
def iSeq (f : FE) : FL := fun ρ A => (f ρ A).bind fun v A => match tupOf v with
  | some xs => .ok xs A
  | none => .bad
def iFrz (f : FE) : FL := fun ρ A => (f ρ A).bind fun v A => match v with
  | .lst xs => .ok xs A
  | _ => .bad
theorem fp_of_sqT {K : PySem.W.Frag} {ι ι2 : Io} {H H2 : Hp} {a : Addr} {xs : List V} (l : Le ι H ι2 H2) (h : (ι.out a ∧ Rd H a (.tup xs)) ∨ SqT K H0 a xs) : SqT K H2 a xs := by
  rcases h with h | h
  · exact .inl (l.rd h.1 h.2).2
  · exact sqT0 h
theorem fp_of_sqL {K : PySem.W.Frag} {ι ι2 : Io} {H H2 : Hp} {a : Addr} {xs : List V} (l : Le ι H ι2 H2) (h : ι.out a ∧ Rd H a (.lst xs)) : SqL K H2 a xs := .inl (l.rd h.1 h.2).2
section
variable {X : Cx} {W : Wi} {tg e : Expr} {f : FE}
theorem mi_tup (he : PE X e (tM X.K W f)) : PI X tg e (tMI X.K W (iSeq f)) := (pi_tup he).imp fun σ H R ⟨ι, A, ρ, S, E, h⟩ => RP_bind S E h fun ι1 A1 v u H1 e1 ⟨S1, r1⟩ h1 => by
  cases q : tupOf v with
  | none => rw [q] at h1; exact h1.elim
  | some vs =>
    rw [q] at h1
    obtain ⟨a, xs, rfl, hh, rs⟩ := r1.tupR q
    refine ⟨a, rfl, ⟨xs, fp_of_sqT (Le.refl _ _) hh⟩, h1.ok0 ⟨S1, fun ι2 A2 H2 l S2 i => ⟨fun v hv => ?_, fun hl => ⟨xs, fp_of_sqT l.le hh, by rw [← rs.length]; exact hl⟩⟩⟩⟩
    obtain ⟨x, hx, rx⟩ := rs.get hv
    refine ⟨⟨xs, x, fp_of_sqT l.le hh, hx⟩, fun y H3 ⟨eq, hy⟩ => ?_⟩
    subst eq
    have := hy xs (fp_of_sqT l.le hh)
    rw [hx] at this
    cases this
    exact ⟨Ext.refl _ _, S2, rx.le l.le⟩
theorem mi_frz (he : PE X e (tM X.K W f)) : PI X tg e (tMI X.K W (iFrz f)) := (pi_list he).imp fun σ H R ⟨ι, A, ρ, S, E, h⟩ => RP_bind S E h fun ι1 A1 v u H1 e1 ⟨S1, r1⟩ h1 => by
  cases r1 with
  | @lst a vs xs hh rs =>
    refine ⟨a, rfl, ⟨xs, fp_of_sqL (Le.refl _ _) hh⟩, h1.ok0 ⟨S1, fun ι2 A2 H2 l S2 i => ⟨fun v hv => ?_, fun hl => ⟨xs, fp_of_sqL l.le hh, by rw [← rs.length]; exact hl⟩⟩⟩⟩
    obtain ⟨x, hx, rx⟩ := rs.get hv
    refine ⟨⟨xs, x, fp_of_sqL l.le hh, hx⟩, fun y H3 ⟨eq, hy⟩ => ?_⟩
    subst eq
    have := hy xs (fp_of_sqL l.le hh)
    rw [hx] at this
    cases this
    exact ⟨Ext.refl _ _, S2, rx.le l.le⟩
  | _ => exact h1.elim
end
/-- range(n), range(a, b) -/
def rangeM (lo hi : Int) : List MV := (List.range (hi - lo).toNat).map fun (i : Nat) => .int (lo + i)
def iRng1 (g : FL) : FL := fun ρ A => (g ρ A).bind fun vs A => match vs with
  | [.int j] => if -1000000 ≤ j ∧ j ≤ 1000000 then .ok (rangeM 0 j) A else .bad
  | _ => .bad
def iRng2 (g : FL) : FL := fun ρ A => (g ρ A).bind fun vs A => match vs with
  | [.int i, .int j] => if -1000000 ≤ i ∧ i ≤ 1000000 ∧ -1000000 ≤ j ∧ j ≤ 1000000 then .ok (rangeM i j) A else .bad
  | _ => .bad
theorem itOk_rng {K : PySem.W.Frag} {ι : Io} {H : Hp} (lo hi : Int) : ItOk K ι H (rangeM lo hi) (Itr lo (hi - lo).toNat) := fun ι2 A2 H2 l S2 i => by
  refine ⟨fun v hv => ?_, fun hl => ?_⟩
  · unfold rangeM at hv
    rw [List.getElem?_map] at hv
    cases e : (List.range (hi - lo).toNat)[i]? with
    | none =>
      rw [e] at hv
      cases hv
    | some j =>
      rw [e] at hv
      cases hv
      obtain ⟨h1, h2⟩ := List.getElem?_eq_some_iff.mp e
      rw [List.getElem_range] at h2
      subst h2
      rw [List.length_range] at h1
      refine ⟨h1, fun x H3 ⟨e1, e2⟩ => ?_⟩
      subst e1 e2
      exact ⟨Ext.refl _ _, S2, .int _⟩
  · unfold rangeM at hl
    rw [List.length_map, List.length_range] at hl
    exact hl
section
variable {X : Cx} {W : Wi} {tg a b : Expr} {g : FL} {p pos : Pos}
theorem mi_range1 (hm : X.mg "range" = none) (ha : PA X [a] (tMA X.K W g)) (hg : Gl X "range" := by rfl) (hs : starEach [a] X.env = [(false, eval a X.env)] := by rfl) : PI X tg (.Call (.Name "range" p) [a] [] pos) (tMI X.K W (Mv.iRng1 g)) :=
  (pi_range1 hg hm ha hs).imp fun σ H R ⟨ι, A, ρ, S, E, h⟩ => RP_bind S E h fun ι1 A1 vs us H1 e1 ⟨S1, r1⟩ h1 => by
    split at h1
    · cases r1 with
      | cons q qs =>
        cases q
        cases qs
        split at h1
        · rename_i hb
          refine ⟨_, rfl, by omega, by omega, ?_⟩
          have := h1.ok0 ⟨S1, itOk_rng 0 _⟩
          rw [Int.sub_zero] at this
          exact this
        · exact h1.elim
    · exact h1.elim
theorem mi_range2 (hm : X.mg "range" = none) (ha : PA X [a, b] (tMA X.K W g)) (hg : Gl X "range" := by rfl) (hs : starEach [a, b] X.env = [(false, eval a X.env), (false, eval b X.env)] := by rfl) (hs2 : starEach [b] X.env = [(false, eval b X.env)] := by rfl) : PI X tg (.Call (.Name "range" p) [a, b] [] pos) (tMI X.K W (Mv.iRng2 g)) :=
  (pi_range2 hg hm ha hs hs2).imp fun σ H R ⟨ι, A, ρ, S, E, h⟩ => RP_bind S E h fun ι1 A1 vs us H1 e1 ⟨S1, r1⟩ h1 => by
    split at h1
    · cases r1 with
      | cons q qs => cases qs with
        | cons q2 qs2 =>
          cases q
          cases q2
          cases qs2
          split at h1
          · rename_i hb
            exact ⟨_, _, rfl, by omega, h1.ok0 ⟨S1, itOk_rng _ _⟩⟩
          · exact h1.elim
    · exact h1.elim
end
end Mv
/-! Mv3: comprehensions, locks, more that is walked -/
namespace Mv
open PySem PySem.Spec PyProof.Rows L2 Fk
/-- nothing is let out -/
abbrev W0 : Wi := Wi.of fun _ _ _ _ => False
def wipeM (ρ : ME) : List Nat → ME
  | [] => ρ
  | v :: vs => (wipeM ρ vs).set v none
abbrev FQ := ME → AH → Rs (List MV)
def qElt (t : FB) (e : FE) : FQ := fun ρ A => match t ρ A with
  | .ok true A1 => (match e ρ A1 with
    | .ok v A2 => .ok [v] A2
    | _ => .bad)
  | .ok false A1 => .ok [] A1
  | _ => .bad
def qRun (is : List Nat) (g : MV → Option (List MV)) (q : FQ) : List MV → FQ
  | [], _, A => .ok [] A
  | x :: xs, ρ, A => match g x with
    | none => .bad
    | some ms => match q (setAllM ρ is ms) A with
      | .ok vs A1 => (match qRun is g q xs ρ A1 with
        | .ok ws A2 => .ok (vs ++ ws) A2
        | _ => .bad)
      | _ => .bad
def qIn (t : FB) (fi : FL) (vs1 is : List Nat) (g : MV → Option (List MV)) (q : FQ) : FQ := fun ρ A => match t ρ A with
  | .ok true A1 => (match fi ρ A1 with
    | .ok xs A2 => qRun is g q xs (wipeM ρ vs1) A2
    | _ => .bad)
  | .ok false A1 => .ok [] A1
  | _ => .bad
def aLc (fi : FL) (own is : List Nat) (g : MV → Option (List MV)) (q : FQ) : FL := fun ρ A => (fi ρ A).bind fun xs A => match qRun is g q xs (wipeM ρ own) A with
  | .ok vs A' => if szL vs then .ok vs A' else .bad
  | _ => .bad
def bYes : FB := fun _ A => .ok true A
section
variable {W : Wi} {K : PySem.W.Frag} {ι ι' : Io} {H H' : Hp}
theorem REnv.wipe {w : WX} {ρ : ME} {σ : L2.St} (r : REnv (Wi.of w) K ι H ρ σ) : ∀ vs : List Nat, REnv (Wi.of w) K ι H (wipeM ρ vs) (L2.wipe σ vs)
  | [] => r
  | v :: vs => (REnv.wipe r vs).unset v none
theorem wipe_setAll {σ : L2.St} {vs : List Nat} : ∀ {is : List Nat} {us : List V} {τ : L2.St}, (∀ i ∈ is, i ∈ vs) → τ.length = σ.length → (∀ i, i ∉ vs → τ[i]? = σ[i]?) → L2.wipe (setAll τ is us) vs = L2.wipe σ vs := by
  have base : ∀ {τ : L2.St}, τ.length = σ.length → (∀ i, i ∉ vs → τ[i]? = σ[i]?) → L2.wipe τ vs = L2.wipe σ vs := fun {τ} hl hi => by
    apply List.ext_getElem?
    intro j
    by_cases hj : j ∈ vs
    · have : ∀ {τ' : L2.St} {ws : List Nat}, j ∈ ws → τ'.length = σ.length → (L2.wipe τ' ws)[j]? = if j < σ.length then some none else none := by
        intro τ' ws
        induction ws with
        | nil => intro h; cases h
        | cons w ws ih =>
          intro h hl'
          show ((L2.wipe τ' ws).set w none)[j]? = _
          by_cases hw : w = j
          · subst hw
            by_cases hlt : w < σ.length
            · rw [List.getElem?_set_self (by rw [wipe_length, hl']; exact hlt), if_pos hlt]
            · rw [List.getElem?_eq_none (by rw [List.length_set, wipe_length, hl']; omega), if_neg hlt]
          · rw [List.getElem?_set_ne hw]
            exact ih ((List.mem_cons.mp h).resolve_left fun z => hw z.symm) hl'
      rw [this hj hl, this hj rfl]
    · rw [wipe_out hj, wipe_out hj]
      exact hi j hj
  intro is
  induction is with
  | nil =>
    intro us τ _ hl hi
    exact base hl hi
  | cons i is ih =>
    intro us τ hs hl hi
    cases us with
    | nil => exact base hl hi
    | cons u us =>
      show L2.wipe (setAll (τ.set i (some u)) is us) vs = _
      refine ih (fun j hj => hs j (List.mem_cons_of_mem _ hj)) (by rw [List.length_set]; exact hl) fun j hj => ?_
      have : i ≠ j := fun z => hj (by rw [← z]; exact hs i (List.mem_cons_self ..))
      rw [List.getElem?_set_ne this]
      exact hi j hj
theorem wipe_wipe {σ : L2.St} {vs is : List Nat} {us : List V} (h : ∀ i ∈ is, i ∈ vs) : L2.wipe (setAll (L2.wipe σ vs) is us) vs = L2.wipe σ vs := wipe_setAll h (wipe_length _ _) fun i hi => wipe_out hi
theorem ItOk.lx {vs : List MV} {J : It} (h : ItOk K ι H vs J) (l : Lx ι H ι' H') : ItOk K ι' H' vs J := fun ι2 A2 H2 l2 S2 i => h ι2 A2 H2 (l.trans l2) S2 i
theorem Lx.refl (ι : Io) (H : Hp) : Lx ι H ι H := (Ext.refl ι H).lx
end
/-- a comprehension runs: its list is at D, hidden; acc is made so far -/
structure LcS (K : PySem.W.Frag) (ι1 : Io) (H1 : Hp) (D : Addr) (tr : List Addr) (H : Hp) (A : AH) (acc : List MV) : Prop where
  e : Ext ι1 H1 ⟨tr, ι1.pv⟩ H
  S : Sim K ⟨tr, D :: ι1.pv⟩ A H
  nt : D ∉ tr
  ex : ∃ xs, H D = some (.lst xs) ∧ RVs K ⟨tr, D :: ι1.pv⟩ H acc xs
section
variable {K : PySem.W.Frag} {ι1 ι2 : Io} {H1 H H2 : Hp} {D : Addr} {tr : List Addr} {A A2 : AH} {acc : List MV}
theorem LcS.go (L : LcS K ι1 H1 D tr H A acc) (x : Ext ⟨tr, D :: ι1.pv⟩ H ι2 H2) (S2 : Sim K ι2 A2 H2) : ι2 = ⟨ι2.tr, D :: ι1.pv⟩ ∧ LcS K ι1 H1 D ι2.tr H2 A2 acc := by
  obtain ⟨tr2, pv2⟩ := ι2
  have ep : pv2 = D :: ι1.pv := x.pv
  subst ep
  obtain ⟨xs, h1, h2⟩ := L.ex
  refine ⟨rfl, L.e.trans ⟨x.pre, rfl, x.new, x.keep, x.frz⟩, S2, x.out L.nt h1, xs, x.keep _ _ L.nt h1, h2.ext x⟩
theorem Lx.priv {ι : Io} {a : Addr} {o : HO} (h : a ∈ ι.pv) (nf : NoFrz H a) : Lx ι H ι (upd H a o) := ⟨Le.priv h, fun p ob u e => by
  rw [upd_ne (fun z => nf ob u (by rw [← z]; exact e))]
  exact e⟩
theorem nofrz_lst {xs : List V} (h : H D = some (.lst xs)) : NoFrz H D := fun o u e => by
  rw [h] at e
  cases e
theorem LcS.app (L : LcS K ι1 H1 D tr H A acc) (hf : H1 D = none) {m : MV} {y : V} (r : RV K ⟨tr, D :: ι1.pv⟩ H m y) : ∃ xs, H D = some (.lst xs) ∧ xs.length = acc.length ∧ LcS K ι1 H1 D tr (upd H D (.lst (xs ++ [y]))) A (acc ++ [m]) ∧ Lx ⟨tr, D :: ι1.pv⟩ H ⟨tr, D :: ι1.pv⟩ (upd H D (.lst (xs ++ [y]))) := by
  obtain ⟨xs, h1, h2⟩ := L.ex
  have l : Lx ⟨tr, D :: ι1.pv⟩ H ⟨tr, D :: ι1.pv⟩ (upd H D (.lst (xs ++ [y]))) := Lx.priv (List.mem_cons_self ..) (nofrz_lst h1)
  exact ⟨xs, h1, h2.length.symm, ⟨L.e.mutNew hf, L.S.priv (List.mem_cons_self ..) L.nt, L.nt, _, upd_same, (h2.append (.one r)).le l.le⟩, l⟩
end
/-- what a turn's reading wants -/
def BodyOk (K : PySem.W.Frag) (ι1 : Io) (H1 : Hp) (D : Addr) (q : FQ) (B : L2.St → Hp → (Hp → Prop) → Prop) : Prop := ∀ {tr : List Addr} {H : Hp} {A A' : AH} {acc vs : List MV} {ρ : ME} {σ : L2.St} {Nx : Hp → Prop}, LcS K ι1 H1 D tr H A acc → REnv W0 K ⟨tr, D :: ι1.pv⟩ H ρ σ → q ρ A = .ok vs A' → (acc ++ vs).length ≤ 1000000 →
  (∀ tr' H', LcS K ι1 H1 D tr' H' A' (acc ++ vs) → Lx ⟨tr, D :: ι1.pv⟩ H ⟨tr', D :: ι1.pv⟩ H' → Nx H') → B σ H Nx
section
variable {K : PySem.W.Frag} {ι1 : Io} {H1 : Hp} {D : Addr}
theorem lc_loop {J : It} {xs ws : List MV} {is vs : List Nat} {g : MV → Option (List MV)} {q : FQ} {B : L2.St → Hp → (Hp → Prop) → Prop} {σ : L2.St} {ρw : ME} {tr : List Addr} {H : Hp} {A A' : AH} {acc : List MV} {Qd : Hp → Prop}
    (ok : ItOk K ⟨tr, D :: ι1.pv⟩ H xs J) (hsub : ∀ i ∈ is, i ∈ vs) (L : LcS K ι1 H1 D tr H A acc) (E : REnv W0 K ⟨tr, D :: ι1.pv⟩ H ρw (L2.wipe σ vs)) (hq : qRun is g q xs ρw A = .ok ws A') (hsz : (acc ++ ws).length ≤ 1000000) (hB : BodyOk K ι1 H1 D q B)
    (fin : ∀ tr' H', LcS K ι1 H1 D tr' H' A' (acc ++ ws) → Lx ⟨tr, D :: ι1.pv⟩ H ⟨tr', D :: ι1.pv⟩ H' → Qd H') :
    ∃ W : Nat → Nat → Hp → Prop, (∃ m, W 0 m H) ∧ ∀ i m H, W i m H → (J.stop i H ∧ Qd H) ∨ (J.go i H ∧ ∃ Nx : Hp → Prop, (∀ H', Nx H' → ∃ m', m' < m ∧ W (i + 1) m' H') ∧ ∀ x H', J.yld i H x H' → tMG K is g x (L2.wipe σ vs) H' fun σ2 H2 => L2.wipe σ2 vs = L2.wipe σ vs ∧ B σ2 H2 Nx) := by
  refine ⟨fun i m H2 => ∃ tr2 A2 acc2 ws2, LcS K ι1 H1 D tr2 H2 A2 acc2 ∧ Lx ⟨tr, D :: ι1.pv⟩ H ⟨tr2, D :: ι1.pv⟩ H2 ∧ qRun is g q (xs.drop i) ρw A2 = .ok ws2 A' ∧ acc2 ++ ws2 = acc ++ ws ∧ m = xs.length - i ∧ i ≤ xs.length, ⟨_, tr, A, acc, ws, L, Lx.refl _ _, hq, rfl, rfl, Nat.zero_le _⟩, fun i m H2 ⟨tr2, A2, acc2, ws2, L2, l2, hq2, ea, em, hl⟩ => ?_⟩
  obtain ⟨k1, k2⟩ := ok _ _ _ l2 L2.S i
  by_cases hi : i < xs.length
  · obtain ⟨v, hv⟩ : ∃ v, xs[i]? = some v := ⟨_, List.getElem?_eq_getElem hi⟩
    obtain ⟨go, yl⟩ := k1 v hv
    have ed : xs.drop i = v :: xs.drop (i + 1) := by
      rw [List.drop_eq_getElem_cons hi]
      rw [List.getElem?_eq_getElem hi] at hv
      cases hv
      rfl
    rw [ed] at hq2
    unfold qRun at hq2
    cases eg : g v with
    | none =>
      rw [eg] at hq2
      cases hq2
    | some ms =>
      rw [eg] at hq2
      dsimp only at hq2
      cases ef : q (setAllM ρw is ms) A2 with
      | bad => rw [ef] at hq2; cases hq2
      | err c fs B => rw [ef] at hq2; cases hq2
      | ok us A3 =>
        rw [ef] at hq2
        dsimp only at hq2
        cases er : qRun is g q (xs.drop (i + 1)) ρw A3 with
        | bad => rw [er] at hq2; cases hq2
        | err c fs B => rw [er] at hq2; cases hq2
        | ok ws3 A4 =>
          rw [er] at hq2
          cases hq2
          refine .inr ⟨go, fun H' => ∃ tr3, LcS K ι1 H1 D tr3 H' A3 (acc2 ++ us) ∧ Lx ⟨tr, D :: ι1.pv⟩ H ⟨tr3, D :: ι1.pv⟩ H', fun H' ⟨tr3, L3, l3⟩ => ⟨xs.length - (i + 1), by omega, tr3, A3, acc2 ++ us, ws3, L3, l3, er, by rw [List.append_assoc]; exact ea, rfl, hi⟩, fun x H3 y => ?_⟩
          obtain ⟨e3, S3, r3⟩ := yl x H3 y
          obtain ⟨_, L3⟩ := L2.go e3 S3
          refine ⟨_, A2, v, ms, S3, r3, eg, fun zs hr hlz => ⟨wipe_wipe hsub, ?_⟩⟩
          refine hB (ρ := setAllM ρw is ms) L3 ((E.le (l2.trans e3.lx).le).setAll hr) ef ?_ fun tr' H' L' l' => ⟨tr', L', (l2.trans e3.lx).trans l'⟩
          rw [← ea] at hsz
          simp only [List.length_append] at hsz ⊢
          omega
  · refine .inl ⟨k2 (by omega), ?_⟩
    rw [List.drop_eq_nil_of_le (by omega)] at hq2
    cases hq2
    rw [List.append_nil] at ea
    subst ea
    exact fin _ _ L2 l2
theorem body_elt {ft : FB} {fe : FE} (hf : H1 D = none) : BodyOk K ι1 H1 D (qElt ft fe) fun σ2 H2 Nx => tMB K W0 ft σ2 H2 fun b H3 => if b = true then tM K W0 fe σ2 H3 fun y H4 => ∃ acc, H4 D = some (.lst acc) ∧ acc.length < sizeLine ∧ Nx (upd H4 D (.lst (acc ++ [y]))) else Nx H3 := by
  intro tr H A A' acc vs ρ σ Nx L E hq hsz k
  unfold qElt at hq
  refine ⟨_, A, ρ, L.S, E, ?_⟩
  cases et : ft ρ A with
  | bad => rw [et] at hq; cases hq
  | err c fs B => rw [et] at hq; cases hq
  | ok b A1 =>
    rw [et] at hq
    rintro ι2 H2 u x ⟨S2, rfl⟩
    obtain ⟨e2, L2⟩ := L.go x S2
    cases b with
    | false =>
      cases hq
      rw [List.append_nil] at k
      rw [e2] at x
      exact k _ _ L2 x.lx
    | true =>
      dsimp only at hq
      cases ee : fe ρ A1 with
      | bad => rw [ee] at hq; cases hq
      | err c fs B => rw [ee] at hq; cases hq
      | ok v A2 =>
        rw [ee] at hq
        cases hq
        refine ⟨ι2, A1, ρ, S2, E.ext x, ?_⟩
        rw [ee]
        rintro ι3 H3 y x3 ⟨S3, r3⟩
        rw [e2] at x3
        obtain ⟨e3, L3⟩ := L2.go x3 S3
        rw [e3] at r3 x3
        obtain ⟨xs, h1, h2, L4, l4⟩ := L3.app hf r3
        refine ⟨xs, h1, ?_, k _ _ L4 ?_⟩
        · rw [h2]
          have e := sizeLine_eq
          simp only [List.length_append, List.length_singleton] at hsz
          omega
        · rw [e2] at x
          exact (x.lx.trans x3.lx).trans l4
theorem body_in {ft : FB} {fi : FL} {vs1 is : List Nat} {g : MV → Option (List MV)} {q : FQ} {B : L2.St → Hp → (Hp → Prop) → Prop} (hsub : ∀ i ∈ is, i ∈ vs1) (hB : BodyOk K ι1 H1 D q B) :
    BodyOk K ι1 H1 D (qIn ft fi vs1 is g q) fun σ2 H2 Nx => tMB K W0 ft σ2 H2 fun b H3 => if b = true then tMI K W0 fi σ2 H3 fun J1 H4 => ∃ W1 : Nat → Nat → Hp → Prop, (∃ m, W1 0 m H4) ∧ ∀ j k H, W1 j k H →
      (J1.stop j H ∧ Nx H) ∨ (J1.go j H ∧ ∃ Nx1 : Hp → Prop, (∀ H', Nx1 H' → ∃ k', k' < k ∧ W1 (j + 1) k' H') ∧ ∀ x H', J1.yld j H x H' → tMG K is g x (L2.wipe σ2 vs1) H' fun σ3 H5 => L2.wipe σ3 vs1 = L2.wipe σ2 vs1 ∧ B σ3 H5 Nx1) else Nx H3 := by
  intro tr H A A' acc vs ρ σ Nx L E hq hsz k
  unfold qIn at hq
  refine ⟨_, A, ρ, L.S, E, ?_⟩
  cases et : ft ρ A with
  | bad => rw [et] at hq; cases hq
  | err c fs B => rw [et] at hq; cases hq
  | ok b A1 =>
    rw [et] at hq
    rintro ι2 H2 u x ⟨S2, rfl⟩
    obtain ⟨e2, L2⟩ := L.go x S2
    cases b with
    | false =>
      cases hq
      rw [List.append_nil] at k
      rw [e2] at x
      exact k _ _ L2 x.lx
    | true =>
      dsimp only at hq
      cases ee : fi ρ A1 with
      | bad => rw [ee] at hq; cases hq
      | err c fs B => rw [ee] at hq; cases hq
      | ok zs A2 =>
        rw [ee] at hq
        dsimp only at hq
        refine ⟨ι2, A1, ρ, S2, E.ext x, ?_⟩
        rw [ee]
        rintro ι3 H3 J x3 ⟨S3, ok⟩
        rw [e2] at x3
        obtain ⟨e3, L3⟩ := L2.go x3 S3
        rw [e3] at x3 ok
        rw [e2] at x
        exact lc_loop ok hsub L3 (((E.ext x).ext x3).wipe vs1) hq hsz hB fun tr' H' L' l' => k _ _ L' ((x.lx.trans x3.lx).trans l')
end
section
variable {X : Cx} {W : Wi} {elt tg iter tg1 iter1 : Expr} {ifs ifs1 : List Expr} {scope : Scope} {own : List (Str × Nat)} {vs1 : List Nat} {pos : Pos} {fi fi1 : FL} {is is1 : List Nat} {g g1 : MV → Option (List MV)} {ft ft1 : FB} {fe : FE}
abbrev PTsM (X : Cx) (W : Wi) (ifs : List Expr) (f : FB) : Prop := PTs X ifs (tMB X.K W f)
theorem mts_nil : PTsM X W [] bYes := ⟨fun pins s σ H Q I ⟨ι, A, ρ, S, E, h⟩ => pts_nil.run pins s σ H Q I (RP.ok0 h ⟨S, rfl⟩)⟩
theorem mts_one {c : Expr} {f : FB} (h : PT X c (tMB X.K W f)) : PTsM X W [c] f := pts_one h
/-- the end of a comprehension -/
theorem lc_end {K : PySem.W.Frag} {σ : L2.St} {ι1 : Io} {H1 : Hp} {A : AH} {D : Addr} {tr' : List Addr} {H' : Hp} {A' : AH} {vs : List MV} {Q : VK} (S1 : Sim K ι1 A H1) (hD : H1 D = none) (L : LcS K ι1 H1 D tr' H' A' vs) (h : RP K W σ (rL K) ι1 H1 (.ok vs A') Q) : Q (.ref D) H' :=
  h ⟨tr', ι1.pv⟩ H' _ L.e ⟨D, rfl, hD, L.nt, (S1.outA hD).2, L.ex, L.S⟩
theorem lc_start {K : PySem.W.Frag} {ι1 : Io} {H1 : Hp} {A : AH} {D : Addr} (S1 : Sim K ι1 A H1) (hD : H1 D = none) : LcS K ι1 H1 D ι1.tr (upd H1 D (.lst [])) A [] ∧ Lx ι1 H1 ⟨ι1.tr, D :: ι1.pv⟩ (upd H1 D (.lst [])) :=
  ⟨⟨Ext.new1 hD, Sim.hide S1 hD, S1.out hD, [], upd_same, .nil⟩, ⟨(Le.hide hD).trans ⟨List.prefix_refl _, fun p u n e => ⟨n, by
    rw [upd_ne (ne_of_none e hD)]
    exact e⟩⟩, fun p o u e => by
    rw [upd_ne (ne_of_none e hD)]
    exact e⟩⟩
theorem lc_read {K : PySem.W.Frag} {q : FQ} {B : Addr → L2.St → Hp → (Hp → Prop) → Prop} (hsub : ∀ i ∈ is, i ∈ own.map (·.2)) (hB : ∀ ι1 H1 D, H1 D = none → BodyOk K ι1 H1 D q (B D)) {σ : L2.St} {H : Hp} {Q : VK} (h : tML K W (aLc fi (own.map (·.2)) is g q) σ H Q) :
    tMI K W fi σ H fun J H1 => ∀ D, H1 D = none → ∃ W : Nat → Nat → Hp → Prop, (∃ m, W 0 m (upd H1 D (.lst []))) ∧ ∀ i m H, W i m H →
      (J.stop i H ∧ Q (.ref D) H) ∨ (J.go i H ∧ ∃ Nx : Hp → Prop, (∀ H', Nx H' → ∃ m', m' < m ∧ W (i + 1) m' H') ∧ ∀ x H', J.yld i H x H' → tMG K is g x (L2.wipe σ (own.map (·.2))) H' fun σ2 H2 => L2.wipe σ2 (own.map (·.2)) = L2.wipe σ (own.map (·.2)) ∧ B D σ2 H2 Nx) := by
  obtain ⟨ι, A, ρ, S, E, h⟩ := h
  refine RP_bind S E h fun ι1 A1 xs J H1 e1 ⟨S1, ok⟩ h1 => ?_
  intro D hD
  cases er : qRun is g q xs (wipeM ρ (own.map (·.2))) A1 with
  | bad => rw [er] at h1; exact h1.elim
  | err c fs B => rw [er] at h1; exact h1.elim
  | ok vs A' =>
    rw [er] at h1
    by_cases hz : szL vs = true
    · dsimp only at h1
      rw [if_pos hz] at h1
      obtain ⟨L, l⟩ := lc_start S1 hD
      exact lc_loop (ok.lx l) hsub L (((E.ext e1).le l.le).w0.wipe _) er (of_decide_eq_true hz) (hB ι1 H1 D hD) fun tr' H' L' _ => lc_end S1 hD L' h1
    · dsimp only at h1
      rw [if_neg hz] at h1
      exact h1.elim
/-- [e for t in i if c] -/
theorem ml_lc (hc : X.calm = true) (hN : X.N.Nodup) (hi : PI X tg iter (tMI X.K W fi)) (ok : BlkOk X.N X.env.scope scope own) (hsub : ∀ i ∈ is, i ∈ own.map (·.2))
    (hg : ∀ (s : Shared) (H : Hp) (C : Addr) (cl : List (Str × Addr)) (fp : List Addr), TgM (X.blk s H scope (compEnvC scope cl C X.env) fp) tg is g) (ht : ∀ (s : Shared) (H : Hp) (C : Addr) (cl : List (Str × Addr)) (fp : List Addr), PTsM (X.blk s H scope (compEnvC scope cl C X.env) fp) W0 ifs ft)
    (he : ∀ (s : Shared) (H : Hp) (C : Addr) (cl : List (Str × Addr)) (fp : List Addr), PE (X.blk s H scope (compEnvC scope cl C X.env) fp) elt (tM X.K W0 fe)) (hs : ∀ x, foldedSetIterable iter X.env x = pure x := by intro _; rfl) :
    PE X (.ListComp elt [⟨tg, iter, ifs, 0⟩] scope pos) (tML X.K W (aLc fi (own.map (·.2)) is g (qElt ft fe))) :=
  (pe_lc hc hN hi ok hg ht he hs).imp fun σ H Q h => lc_read hsub (fun ι1 H1 D hD => body_elt hD) h
/-- x = [..] -/
theorem ms_setLc {i : Nat} {y : Str} {py : Pos} {spos : Pos} (hc : X.calm = true) (hN : X.N.Nodup) (hy : X.N[i]? = some y) (hyl : X.env.scope.names.lookup y = some .local)
    (hsw : swapsWith (.ListComp elt [⟨tg, iter, ifs, 0⟩] scope pos) (some (.Name y py)) spos.line X.env = pure true) (hi : PI X tg iter (tMI X.K W fi)) (ok : BlkOk X.N X.env.scope scope own) (hsub : ∀ i ∈ is, i ∈ own.map (·.2))
    (hg : ∀ (s : Shared) (H : Hp) (C : Addr) (cl : List (Str × Addr)) (fp : List Addr), TgM (X.blk s H scope (compEnvC scope cl C X.env) fp) tg is g) (ht : ∀ (s : Shared) (H : Hp) (C : Addr) (cl : List (Str × Addr)) (fp : List Addr), PTsM (X.blk s H scope (compEnvC scope cl C X.env) fp) W0 ifs ft)
    (he : ∀ (s : Shared) (H : Hp) (C : Addr) (cl : List (Str × Addr)) (fp : List Addr), PE (X.blk s H scope (compEnvC scope cl C X.env) fp) elt (tM X.K W0 fe)) (hs : ∀ x, foldedSetIterable iter X.env x = pure x := by intro _; rfl) :
    PS X (.Assign [.Name y py] (.ListComp elt [⟨tg, iter, ifs, 0⟩] scope pos) spos) (tMS X.K W (sSet i (eFrz (aLc fi (own.map (·.2)) is g (qElt ft fe))))) :=
  (ps_setLc hc hN hy hyl hsw hi ok hg ht he hs).imp fun D σ H ⟨ι, A, ρ, S, E, h⟩ => lc_read (W := W) hsub (fun ι1 H1 D hD => body_elt hD) (Q := fun x H1 => gName i x σ H1 D.nx) (by
    have h : RPS X.K W D ι H ((aLc fi (own.map (·.2)) is g (qElt ft fe) ρ A).fs ρ fun vs A => .nx (ρ.set i (some (.lst vs))) A) := by
      unfold sSet eFrz at h
      cases q : aLc fi (own.map (·.2)) is g (qElt ft fe) ρ A with
      | ok v A' => rw [q] at h; exact h
      | err c fs A' => rw [q] at h; exact h
      | bad => rw [q] at h; exact h
    exact RPS_bind (R := rL X.K) S E h fun ι1 A1 xs u H1 e1 r h1 => by
      obtain ⟨a, rfl, f⟩ := r
      exact h1 ι1 H1 _ (Ext.refl _ _) f.sim0 ((E.ext e1).set i f.frz))
theorem ms_setLcR {i : Nat} {y : Str} {py : Pos} {spos : Pos} (hc : X.calm = true) (hN : X.N.Nodup) (hy : X.N[i]? = some y) (hyl : X.env.scope.names.lookup y = some .local)
    (hsw : swapsWith (.ListComp elt [⟨tg, iter, ifs, 0⟩] scope pos) (some (.Name y py)) spos.line X.env = pure true) (hi : PI X tg iter (tMI X.K W fi)) (ok : BlkOk X.N X.env.scope scope own) (hsub : ∀ i ∈ is, i ∈ own.map (·.2))
    (hg : ∀ (s : Shared) (H : Hp) (C : Addr) (cl : List (Str × Addr)) (fp : List Addr), TgM (X.blk s H scope (compEnvC scope cl C X.env) fp) tg is g) (ht : ∀ (s : Shared) (H : Hp) (C : Addr) (cl : List (Str × Addr)) (fp : List Addr), PTsM (X.blk s H scope (compEnvC scope cl C X.env) fp) W0 ifs ft)
    (he : ∀ (s : Shared) (H : Hp) (C : Addr) (cl : List (Str × Addr)) (fp : List Addr), PE (X.blk s H scope (compEnvC scope cl C X.env) fp) elt (tM X.K W0 fe)) (hs : ∀ x, foldedSetIterable iter X.env x = pure x := by intro _; rfl) :
    PS X (.Assign [.Name y py] (.ListComp elt [⟨tg, iter, ifs, 0⟩] scope pos) spos) (tMS X.K W (sSet i (eRef (aLc fi (own.map (·.2)) is g (qElt ft fe))))) :=
  (ps_setLc hc hN hy hyl hsw hi ok hg ht he hs).imp fun D σ H ⟨ι, A, ρ, S, E, h⟩ => lc_read (W := W) hsub (fun ι1 H1 D hD => body_elt hD) (Q := fun x H1 => gName i x σ H1 D.nx) (by
    refine ⟨ι, A, ρ, S, E, ?_⟩
    unfold sSet eRef at h
    cases q : aLc fi (own.map (·.2)) is g (qElt ft fe) ρ A with
    | ok vs A' =>
      rw [q] at h
      rintro ι1 H1 u e1 ⟨a, rfl, f⟩
      obtain ⟨ys, hy, ry⟩ := f.ex
      refine h ⟨ι1.tr ++ [a], ι1.pv⟩ H1 _ (e1.adopt f.free) (f.sim.adopt f.nt (.lst hy (ry.le Le.adopt))) ((E.ext (e1.adopt f.free)).set i (.ref ?_))
      have sl : ι1.tr.length = A'.length := f.sim.len
      show (ι1.tr ++ [a])[A'.length]? = some a
      rw [← sl, List.getElem?_append_right (Nat.le_refl _), Nat.sub_self]
      rfl
    | err c fs A' =>
      rw [q] at h
      exact fun ι' H' d x s r => h ι' H' σ d x s (E.ext x) r
    | bad => rw [q] at h; exact h)
/-- [e for t in i if c for t1 in i1 if c1] -/
theorem ml_lc2 (hc : X.calm = true) (hN : X.N.Nodup) (hi : PI X tg iter (tMI X.K W fi)) (ok : BlkOk X.N X.env.scope scope own) (hv : ∀ i ∈ vs1, i ∈ own.map (·.2)) (hsub : ∀ i ∈ is, i ∈ own.map (·.2)) (hsub1 : ∀ i ∈ is1, i ∈ vs1)
    (hg : ∀ (s : Shared) (H : Hp) (C : Addr) (cl : List (Str × Addr)) (fp : List Addr), TgM (X.blk s H scope (compEnvC scope cl C X.env) fp) tg is g) (ht : ∀ (s : Shared) (H : Hp) (C : Addr) (cl : List (Str × Addr)) (fp : List Addr), PTsM (X.blk s H scope (compEnvC scope cl C X.env) fp) W0 ifs ft)
    (hi1 : ∀ (s : Shared) (H : Hp) (C : Addr) (cl : List (Str × Addr)) (fp : List Addr), PI (X.blk s H scope (compEnvC scope cl C X.env) fp) tg1 iter1 (tMI X.K W0 fi1))
    (hg1 : ∀ (s : Shared) (H : Hp) (C : Addr) (cl : List (Str × Addr)) (fp : List Addr), TgM (X.blk s H scope (compEnvC scope cl C X.env) fp) tg1 is1 g1) (ht1 : ∀ (s : Shared) (H : Hp) (C : Addr) (cl : List (Str × Addr)) (fp : List Addr), PTsM (X.blk s H scope (compEnvC scope cl C X.env) fp) W0 ifs1 ft1)
    (he : ∀ (s : Shared) (H : Hp) (C : Addr) (cl : List (Str × Addr)) (fp : List Addr), PE (X.blk s H scope (compEnvC scope cl C X.env) fp) elt (tM X.K W0 fe)) (hs : ∀ x, foldedSetIterable iter X.env x = pure x := by intro _; rfl) (hs1 : ∀ env x, foldedSetIterable iter1 env x = pure x := by intro _ _; rfl) :
    PE X (.ListComp elt [⟨tg, iter, ifs, 0⟩, ⟨tg1, iter1, ifs1, 0⟩] scope pos) (tML X.K W (aLc fi (own.map (·.2)) is g (qIn ft fi1 vs1 is1 g1 (qElt ft1 fe)))) :=
  (pe_lc2 hc hN hi ok hv hg ht hi1 hg1 ht1 he hs hs1).imp fun σ H Q h => lc_read hsub (fun ι1 H1 D hD => body_in hsub1 (body_elt hD)) h
end
end Mv
/-! Mv4: locks, walks over dicts, texts, pairs; defs and calls -/
namespace Mv
open PySem PySem.Spec PyProof.Rows L2 Fk
/-! ### locks -/
def lkO : MO → Option MO
  | .dct kvs => some (.lkd kvs)
  | .lst xs => some (.lkl xs)
  | _ => none
def isLk : MO → Bool
  | .lkd _ => true
  | .lkl _ => true
  | _ => false
def unlk (n : Nat) (m : MO) : Fs → Fs
  | .nx ρ A => .nx ρ (A.set n m)
  | .rt v A => .rt v (A.set n m)
  | .bk ρ A => .bk ρ (A.set n m)
  | .ct ρ A => .ct ρ (A.set n m)
  | .err c fs ρ A => .err c fs ρ (A.set n m)
  | .bad => .bad
def sLock (fd : FE) (s : FS) : FS := fun ρ A => match fd ρ A with
  | .ok (.ref n) _ => (match A[n]? with
    | some m => (match lkO m with
      | some m' => unlk n m (s ρ (A.set n m'))
      | none => if isLk m then s ρ A else .bad)
    | none => .bad)
  | _ => .bad
def aLock {α : Type} (fd : FE) (s : ME → AH → Rs α) : ME → AH → Rs α := fun ρ A => match fd ρ A with
  | .ok (.ref n) _ => (match A[n]? with
    | some m => (match lkO m with
      | some m' => (match s ρ (A.set n m') with
        | .ok v A' => .ok v (A'.set n m)
        | _ => .bad)
      | none => if isLk m then s ρ A else .bad)
    | none => .bad)
  | _ => .bad
/-- the thing m stands as u -/
def RO (K : PySem.W.Frag) (ι : Io) (H : Hp) : MO → HO → Prop
  | .dct kvs, .dK ps => RKs K ι H kvs ps
  | .lst vs, .lst xs => RVs K ι H vs xs
  | _, _ => False
section
variable {K : PySem.W.Frag} {ι ι' : Io} {H H' : Hp} {A A' : AH} {m m' : MO} {u : HO} {d : Addr}
theorem RO.le (l : Le ι H ι' H') (h : RO K ι H m u) : RO K ι' H' m u := by
  cases m with
  | dct kvs => cases u with
    | dK ps => exact RKs.le l h
    | _ => exact h.elim
  | lst kvs => cases u with
    | lst ps => exact RVs.le l h
    | _ => exact h.elim
  | _ => exact h.elim
theorem RO.ok (e : H d = some u) (h : RO K ι H m u) : OkO K ι H m d := by
  cases m with
  | dct kvs => cases u with
    | dK ps => exact .dct e h
    | _ => exact h.elim
  | lst kvs => cases u with
    | lst ps => exact .lst e h
    | _ => exact h.elim
  | _ => exact h.elim
theorem RO.lk {od : Obj} (q : lkO m = some m') (e : H d = some (.frz od u)) (h : RO K ι H m u) : OkO K ι H m' d := by
  cases m with
  | dct kvs => cases u with
    | dK ps => cases q; exact .lkd e h
    | _ => exact h.elim
  | lst kvs => cases u with
    | lst ps => cases q; exact .lkl e h
    | _ => exact h.elim
  | _ => exact h.elim
theorem RO.mu (h : RO K ι H m u) : Mut (some u) ∧ ∀ o w, u ≠ .frz o w := by
  cases m with
  | dct kvs => cases u with
    | dK ps => exact ⟨trivial, fun o w z => nomatch z⟩
    | _ => exact h.elim
  | lst kvs => cases u with
    | lst ps => exact ⟨trivial, fun o w z => nomatch z⟩
    | _ => exact h.elim
  | _ => exact h.elim
/-- the thing at n is locked -/
theorem Sim.lock (S : Sim K ι A H) {n : Nat} (h : A[n]? = some m) (q : lkO m = some m') : ∃ d u, ι.tr[n]? = some d ∧ H d = some u ∧ RO K ι H m u ∧ ∀ od, Sim K ι (A.set n m') (upd H d (.frz od u)) ∧ Ext ι H ι (upd H d (.frz od u)) := by
  obtain ⟨d, e, ok⟩ := S.at h
  have fin : ∀ u, H d = some u → RO K ι H m u → ∃ d u, ι.tr[n]? = some d ∧ H d = some u ∧ RO K ι H m u ∧ ∀ od, Sim K ι (A.set n m') (upd H d (.frz od u)) ∧ Ext ι H ι (upd H d (.frz od u)) := fun u hd r => by
    refine ⟨d, u, e, hd, r, fun od => ⟨S.put e ((r.le (Le.mut (List.mem_of_getElem? e))).lk q upd_same), Ext.mut (List.mem_of_getElem? e) fun o w z => ?_⟩⟩
    rw [hd] at z
    cases z
    exact r.mu.2 _ _ rfl
  cases ok with
  | dct hd r => exact fin _ hd r
  | lst hd r => exact fin _ hd r
  | _ => cases q
/-- .. and unlocked -/
theorem Sim.unlock {n : Nat} {od : Obj} (e : ι.tr[n]? = some d) (hd : H d = some u) (r : RO K ι H m u) (x : Ext ι (upd H d (.frz od u)) ι' H') (S' : Sim K ι' A' H') :
    H' d = some (.frz od u) ∧ Sim K ι' (A'.set n m) (upd H' d u) ∧ Ext ι H ι' (upd H' d u) := by
  have hm : d ∈ ι.tr := List.mem_of_getElem? e
  have e' := x.get e
  have hf : H' d = some (.frz od u) := x.frz d od _ upd_same
  refine ⟨hf, S'.put e' ((((r.le (Le.mut hm)).le x.le).le (Le.mut (List.mem_of_getElem? e'))).ok upd_same), ⟨x.pre, x.pv, fun p hp n => ?_, fun p o n q => ?_, fun p o w q => ?_⟩⟩
  · have := x.new p hp n
    rw [upd_ne (fun z => n (by rw [z]; exact hm))] at this
    exact this
  · have z : p ≠ d := fun z => n (by rw [z]; exact hm)
    rw [upd_ne z]
    exact x.keep p o n (by rw [upd_ne z]; exact q)
  · have z : p ≠ d := fun z => by
      rw [z, hd] at q
      cases q
      exact r.mu.2 _ _ rfl
    rw [upd_ne z]
    exact x.frz p o w (by rw [upd_ne z]; exact q)
end
section
variable {X : Cx} {W : Wi}
/-- the wish of an error while d is locked -/
def wLk (W : Wi) (d : Addr) (od : Obj) (u : HO) : Wi := ⟨fun cls x σ H => H d = some (.frz od u) ∧ W.w cls x σ (upd H d u), W.z, W.zx, W.sl⟩
theorem takes_lk {d : Addr} {od : Obj} {u : HO} (tk : Takes X W.w) (hn : ∀ o' u', X.H_0 d ≠ some (.frz o' u')) : Takes X (wLk W d od u).w := fun v s' ⟨a, B, sI, pins, σ, H, cls, x, e, I, nb, up, sky, na, os, ag, hf, w⟩ => by
  refine tk v s' ⟨a, B, sI, pins, σ, upd H d u, cls, x, e, I.unlock hf hn, nb, up, sky, ?_, os, ag, w⟩
  rw [upd_ne (fun z => by rw [z, hf] at na; cases na)]
  exact na
theorem REnv.lk {K : PySem.W.Frag} {ι : Io} {H : Hp} {ρ : ME} {σ : L2.St} {d : Addr} {od : Obj} {u : HO} (r : REnv W K ι H ρ σ) : REnv (wLk W d od u) K ι H ρ σ := ⟨r.len, r.get, r.z, r.sl⟩
theorem REnv.unlk {K : PySem.W.Frag} {ι : Io} {H : Hp} {ρ : ME} {σ : L2.St} {d : Addr} {od : Obj} {u : HO} (r : REnv (wLk W d od u) K ι H ρ σ) : REnv W K ι H ρ σ := ⟨r.len, r.get, r.z, r.sl⟩
theorem ms_lock {st : Stmt} {fd : FE} {f : FS} (tk : Takes X W.w) (h : ∀ W' : Wi, Takes X W'.w → PS X st (tMS X.K W' f)) : PS X st (tMS X.K W (sLock fd f)) := by
  refine ⟨fun pins s σ H D I hw => ?_⟩
  obtain ⟨ι, A, ρ, S, E, hw⟩ := hw
  unfold sLock at hw
  split at hw
  · rename_i n _ _
    split at hw
    · rename_i m hn
      split at hw
      · rename_i m' hk
        obtain ⟨d, u, e, hd, r, k⟩ := S.lock hn hk
        have mu := r.mu.1
        obtain ⟨od, I1⟩ := I.lock hd mu
        obtain ⟨S1, x1⟩ := k od
        have nf := I.nofrz hd mu
        refine thn (wpAny_mono ((h (wLk W d od u) (takes_lk tk nf)).run pins s σ _ ⟨fun σ' H' => H' d = some (.frz od u) ∧ D.nx σ' (upd H' d u), fun v H' => H' d = some (.frz od u) ∧ D.rt v (upd H' d u), fun σ' H' => H' d = some (.frz od u) ∧ D.bk σ' (upd H' d u), fun σ' H' => H' d = some (.frz od u) ∧ D.ct σ' (upd H' d u)⟩ I1 ⟨ι, _, ρ, S1, (E.ext x1).lk, ?_⟩) (fun _ _ x => x) fun _ _ x => x) fun f s1 q => ?_
        · cases ef : f ρ (A.set n m') with
          | nx ρ' A' =>
            rw [ef] at hw
            intro ι' H' σ' x s q
            obtain ⟨hf, s2, x2⟩ := Sim.unlock e hd r x s
            exact ⟨hf, hw ι' _ σ' x2 s2 (q.unlk.le (Le.mut (List.mem_of_getElem? (x.get e))))⟩
          | bk ρ' A' =>
            rw [ef] at hw
            intro ι' H' σ' x s q
            obtain ⟨hf, s2, x2⟩ := Sim.unlock e hd r x s
            exact ⟨hf, hw ι' _ σ' x2 s2 (q.unlk.le (Le.mut (List.mem_of_getElem? (x.get e))))⟩
          | ct ρ' A' =>
            rw [ef] at hw
            intro ι' H' σ' x s q
            obtain ⟨hf, s2, x2⟩ := Sim.unlock e hd r x s
            exact ⟨hf, hw ι' _ σ' x2 s2 (q.unlk.le (Le.mut (List.mem_of_getElem? (x.get e))))⟩
          | rt v A' =>
            rw [ef] at hw
            intro ι' H' u x s q
            obtain ⟨hf, s2, x2⟩ := Sim.unlock e hd r x s
            exact ⟨hf, hw ι' _ u x2 s2 (q.le (Le.mut (List.mem_of_getElem? (x.get e))))⟩
          | err c fs ρ' A' =>
            rw [ef] at hw
            intro ι' H' σ' dx x s q er
            obtain ⟨hf, s2, x2⟩ := Sim.unlock e hd r x s
            have l : Le ι' H' ι' (upd H' d u) := Le.mut (List.mem_of_getElem? (x.get e))
            obtain ⟨⟨qs, h1, h2⟩, h3⟩ := er
            exact ⟨hf, hw ι' _ σ' dx x2 s2 (q.unlk.le l) ⟨⟨qs, (l.keep dx _ h3 h1).2, h2.le l⟩, h3⟩⟩
          | bad =>
            rw [ef] at hw
            exact hw
        · cases f with
          | next => obtain ⟨σ', H', I2, e, q⟩ := q; exact ⟨σ', _, I2.unlock e nf, q⟩
          | brk => obtain ⟨σ', H', I2, e, q⟩ := q; exact ⟨σ', _, I2.unlock e nf, q⟩
          | cont => obtain ⟨σ', H', I2, e, q⟩ := q; exact ⟨σ', _, I2.unlock e nf, q⟩
          | ret v => obtain ⟨x, σ', H', I2, r, e, q⟩ := q; exact ⟨x, σ', _, I2.unlock e nf, r, q⟩
      · split at hw
        · exact (h W tk).run pins s σ H D I ⟨ι, A, ρ, S, E, hw⟩
        · exact hw.elim
    · exact hw.elim
  · exact hw.elim
end
section
variable {X : Cx} {W : Wi} {e : Expr} {fd f : FE} {g : FL}
theorem Le.mutP {ι : Io} {pv : List Addr} {H : Hp} {p : Addr} {o : HO} (h : p ∈ ι.tr) : Le ⟨ι.tr, pv⟩ H ⟨ι.tr, pv⟩ (upd H p o) := Le.mut (ι := ⟨ι.tr, pv⟩) h
theorem m_lockG {α : Type} {R : Rel α V} {f : ME → AH → Rs α} (h : PE X e (tG X.K W R f)) (hR : ∀ {ι H ι' H' A' v u n d w m od}, ι.tr[n]? = some d → H d = some w → RO X.K ι H m w → Ext ι (upd H d (.frz od w)) ι' H' → R ι (upd H d (.frz od w)) ι' H' A' v u → H' d = some (.frz od w) ∧ Ext ι H ι' (upd H' d w) ∧ R ι H ι' (upd H' d w) (A'.set n m) v u) : PE X e (tG X.K W R (aLock fd f)) := by
  refine ⟨fun pins s σ H Q I hw => ?_⟩
  obtain ⟨ι, A, ρ, S, E, hw⟩ := hw
  unfold aLock at hw
  split at hw
  · rename_i n _ _
    split at hw
    · rename_i m hn
      split at hw
      · rename_i m' hk
        obtain ⟨d, w, ed, hd, r, k⟩ := S.lock hn hk
        have mu := r.mu.1
        obtain ⟨od, I1⟩ := I.lock hd mu
        obtain ⟨S1, x1⟩ := k od
        have nf := I.nofrz hd mu
        refine thn (h.run pins s σ _ (fun v H' => H' d = some (.frz od w) ∧ Q v (upd H' d w)) I1 ⟨ι, _, ρ, S1, E.ext x1, ?_⟩) fun v s1 ⟨x, H1, I2, rr, e2, q⟩ => ⟨x, _, I2.unlock e2 nf, rr, q⟩
        cases ef : f ρ (A.set n m') with
        | ok v A' =>
          rw [ef] at hw
          intro ι' H' u x q
          obtain ⟨hf, x2, r2⟩ := hR ed hd r x q
          exact ⟨hf, hw ι' _ u x2 r2⟩
        | err c fs A' =>
          rw [ef] at hw
          exact hw.elim
        | bad =>
          rw [ef] at hw
          exact hw.elim
      · split at hw
        · exact h.run pins s σ H Q I ⟨ι, A, ρ, S, E, hw⟩
        · exact hw.elim
    · exact hw.elim
  · exact hw.elim
theorem m_lock (h : PE X e (tM X.K W f)) : PE X e (tM X.K W (aLock fd f)) := m_lockG h fun {ι H ι' H' A' v u n d w m od} ed hd r x q => by
  obtain ⟨hf, s2, x2⟩ := Sim.unlock ed hd r x q.1
  exact ⟨hf, x2, s2, q.2.le (Le.mut (List.mem_of_getElem? (x.get ed)))⟩
theorem ml_lock (h : PE X e (tML X.K W g)) : PE X e (tML X.K W (aLock fd g)) := m_lockG h fun {ι H ι' H' A' v u n d w m od} ed hd r x q => by
  obtain ⟨a, rfl, fl⟩ := q
  obtain ⟨hf, s2, x2⟩ := Sim.unlock ed hd r x fl.sim0
  have hm := List.mem_of_getElem? (x.get ed)
  have na : a ≠ d := fun z => fl.nt (by rw [z]; exact hm)
  obtain ⟨xs, h1, h2⟩ := fl.ex
  have fr : H a = none := by
    have := fl.free
    rw [upd_ne na] at this
    exact this
  refine ⟨hf, x2, a, rfl, fr, fl.nt, fl.np, ⟨xs, by rw [upd_ne na]; exact h1, h2.le (Le.mutP hm)⟩, ?_⟩
  have e' : (⟨ι'.tr, a :: ι'.pv⟩ : Io).tr[n]? = some d := x.get ed
  have hd' : d ∈ ι.tr := List.mem_of_getElem? ed
  have L : Le ι H ⟨ι'.tr, a :: ι'.pv⟩ (upd H' d w) := by
    refine ⟨x.pre, fun p o no q => ?_⟩
    have z : p ≠ d := fun z => no.1 (by rw [z]; exact hd')
    have q' : upd H d (.frz od w) p = some o := by rw [upd_ne z]; exact q
    refine ⟨⟨x.out no.1 q', fun hp => ?_⟩, by rw [upd_ne z]; exact x.keep p o no.1 q'⟩
    rcases List.mem_cons.mp hp with e | e
    · rw [e, fr] at q
      cases q
    · rw [x.pv] at e
      exact no.2 e
  exact fl.sim.put e' ((r.le L).ok upd_same)
end
/-- a locked list -/
def lklOf (A : AH) : MV → Option (List MV)
  | .ref n => (match A[n]? with
    | some (.lkl xs) => some xs
    | _ => none)
  | _ => none
def iLkl (f : FE) : FL := fun ρ A => (f ρ A).bind fun v A => match lklOf A v with
  | some xs => .ok xs A
  | none => .bad
theorem Sim.lkl {K : PySem.W.Frag} {ι : Io} {H : Hp} {A : AH} {v : MV} {u : V} {vs : List MV} (S : Sim K ι A H) (r : RV K ι H v u) (h : lklOf A v = some vs) : ∃ d o xs, u = .ref d ∧ H d = some (.frz o (.lst xs)) ∧ RVs K ι H vs xs := by
  unfold lklOf at h
  split at h
  · split at h
    · rename_i e
      cases h
      obtain ⟨a, rfl, _, ok⟩ := S.ref r e
      cases ok with
      | lkl h1 h2 => exact ⟨a, _, _, rfl, h1, h2⟩
    · cases h
  · cases h
theorem mi_lkl {X : Cx} {W : Wi} {tg e : Expr} {f : FE} (he : PE X e (tM X.K W f)) : PI X tg e (tMI X.K W (iLkl f)) := (pi_list he).imp fun σ H R ⟨ι, A, ρ, S, E, h⟩ => RP_bind S E h fun ι1 A1 v u H1 e1 ⟨S1, r1⟩ h1 => by
  cases q : lklOf A1 v with
  | none => rw [q] at h1; exact h1.elim
  | some vs =>
    rw [q] at h1
    obtain ⟨d, o, xs, rfl, hd, rs⟩ := S1.lkl r1 q
    have sq : ∀ {ι2 : Io} {H2 : Hp}, Lx ι1 H1 ι2 H2 → SqL X.K H2 d xs := fun l => .inl (.inr ⟨o, l.frz _ _ _ hd⟩)
    refine ⟨d, rfl, ⟨xs, sq (Lx.refl _ _)⟩, h1.ok0 ⟨S1, fun ι2 A2 H2 l S2 i => ⟨fun v hv => ?_, fun hl => ⟨xs, sq l, by rw [← rs.length]; exact hl⟩⟩⟩⟩
    obtain ⟨x, hx, rx⟩ := rs.get hv
    refine ⟨⟨xs, x, sq l, hx⟩, fun y H3 ⟨eq, hy⟩ => ?_⟩
    subst eq
    have := hy xs (sq l)
    rw [hx] at this
    cases this
    exact ⟨Ext.refl _ _, S2, rx.le l.le⟩
/-! ### walks over dicts that are locked, texts, pairs -/
def keyM : Key → MV
  | .inl i => .int i
  | .inr x => .str x
def lkdOf (A : AH) : MV → Option (List (Key × MV))
  | .ref n => (match A[n]? with
    | some (.lkd kvs) => some kvs
    | _ => none)
  | _ => none
def iKeys (f : FE) : FL := fun ρ A => (f ρ A).bind fun v A => match lkdOf A v with
  | some kvs => .ok (kvs.map fun p => keyM p.1) A
  | none => .bad
def iVals (f : FE) : FL := fun ρ A => (f ρ A).bind fun v A => match lkdOf A v with
  | some kvs => .ok (kvs.map fun p => p.2) A
  | none => .bad
def iItems (f : FE) : FL := fun ρ A => (f ρ A).bind fun v A => match lkdOf A v with
  | some kvs => .ok (kvs.map fun p => .tup [keyM p.1, p.2]) A
  | none => .bad
theorem rv_key {K : PySem.W.Frag} {ι : Io} {H : Hp} (k : Key) : RV K ι H (keyM k) (kV k) := by
  cases k with
  | inl i => exact .int i
  | inr x => exact .str x
theorem RKs.get {K : PySem.W.Frag} {ι : Io} {H : Hp} : ∀ {v : List (Key × MV)} {x : List (Key × V)} {i : Nat} {k : Key} {a : MV}, RKs K ι H v x → v[i]? = some (k, a) → ∃ b, x[i]? = some (k, b) ∧ RV K ι H a b
  | _, _, _, _, _, .nil, e => by simp at e
  | _, _, 0, _, _, .cons r _, e => by simp at e; obtain ⟨rfl, rfl⟩ := e; exact ⟨_, rfl, r⟩
  | _, _, i + 1, k, a, .cons _ t, e => by
    obtain ⟨b, h1, h2⟩ := RKs.get (i := i) (k := k) (a := a) t (by simpa using e)
    exact ⟨b, by simpa using h1, h2⟩
theorem Sim.lkd {K : PySem.W.Frag} {ι : Io} {H : Hp} {A : AH} {v : MV} {u : V} {kvs : List (Key × MV)} (S : Sim K ι A H) (r : RV K ι H v u) (h : lkdOf A v = some kvs) : ∃ d o ps, u = .ref d ∧ H d = some (.frz o (.dK ps)) ∧ RKs K ι H kvs ps := by
  unfold lkdOf at h
  split at h
  · split at h
    · rename_i e
      cases h
      obtain ⟨a, rfl, _, ok⟩ := S.ref r e
      cases ok with
      | lkd h1 h2 => exact ⟨a, _, _, rfl, h1, h2⟩
    · cases h
  · cases h
section
variable {X : Cx} {W : Wi} {tg e : Expr} {f : FE} {apos cpos : Pos}
theorem mi_keys (he : PE X e (tM X.K W f)) : PI X tg e (tMI X.K W (Mv.iKeys f)) := (pi_keys he).imp fun σ H R ⟨ι, A, ρ, S, E, h⟩ => RP_bind S E h fun ι1 A1 v u H1 e1 ⟨S1, r1⟩ h1 => by
  cases q : lkdOf A1 v with
  | none => rw [q] at h1; exact h1.elim
  | some kvs =>
    rw [q] at h1
    obtain ⟨d, o, ps, rfl, hd, rk⟩ := S1.lkd r1 q
    refine ⟨d, o, rfl, .inl ⟨ps, hd, h1.ok0 ⟨S1, fun ι2 A2 H2 l S2 i => ⟨fun v hv => ?_, fun hl => ⟨l.frz _ _ _ hd, by rw [List.length_map] at hl; rw [← rk.length]; exact hl⟩⟩⟩⟩⟩
    rw [List.getElem?_map] at hv
    cases ek : kvs[i]? with
    | none => rw [ek] at hv; cases hv
    | some p =>
      obtain ⟨k, m⟩ := p
      rw [ek] at hv
      cases hv
      obtain ⟨b, hb, rb⟩ := rk.get ek
      refine ⟨⟨l.frz _ _ _ hd, (List.getElem?_eq_some_iff.mp hb).1⟩, fun x H3 ⟨e3, k', v', hk, ex⟩ => ?_⟩
      subst e3 ex
      rw [hb] at hk
      cases hk
      exact ⟨Ext.refl _ _, S2, rv_key _⟩
theorem mi_values (he : PE X e (tM X.K W f)) (hbase : attributeBase e "values" X.env (eval e X.env) = eval e X.env := by rfl) (hline : (apos.endLine == cpos.line) = true := by rfl) : PI X tg (.Call (.Attribute e "values" apos) [] [] cpos) (tMI X.K W (Mv.iVals f)) := (pi_values he hbase hline).imp fun σ H R ⟨ι, A, ρ, S, E, h⟩ => RP_bind S E h fun ι1 A1 v u H1 e1 ⟨S1, r1⟩ h1 => by
  cases q : lkdOf A1 v with
  | none => rw [q] at h1; exact h1.elim
  | some kvs =>
    rw [q] at h1
    obtain ⟨d, o, ps, rfl, hd, rk⟩ := S1.lkd r1 q
    refine ⟨d, o, ps, rfl, hd, h1.ok0 ⟨S1, fun ι2 A2 H2 l S2 i => ⟨fun v hv => ?_, fun hl => ⟨l.frz _ _ _ hd, by rw [List.length_map] at hl; rw [← rk.length]; exact hl⟩⟩⟩⟩
    rw [List.getElem?_map] at hv
    cases ek : kvs[i]? with
    | none => rw [ek] at hv; cases hv
    | some p =>
      obtain ⟨k, m⟩ := p
      rw [ek] at hv
      cases hv
      obtain ⟨b, hb, rb⟩ := rk.get ek
      refine ⟨⟨l.frz _ _ _ hd, (List.getElem?_eq_some_iff.mp hb).1⟩, fun x H3 ⟨e3, k', hk⟩ => ?_⟩
      subst e3
      rw [hb] at hk
      cases hk
      exact ⟨Ext.refl _ _, S2, rb.le l.le⟩
theorem mi_items {elts : List Expr} {kk : Nat} {tpos : Pos} (he : PE X e (tM X.K W f)) (hbase : attributeBase e "items" X.env (eval e X.env) = eval e X.env := by rfl) (hline : (apos.endLine == cpos.line) = true := by rfl) : PI X (.Tuple elts kk tpos) (.Call (.Attribute e "items" apos) [] [] cpos) (tMI X.K W (Mv.iItems f)) := (pi_items he hbase hline).imp fun σ H R ⟨ι, A, ρ, S, E, h⟩ => RP_bind S E h fun ι1 A1 v u H1 e1 ⟨S1, r1⟩ h1 => by
  cases q : lkdOf A1 v with
  | none => rw [q] at h1; exact h1.elim
  | some kvs =>
    rw [q] at h1
    obtain ⟨d, o, ps, rfl, hd, rk⟩ := S1.lkd r1 q
    refine ⟨d, o, ps, rfl, hd, h1.ok0 ⟨S1, fun ι2 A2 H2 l S2 i => ⟨fun v hv => ?_, fun hl => ⟨l.frz _ _ _ hd, by rw [List.length_map] at hl; rw [← rk.length]; exact hl⟩⟩⟩⟩
    rw [List.getElem?_map] at hv
    cases ek : kvs[i]? with
    | none => rw [ek] at hv; cases hv
    | some p =>
      obtain ⟨k, m⟩ := p
      rw [ek] at hv
      cases hv
      obtain ⟨b, hb, rb⟩ := rk.get ek
      refine ⟨⟨l.frz _ _ _ hd, (List.getElem?_eq_some_iff.mp hb).1⟩, fun x H3 ⟨T, k', v', hk, ex, hT, e3⟩ => ?_⟩
      subst e3 ex
      rw [hb] at hk
      cases hk
      exact ⟨Ext.new1 hT, S2.new1 hT, new_tup S2 hT (.cons (rv_key _) (.one (rb.le l.le)))⟩
/-- a text, sign by sign -/
def signs (x : Str) : List MV := x.cps.toList.map fun c => .str ⟨#[c]⟩
def iStr (f : FE) : FL := fun ρ A => (f ρ A).bind fun v A => match v with
  | .str x => .ok (signs x) A
  | _ => .bad
theorem mi_str (he : PE X e (tM X.K W f)) : PI X tg e (tMI X.K W (Mv.iStr f)) := (pi_str he).imp fun σ H R ⟨ι, A, ρ, S, E, h⟩ => RP_bind S E h fun ι1 A1 v u H1 e1 ⟨S1, r1⟩ h1 => by
  cases r1 with
  | str x =>
    refine ⟨x, rfl, h1.ok0 ⟨S1, fun ι2 A2 H2 l S2 i => ⟨fun v hv => ?_, fun hl => ?_⟩⟩⟩
    · unfold signs at hv
      rw [List.getElem?_map, Array.getElem?_toList] at hv
      cases ec : x.cps[i]? with
      | none => rw [ec] at hv; cases hv
      | some c =>
        rw [ec] at hv
        cases hv
        refine ⟨(Array.getElem?_eq_some_iff.mp ec).1, fun y H3 ⟨e3, c', hc, ey⟩ => ?_⟩
        subst e3 ey
        rw [ec] at hc
        cases hc
        exact ⟨Ext.refl _ _, S2, .str _⟩
    · unfold signs at hl
      rw [List.length_map] at hl
      exact hl
  | _ => exact h1.elim
/-- zip of two lists -/
def lstOf (A : AH) : MV → Option (List MV)
  | .lst xs => some xs
  | _ => none
def zipM (xs ys : List MV) : List MV := (xs.zip ys).map fun p => .tup [p.1, p.2]
def iZip (g : FL) : FL := fun ρ A => (g ρ A).bind fun vs A => match vs with
  | [.lst xs, .lst ys] => .ok (zipM xs ys) A
  | _ => .bad
theorem mi_zip {e2 : Expr} {g : FL} {p pos tpos : Pos} {elts : List Expr} {kk : Nat} (hm : X.mg "zip" = none) (ha : PA X [e, e2] (tMA X.K W g)) (hg : Gl X "zip" := by rfl) (hs : starEach [e, e2] X.env = (false, eval e X.env) :: starEach [e2] X.env := by rfl) (hpl : (backTo pos (starEach [e2] X.env)).any (·.1) = false := by rfl) :
    PI X (.Tuple elts kk tpos) (.Call (.Name "zip" p) [e, e2] [] pos) (tMI X.K W (Mv.iZip g)) := (pi_zip hg hm ha hs hpl).imp fun σ H R ⟨ι, A, ρ, S, E, h⟩ => RP_bind S E h fun ι1 A1 vs us H1 e1 ⟨S1, r1⟩ h1 => by
  split at h1
  · cases r1 with
    | cons q qs => cases qs with
      | cons q2 qs2 =>
        cases qs2
        cases q with
        | @lst a vs xs ha ra => cases q2 with
          | @lst b ws ys hb rb =>
            refine ⟨a, b, xs, ys, rfl, fp_of_sqL (Le.refl _ _) ha, fp_of_sqL (Le.refl _ _) hb, h1.ok0 ⟨S1, fun ι2 A2 H2 l S2 i => ⟨fun v hv => ?_, fun hl => ?_⟩⟩⟩
            · unfold zipM at hv
              rw [List.getElem?_map] at hv
              obtain ⟨pr, ez, rfl⟩ := Option.map_eq_some_iff.mp hv
              obtain ⟨h2, h3⟩ := List.getElem?_zip_eq_some.mp ez
              obtain ⟨x, hx, rx⟩ := ra.get h2
              obtain ⟨y, hy, ry⟩ := rb.get h3
              refine ⟨⟨xs, ys, x, y, fp_of_sqL l.le ha, fp_of_sqL l.le hb, hx, hy⟩, fun z H3 ⟨T, x', y', ez', hT, e3, kx, ky⟩ => ?_⟩
              subst e3 ez'
              have := kx xs (fp_of_sqL l.le ha)
              rw [hx] at this
              cases this
              have := ky ys (fp_of_sqL l.le hb)
              rw [hy] at this
              cases this
              exact ⟨Ext.new1 hT, S2.new1 hT, new_tup S2 hT (.cons (rx.le l.le) (.one (ry.le l.le)))⟩
            · unfold zipM at hl
              rw [List.length_map, List.length_zip, ra.length, rb.length] at hl
              exact ⟨xs, ys, fp_of_sqL l.le ha, fp_of_sqL l.le hb, by omega⟩
  · exact h1.elim
end
end Mv
/-! Mv5: defs, calls, instances, fields, methods -/
namespace Mv
open PySem PySem.Spec PyProof.Rows L2 Fk
/-! ### defs -/
abbrev FF := List MV → AH → Rs MV
/-- the promise of a def by its plain function -/
def spM (K : PySem.W.Frag) (n : Nat) (F : FF) : Sp := fun vs H Q E => vs.length = n ∧ ∃ ι A ms, Sim K ι A H ∧ RVs K ι H ms vs ∧ RP K (Wi.of fun c d _ H => E c d H) [] (rV K) ι H (F ms A) Q
def defM (N : Nat) (body : FS) : FF := fun ms A => match body (ms.map some ++ List.replicate (N - ms.length) none) A with
  | .nx _ A' => .ok .non A'
  | .rt v A' => .ok v A'
  | .err c fs _ A' => .err c fs A'
  | _ => .bad
theorem RVs.st0 {W : WX} {K : PySem.W.Frag} {ι : Io} {H : Hp} {ms : List MV} {vs : List V} (r : RVs K ι H ms vs) (N : List Str) : REnv (Wi.of W) K ι H (ms.map some ++ List.replicate (N.length - ms.length) none) (L2.start N vs) := by
  unfold L2.start
  refine ⟨by simp [r.length], fun i v e => ?_, trivial, fun _ _ q => nomatch q⟩
  by_cases hi : i < ms.length
  · rw [List.getElem?_append_left (by simpa using hi), List.getElem?_map] at e
    rw [List.getElem?_append_left (by rw [List.length_map, ← r.length]; exact hi), List.getElem?_map]
    cases q : ms[i]? with
    | none => rw [q] at e; cases e
    | some m =>
      rw [q] at e
      cases e
      obtain ⟨u, h1, h2⟩ := r.get q
      exact ⟨u, by rw [h1]; rfl, h2⟩
  · rw [List.getElem?_append_right (by simpa using hi)] at e
    have := List.mem_of_getElem? e
    rw [List.mem_replicate] at this
    cases this.2
theorem RP.wi {α β : Type} {K : PySem.W.Frag} {W W' : Wi} {σ σ' : L2.St} {R : Rel α β} {ι : Io} {H : Hp} {r : Rs α} {Q : β → Hp → Prop} (h : RP K W σ R ι H r Q) (k : ∀ c d H, W.w c d σ H → W'.w c d σ' H) : RP K W' σ' R ι H r Q := by
  cases r with
  | ok v A => exact h
  | err c fs A => exact fun ι' H' d x s e => k _ _ _ (h ι' H' d x s e)
  | bad => exact h
section
variable {P : Program} {w : World} {K : PySem.W.Frag} {mg : Str → Option Value} {base : Heap} {x qual : Str} {params : Arguments} {body : List Stmt} {scope : Scope} {dvs : List V} {kws : List (Str × V)} {f : Addr} {fd : FuncData}
theorem fn_M {N ps : List Str} {k : Nat} {fb : FS} (F : FunD K x qual params body scope dvs kws f fd) (S : FnScope N ps scope)
    (hbody : ∀ (X : Cx) (W : Wi), X.prog = P → X.w = w → X.K = K → X.mg = mg → X.base = base → X.N = N → X.env.scope = scope → (∀ z, X.fn z = true) → X.calm = true → Room k X.A → X.stack = X.env :: X.outer → X.env.frame = some X.env.locals → Takes X W.w → PassesOwn (model X.prog X.w) X.A X.env X.xe → PSs X body (tMS K W fb)) : FnOk P w K mg base (L2.CX P w) (k + 1) f fd ps (spM K ps.length (defM N.length fb)) := by
  refine F.ok S (fun vs H Q E h => h.1) fun cdv A outer s H vs Q E hr hsp => ?_
  obtain ⟨hl, ι, A', ms, Sm, r, h⟩ := hsp
  refine ⟨_, hbody (cxOf (L2.CX P w) P w K mg base N qual scope f cdv A outer s H E) (Wi.of fun c d _ H => E c d H) rfl rfl rfl rfl rfl rfl rfl (fun _ => rfl) rfl hr rfl rfl (takes_of rfl rfl rfl rfl) (passes_of rfl), ι, A', _, Sm, r.st0 N, ?_⟩
  unfold defM at h
  cases e : fb (ms.map some ++ List.replicate (N.length - ms.length) none) A' with
  | nx ρ B => rw [e] at h; exact fun ι' H' σ' x s _ => h ι' H' .non x ⟨s, .non⟩
  | rt v B => rw [e] at h; exact fun ι' H' u x s q => h ι' H' u x ⟨s, q⟩
  | err c fs ρ B => rw [e] at h; exact fun ι' H' σ' d x s _ q => h ι' H' d x s q
  | bk ρ B => rw [e] at h; exact h.elim
  | ct ρ B => rw [e] at h; exact h.elim
  | bad => rw [e] at h; exact h.elim
end
/-! ### arguments -/
/-- how n written values and the keywords ks come to the parameters -/
structure KBM (K : PySem.W.Frag) (fd : FuncData) (ps : List Str) (n : Nat) (ks : List Str) (gm : List MV → List MV → List MV) : Prop where
  ex : ∃ g gV, KBn K fd ps n ks g gV ∧ ∀ {ι : Io} {H : Hp} {ms zs : List MV} {vs ws : List V}, ms.length = n → zs.length = ks.length → RVs K ι H ms vs → RVs K ι H zs ws → RVs K ι H (gm ms zs) (gV vs ws) ∧ (gV vs ws).length = ps.length
abbrev FP := ME → AH → Rs (List MV × List MV)
abbrev rAA (K : PySem.W.Frag) : Rel (List MV × List MV) (List V × List V) := fun _ _ ι' H' A' p q => Sim K ι' A' H' ∧ RVs K ι' H' p.1 q.1 ∧ RVs K ι' H' p.2 q.2
def pN : FP := fun _ A => .ok ([], []) A
def pA (g : FL) : FP := fun ρ A => (g ρ A).bind fun vs A => .ok (vs, []) A
def pK (g : FL) : FP := fun ρ A => (g ρ A).bind fun vs A => .ok ([], vs) A
def pAK (g k : FL) : FP := fun ρ A => (g ρ A).bind fun vs A => (k ρ A).bind fun zs A => .ok (vs, zs) A
structure AM (X : Cx) (W : Wi) (pos : Pos) (es : List Expr) (kws : List Keyword) (ks : List Str) (f : FP) : Prop where
  run : ∀ (fv : Value) (first : List Value) (Qf : Value → Shared → Prop) (pins : List (Addr × Obj)) (s : Shared) (σ : L2.St) (H : Hp), PySem.W.keepIn X.K fv = true → Inv X pins σ H s →
    tG X.K W (rAA X.K) f σ H (fun p H2 => ∀ us ws s2, Inv X pins σ H2 s2 → Vals p.1 us → Vals p.2 ws → wpAny (model X.prog X.w) X.A (call fv (first ++ us) (ks.zip ws)) Qf X.xe s2) →
    wpAny (model X.prog X.w) X.A (callWith pos fv first (backTo pos (starEach es X.env)) (backToKw pos (keywordEach kws X.env))) Qf X.xe s
section
variable {X : Cx} {W : Wi} {pos : Pos} {e : Expr} {es : List Expr} {kws : List Keyword} {ks : List Str} {g k : FL}
theorem am_n : AM X W pos [] [] [] pN := ⟨fun fv first Qf pins s σ H hk I ⟨ι, A, ρ, S, E, h⟩ => PySem.W.callWith_K0 I.kIn hk (RP.ok0 h (u := ([], [])) ⟨S, .nil, .nil⟩ [] [] s I .nil .nil)⟩
theorem am_p (ha : PA X (e :: es) (tMA X.K W g)) (he : starEach (e :: es) X.env = (false, eval e X.env) :: starEach es X.env := by rfl) (hpl : (backTo pos (starEach es X.env)).any (·.1) = false := by rfl) : AM X W pos (e :: es) [] [] (pA g) := ⟨fun fv first Qf pins s σ H hk I ⟨ι, A, ρ, S, E, h⟩ => by
  refine PySem.W.callWith_K (h₀ := X.base) I.ok.mod.kin hk (thn (ha.run pos pins s σ H (fun vs H2 => ∀ us ws s2, Inv X pins σ H2 s2 → Vals vs us → Vals [] ws → wpAny (model X.prog X.w) X.A (call fv (first ++ us) (([] : List Str).zip ws)) Qf X.xe s2) I ?_) fun us s1 ⟨vs, H1, I1, r, q⟩ => ⟨I1.kIn, q us [] s1 I1 r .nil⟩) he hpl
  exact RP_bind S E h fun ι1 A1 xs us H1 e1 ⟨S1, r1⟩ h1 => RP.ok0 h1 (u := (us, [])) ⟨S1, r1, .nil⟩⟩
theorem am_k (hkw : PK X kws (tMA X.K W k)) (hall : (backToKw pos (keywordEach kws X.env)).all (·.1.isSome) = true := by rfl) (hks : (backToKw pos (keywordEach kws X.env)).filterMap (·.1) = ks := by rfl) (hpl : ((backTo pos (starEach [] X.env)).any (·.1) || (backToKw pos (keywordEach kws X.env)).any (·.1.isNone)) = false := by rfl) : AM X W pos [] kws ks (pK k) := ⟨fun fv first Qf pins s σ H hk I ⟨ι, A, ρ, S, E, h⟩ => by
  refine PySem.W.callWith_KW0 (h₀ := X.base) I.ok.mod.kin hk hall (thn (hkw.run pos pins s σ H (fun vs H2 => ∀ us ws s2, Inv X pins σ H2 s2 → Vals [] us → Vals vs ws → wpAny (model X.prog X.w) X.A (call fv (first ++ us) (ks.zip ws)) Qf X.xe s2) I ?_) fun us s1 ⟨vs, H1, I1, r, q⟩ => ⟨I1.kIn, ?_⟩) hpl
  · exact RP_bind S E h fun ι1 A1 xs us H1 e1 ⟨S1, r1⟩ h1 => RP.ok0 h1 (u := ([], us)) ⟨S1, .nil, r1⟩
  · rw [hks]
    exact q [] us s1 I1 .nil r⟩
theorem am_pk (ha : PA X (e :: es) (tMA X.K W g)) (hkw : PK X kws (tMA X.K W k)) (hall : (backToKw pos (keywordEach kws X.env)).all (·.1.isSome) = true := by rfl) (hks : (backToKw pos (keywordEach kws X.env)).filterMap (·.1) = ks := by rfl)
    (he : starEach (e :: es) X.env = (false, eval e X.env) :: starEach es X.env := by rfl) (hpl : ((backTo pos (starEach (e :: es) X.env)).any (·.1) || (backToKw pos (keywordEach kws X.env)).any (·.1.isNone)) = false := by rfl) : AM X W pos (e :: es) kws ks (pAK g k) := ⟨fun fv first Qf pins s σ H hk I ⟨ι, A, ρ, S, E, h⟩ => by
  refine PySem.W.callWith_KW (h₀ := X.base) I.ok.mod.kin hk hall (thn (ha.run pos pins s σ H (fun vs H2 => tMA X.K W k σ H2 fun zs H3 => ∀ us ws s2, Inv X pins σ H3 s2 → Vals vs us → Vals zs ws → wpAny (model X.prog X.w) X.A (call fv (first ++ us) (ks.zip ws)) Qf X.xe s2) I ?_) fun us s1 ⟨vs, H1, I1, r, q⟩ => ?_) hpl he
  · exact RP_bind S E h fun ι1 A1 xs us H1 e1 ⟨S1, r1⟩ h1 => RP_bind S1 (E.ext e1) h1 fun ι2 A2 ys ws H2 e2 ⟨S2, r2⟩ h2 => RP.ok0 h2 (u := (us, ws)) ⟨S2, r1.ext e2, r2⟩
  · refine thn (hkw.run pos pins s1 σ H1 _ I1 q) fun ws s2 ⟨zs, H2, I2, rz, q2⟩ => ⟨I2.kIn, ?_⟩
    rw [hks]
    exact q2 us ws s2 I2 r rz⟩
theorem _root_.L2.PK.imp {X : Cx} {kws : List Keyword} {t t' : TA} (h : PK X kws t) (i : ∀ σ H Q, t' σ H Q → t σ H Q) : PK X kws t' := ⟨fun pos pins s σ H Q I q => h.run pos pins s σ H Q I (i σ H Q q)⟩
theorem mk_nil : PK X [] (tMA X.K W aNil) := pk_nil.imp fun σ H Q ⟨ι, A, ρ, S, E, h⟩ => RP.ok0 h ⟨S, .nil⟩
theorem mk_cons {nm : Option Str} {kpos : Pos} {f : FE} (ha : PE X e (tM X.K W f)) (hr : PK X kws (tMA X.K W g)) : PK X (⟨nm, e, kpos⟩ :: kws) (tMA X.K W (aCons f g)) :=
  (pk_cons ha hr).imp fun σ H Q ⟨ι, A, ρ, S, E, h⟩ => RP_bind S E h fun ι1 A1 x u H1 e1 ⟨S1, r1⟩ h1 => RP_bind S1 (E.ext e1) h1 fun ι2 A2 xs us H2 e2 ⟨S2, r2⟩ h2 => RP.ok0 h2 ⟨S2, .cons (r1.ext e2) r2⟩
end
/-! ### calls -/
def eCall (n m : Nat) (gm : List MV → List MV → List MV) (F : FF) (fa : FP) : FE := fun ρ A => (fa ρ A).bind fun p A => if p.1.length = n ∧ p.2.length = m then F (gm p.1 p.2) A else .bad
def eMake (C : Str) (n m : Nat) (gm : List MV → List MV → List MV) (F : FF) (fa : FP) : FE := fun ρ A => (fa ρ A).bind fun p A => if p.1.length = n ∧ p.2.length = m then (F (gm (.ref A.length :: p.1) p.2) (A ++ [.ins C []])).bind fun v A' => (match v with
    | .non => .ok (.ref A.length) A'
    | _ => .bad) else .bad
def insOf (C : Str) (A : AH) : MV → Option (List (Str × MV))
  | .ref n => (match A[n]? with
    | some (.ins D fs) => if D = C then some fs else none
    | _ => none)
  | _ => none
def eMeth (C m : Str) (n k : Nat) (gm : List MV → List MV → List MV) (F : FF) (fo : FE) (fa : FP) : FE := fun ρ A => (fo ρ A).bind fun v A => match insOf C A v with
  | some fs => (match fs.lookup m with
    | none => (fa ρ A).bind fun p A => if p.1.length + 1 = n ∧ p.2.length = k then F (gm (v :: p.1) p.2) A else .bad
    | some _ => .bad)
  | none => .bad
def eFld (C f : Str) (fo : FE) : FE := fun ρ A => (fo ρ A).bind fun v A => match insOf C A v with
  | some fs => (match fs.lookup f with
    | some x => .ok x A
    | none => .bad)
  | none => .bad
def putFM (f : Str) (v : MV) : List (Str × MV) → List (Str × MV)
  | [] => [(f, v)]
  | (g, w) :: r => if g = f then (g, v) :: r else (g, w) :: putFM f v r
def sFld (C f : Str) (fo fv : FE) : FS := fun ρ A => (fv ρ A).fs ρ fun y A => (fo ρ A).fs ρ fun v A => match v with
  | .ref n => (match A[n]? with
    | some (.ins D fs) => if D = C ∧ fs.length < 900 then .nx ρ (A.set n (.ins C (putFM f y fs))) else .bad
    | _ => .bad)
  | _ => .bad
/-- the last of the tracked -/
theorem tr_last {K : PySem.W.Frag} {ι : Io} {A : AH} {H : Hp} (S : Sim K ι A H) (p : Addr) : (ι.tr ++ [p])[A.length]? = some p := by
  rw [← S.len, List.getElem?_append_right (Nat.le_refl _), Nat.sub_self]
  rfl
theorem Sim.insOf {K : PySem.W.Frag} {ι : Io} {A : AH} {H : Hp} {C : Str} {v : MV} {u : V} {fs : List (Str × MV)} (S : Sim K ι A H) (r : RV K ι H v u) (h : Mv.insOf C A v = some fs) : ∃ a dx ps, u = .ref a ∧ H a = some (.ins (He.ga K C) dx ps) ∧ RFs K ι H fs ps := by
  unfold Mv.insOf at h
  split at h
  · split at h
    · rename_i e
      split at h
      · rename_i ec
        cases h
        subst ec
        obtain ⟨a, rfl, _, ok⟩ := S.ref r e
        cases ok with
        | ins h1 h2 => exact ⟨a, _, _, rfl, h1, h2⟩
      · cases h
    · cases h
  · cases h
theorem RFs.put {K : PySem.W.Frag} {ι : Io} {H : Hp} {f : Str} {y : MV} {u : V} (r : RV K ι H y u) : ∀ {fs : List (Str × MV)} {ps : List (Str × V)}, RFs K ι H fs ps → RFs K ι H (putFM f y fs) (putF f u ps)
  | _, _, .nil => .cons r .nil
  | _, _, .cons (k := k) a b => by
    unfold putFM putF
    by_cases h : k = f
    · rw [if_pos h, if_pos h]
      exact .cons r b
    · rw [if_neg h, if_neg h]
      exact .cons a (RFs.put r b)
section
variable {X : Cx} {W : Wi} {k n : Nat} {f : Addr} {fd : FuncData} {ps ks : List Str} {gm : List MV → List MV → List MV} {F : FF} {fa : FP} {x : Str} {p pos apos : Pos} {es : List Expr} {kws : List Keyword}
theorem run_M {pins : List (Addr × Obj)} {σ : L2.St} {H : Hp} {s : Shared} {Q : VK} {us ws : List Value} {vs zs : List V} {ms ns : List MV} {ι : Io} {A : AH} (G : FnOk X.prog X.w X.K X.mg X.base (L2.CX X.prog X.w) k f fd ps (spM X.K ps.length F)) (hr : Room k X.A) (B : KBM X.K fd ps n ks gm) (tk : Takes X W.w)
    (I : Inv X pins σ H s) (S : Sim X.K ι A H) (rm : RVs X.K ι H ms vs) (rn : RVs X.K ι H ns zs) (l1 : ms.length = n) (l2 : ns.length = ks.length) (r : Vals vs us) (rz : Vals zs ws) (h : RP X.K W σ (rV X.K) ι H (F (gm ms ns) A) Q) : wpAny (model X.prog X.w) X.A (call (.ref f) us (ks.zip ws)) (EP X pins σ Q) X.xe s := by
  obtain ⟨g, gV, B, hg⟩ := B.ex
  obtain ⟨hv, hl⟩ := hg l1 l2 rm rn
  have r2 := B.rel r rz
  refine wpAny_call (codeAny_mono (G.run X.A X.stack s H ⟨us, ks.zip ws⟩ (g us ws) (gV vs zs) Q (WE W.w σ) hr I.env0 (B.to s us ws I.kIn (by rw [← r.length, ← rm.length, l1]) (by rw [← rz.length, ← rn.length, l2])) r2 ⟨hl, ι, A, _, S, hv, h.wi fun _ _ _ z => z⟩) fun r s' hq => ?_)
  cases r with
  | error e => exact passAt tk σ pins H s e s' I hq
  | ok fl =>
    cases fl with
    | ret u => exact I.after hq
    | next => exact False.elim hq
    | brk => exact False.elim hq
    | cont => exact False.elim hq
theorem m_call (G : FnOk X.prog X.w X.K X.mg X.base (L2.CX X.prog X.w) k f fd ps (spM X.K ps.length F)) (hr : Room k X.A) (hm : X.mg x = some (.ref f)) (hk : PySem.W.keepIn X.K (.ref f) = true) (B : KBM X.K fd ps n ks gm) (tk : Takes X W.w) (ha : AM X W pos es kws ks fa) (hg : Gl X x := by rfl) (hdb : (x == ("__debug__" : Str)) = false := by decide) :
    PE X (.Call (.Name x p) es kws pos) (tM X.K W (eCall n ks.length gm F fa)) := by
  refine ⟨fun pins s σ H Q I ⟨ι, A, ρ, S, E, h⟩ => ?_⟩
  refine wpAny_Call_Name_kw (ld_glob I hg hm ?_ hdb)
  refine ha.run _ [] _ pins s σ H hk I (RP_bind S E h fun ι1 A1 pr qr H1 e1 ⟨S1, r1, r2⟩ h1 => fun us ws s2 I2 v1 v2 => ?_)
  split at h1
  · rename_i hl
    exact run_M G hr B tk I2 S1 r1 r2 hl.1 hl.2 v1 v2 h1
  · exact h1.elim
theorem m_meth {C : Str} {m : Str} {o : Expr} {fo : FE} {pl : Sem Bool} (he : PE X o (tM X.K W fo)) (c : Cls X.K (He.ga X.K C)) (hm : Meth X.K (He.ga X.K C) m f) (G : FnOk X.prog X.w X.K X.mg X.base (L2.CX X.prog X.w) k f fd ps (spM X.K ps.length F)) (hr : Room k X.A) (B : KBM X.K fd ps n ks gm) (tk : Takes X W.w) (ha : AM X W pos es kws ks fa)
    (ht : eval (.Call (.Attribute o m apos) es kws pos) X.env = (do
      let ov ← eval o X.env
      standAt apos.atName
      let (f, first) ← holding [ov] (getMethod ov m pl)
      callWith pos f first (backTo pos (starEach es X.env)) (backToKw pos (keywordEach kws X.env))) := by rfl) :
    PE X (.Call (.Attribute o m apos) es kws pos) (tM X.K W (eMeth C m n ks.length gm F fo fa)) := by
  refine ⟨fun pins s σ H Q I ⟨ι, A, ρ, S, E, h⟩ => ?_⟩
  refine PySem.W.methodCall_KW (pl := pl) (thn (he.run pins s σ H (fun u H1 => ∃ a dx qs, u = .ref a ∧ H1 a = some (.ins (He.ga X.K C) dx qs) ∧ qs.lookup m = none ∧ ∀ s1, Inv X pins σ H1 s1 → wpAny (model X.prog X.w) X.A (callWith pos (.ref f) [.ref a] (backTo pos (starEach es X.env)) (backToKw pos (keywordEach kws X.env))) (EP X pins σ Q) X.xe s1) I ?_) fun u s1 ⟨y, H1, I1, rx, a, dx, qs, ex, ea, l, q⟩ => ?_) ht
  · refine RP_bind S E h fun ι1 A1 v u H1 e1 ⟨S1, r1⟩ h1 => ?_
    cases q : insOf C A1 v with
    | none => rw [q] at h1; exact h1.elim
    | some fs =>
      rw [q] at h1
      dsimp only at h1
      obtain ⟨a, dx, qs, rfl, ha1, rf⟩ := S1.insOf r1 q
      cases ql : fs.lookup m with
      | some z => rw [ql] at h1; exact h1.elim
      | none =>
        rw [ql] at h1
        dsimp only at h1
        refine ⟨a, dx, qs, rfl, ha1, rf.getN ql, fun s1 I1 => ?_⟩
        refine ha.run _ [.ref a] _ pins s1 σ H1 hm.kp I1 (RP_bind S1 (E.ext e1) h1 fun ι2 A2 pr qr H2 e2 ⟨S2, r2, r3⟩ h2 => fun us ws s2 I2 v1 v2 => ?_)
        split at h2
        · rename_i hl
          exact run_M (vs := .ref a :: qr.1) G hr B tk I2 S2 (.cons (r1.ext e2) r2) r3 hl.1 hl.2 (.cons rfl v1) v2 h2
        · exact h2.elim
  · subst ex
    obtain rfl : u = Value.ref a := rx
    exact getmeth_ok I1 ea c hm l (q s1 I1)
theorem m_make {C : Str} (M : Mk X.K (He.ga X.K C) f) (G : FnOk X.prog X.w X.K X.mg X.base (L2.CX X.prog X.w) k f fd ps (spM X.K ps.length F)) (hr : Room (k + 1) X.A) (hm : X.mg C = some (.ref (He.ga X.K C))) (B : KBM X.K fd ps (n + 1) ks gm) (tk : Takes X W.w) (ha : AM X W pos es kws ks fa) (hg : Gl X C := by rfl) (hdb : (C == ("__debug__" : Str)) = false := by decide) :
    PE X (.Call (.Name C p) es kws pos) (tM X.K W (eMake C n ks.length gm F fa)) := by
  refine ⟨fun pins s σ H Q I ⟨ι, A, ρ, S, E, h⟩ => ?_⟩
  refine wpAny_Call_Name_kw (ld_glob I hg hm ?_ hdb)
  refine ha.run _ [] _ pins s σ H M.kp I (RP_bind S E h fun ι1 A1 pr qr H1 e1 ⟨S1, r1, r2⟩ h1 => fun us ws s2 I2 v1 v2 => ?_)
  split at h1
  · rename_i hl
    obtain ⟨g, gV, B, hg⟩ := B.ex
    have fx : H1 (s2.heap.objs.size + 1) = none := I2.hok.fresh (Nat.le_succ _)
    have fdx : H1 s2.heap.objs.size = none := I2.hok.fresh (Nat.le_refl _)
    have ne : s2.heap.objs.size ≠ s2.heap.objs.size + 1 := Nat.ne_of_lt (Nat.lt_succ_self _)
    have fx' : upd H1 s2.heap.objs.size (.own (s2.heap.objs.size + 1)) (s2.heap.objs.size + 1) = none := by
      rw [upd_ne (Ne.symm ne)]
      exact fx
    have I3 := Inv.made (C := He.ga X.K C) I2
    have Sx := (S1.new1 (o := .own (s2.heap.objs.size + 1)) fdx)
    have S3 := Sx.push (m := .ins C []) (o := .ins (He.ga X.K C) s2.heap.objs.size []) fx' (.ins upd_same .nil)
    have e3 : Ext ι1 H1 ⟨ι1.tr ++ [s2.heap.objs.size + 1], ι1.pv⟩ (upd (upd H1 s2.heap.objs.size (.own (s2.heap.objs.size + 1))) (s2.heap.objs.size + 1) (.ins (He.ga X.K C) s2.heap.objs.size [])) := (Ext.new1 fdx).trans (Ext.push fx')
    have rr := r1.ext e3
    have rr2 := r2.ext e3
    have rself : RV X.K ⟨ι1.tr ++ [s2.heap.objs.size + 1], ι1.pv⟩ (upd (upd H1 s2.heap.objs.size (.own (s2.heap.objs.size + 1))) (s2.heap.objs.size + 1) (.ins (He.ga X.K C) s2.heap.objs.size [])) (.ref A1.length) (.ref (s2.heap.objs.size + 1)) := .ref (tr_last S1 _)
    obtain ⟨hv, hll⟩ := hg (ms := .ref A1.length :: pr.1) (by rw [List.length_cons, hl.1]) hl.2 (.cons rself rr) rr2
    have rv2 : Vals (V.ref (s2.heap.objs.size + 1) :: qr.1) (Value.ref (s2.heap.objs.size + 1) :: us) := .cons rfl v1
    have n1 : (Value.ref (s2.heap.objs.size + 1) :: us).length = n + 1 := by
      rw [List.length_cons, ← v1.length, ← r1.length, hl.1]
    refine wpAny_call (make_map (f := f) I2.kIn M.makes M.init (beq_iff_eq.mp M.fn) (codeAny_mono (G.run _ X.stack _ _ ⟨Value.ref (s2.heap.objs.size + 1) :: us, ks.zip ws⟩ (g (Value.ref (s2.heap.objs.size + 1) :: us) ws) (gV (.ref (s2.heap.objs.size + 1) :: qr.1) qr.2) (fun v H2 => v = .non ∧ Q (.ref (s2.heap.objs.size + 1)) H2) (WE W.w σ) (hr.make _ us (ks.zip ws))
      (I3.env0.make _ us (ks.zip ws)) (B.to _ (Value.ref (s2.heap.objs.size + 1) :: us) ws I3.kIn n1 (by rw [← v2.length, ← r2.length, hl.2])) (B.rel rv2 v2) ⟨hll, _, _, _, S3, hv, ?_⟩) fun r s' hq' => ?_))
    · cases ef : F (gm (.ref A1.length :: pr.1) pr.2) (A1 ++ [.ins C []]) with
      | ok v A' =>
        rw [ef] at h1
        rintro ι' H' u x ⟨S', rv⟩
        cases rv with
        | non => exact ⟨rfl, h1 ι' H' _ (e3.trans x) ⟨S', rself.ext x⟩⟩
        | _ => exact h1.elim
      | err c fs A' =>
        rw [ef] at h1
        exact fun ι' H' d x s er => h1 ι' H' d (e3.trans x) s er
      | bad => rw [ef] at h1; exact h1.elim
    · cases r with
      | error e => exact passAt tk σ pins _ _ e s' I3 hq'
      | ok fl =>
        cases fl with
        | ret u =>
          obtain ⟨v, H', I4, rv, ev, q3⟩ := I3.after hq'
          subst ev
          exact ⟨rv, ⟨V.ref (s2.heap.objs.size + 1), H', I4, rfl, q3⟩⟩
        | next => exact False.elim hq'
        | brk => exact False.elim hq'
        | cont => exact False.elim hq'
  · exact h1.elim
/-! ### fields -/
theorem m_fld {C f : Str} {o : Expr} {fo : FE} (he : PE X o (tM X.K W fo)) (c : Cls X.K (He.ga X.K C)) (n : NoAttr X.K (He.ga X.K C) f) (hb : attributeBase o f X.env (eval o X.env) = eval o X.env := by rfl) : PE X (.Attribute o f pos) (tM X.K W (eFld C f fo)) :=
  (pe_fld he hb).imp fun σ H Q ⟨ι, A, ρ, S, E, h⟩ => RP_bind S E h fun ι1 A1 v u H1 e1 ⟨S1, r1⟩ h1 => by
    cases q : insOf C A1 v with
    | none => rw [q] at h1; exact h1.elim
    | some fs =>
      rw [q] at h1
      dsimp only at h1
      obtain ⟨a, dx, qs, rfl, ha1, rf⟩ := S1.insOf r1 q
      cases ql : fs.lookup f with
      | none => rw [ql] at h1; exact h1.elim
      | some z =>
        rw [ql] at h1
        obtain ⟨b, hb, rb⟩ := rf.get ql
        exact ⟨a, _, dx, qs, b, rfl, ha1, c, n, hb, h1.ok0 ⟨S1, rb⟩⟩
theorem ms_fld {C f : Str} {o e : Expr} {fo fv : FE} {pos' : Pos} (he : PE X o (tM X.K W fo)) (hv : PE X e (tM X.K W fv)) (c : Cls X.K (He.ga X.K C)) (n : NoAttr X.K (He.ga X.K C) f) (hs : swapsWith e (some (.Attribute o f pos')) pos.line X.env = pure false := by rfl) : PS X (.Assign [.Attribute o f pos'] e pos) (tMS X.K W (sFld C f fo fv)) :=
  (ps_fld he hv hs).imp fun D σ H ⟨ι, A, ρ, S, E, h⟩ => RPS_bind S E h fun ι1 A1 y u H1 e1 ⟨S1, r1⟩ h1 => RPS_bind S1 (E.ext e1) h1 fun ι2 A2 v w H2 e2 ⟨S2, r2⟩ h2 => by
    split at h2
    · rename_i k
      split at h2
      · rename_i D' fs ek
        split at h2
        · rename_i hc
          obtain ⟨hc, hl⟩ := hc
          subst hc
          obtain ⟨a, rfl, ea, ok⟩ := S2.ref r2 ek
          cases ok with
          | @ins _ dx _ _ qs h3 h4 =>
            have hm := List.mem_of_getElem? ea
            refine ⟨a, _, dx, qs, rfl, h3, c, n, by rw [← h4.length]; omega, h2 ι2 _ σ (Ext.mut hm fun o u q => by rw [h3] at q; cases q) (S2.put ea (.ins upd_same ((RFs.put (r1.ext e2) h4).le (Le.mut hm)))) ((E.ext (e1.trans e2)).le (Le.mut hm))⟩
        · exact h2.elim
      · exact h2.elim
    · exact h2.elim
end
end Mv
/-! Mv6: data, ==, in, subscripts, len, isinstance -/
namespace Mv
open PySem PySem.Spec PyProof.Rows L2 Fk
/-! ### views of values -/
def lstV (A : AH) : MV → Option (List MV)
  | .lst xs => some xs
  | .ref n => (match A[n]? with
    | some (.lst xs) => some xs
    | some (.lkl xs) => some xs
    | _ => none)
  | _ => none
def dctV (A : AH) : MV → Option (List (Key × MV))
  | .ref n => (match A[n]? with
    | some (.dct xs) => some xs
    | some (.lkd xs) => some xs
    | _ => none)
  | _ => none
def keyOf : MV → Option Key
  | .int i => some (.inl i)
  | .str x => some (.inr x)
  | _ => none
def valM (kvs : List (Key × MV)) (k : Key) : Option MV := (kvs.find? fun kv => decide (kv.1 = k)).map (·.2)
def putM (kvs : List (Key × MV)) (k : Key) (v : MV) : List (Key × MV) := if (kvs.any fun kv => decide (kv.1 = k)) = true then kvs.map fun kv => if kv.1 = k then (kv.1, v) else kv else kvs ++ [(k, v)]
def dropM (kvs : List (Key × MV)) (k : Key) : List (Key × MV) := kvs.filter fun kv => decide (kv.1 ≠ k)
section
variable {K : PySem.W.Frag} {ι : Io} {H : Hp} {A : AH} {v : MV} {u : V} {vs : List MV} {kvs : List (Key × MV)} {ps : List (Key × V)} {k : Key}
theorem Sim.lstX (S : Sim K ι A H) (r : RV K ι H v u) (h : Mv.lstV A v = some vs) : ∃ a xs, u = .ref a ∧ Rd H a (.lst xs) ∧ RVs K ι H vs xs := by
  unfold Mv.lstV at h
  split at h
  · cases h
    cases r with
    | lst h r => exact ⟨_, _, rfl, h.2, r⟩
  · split at h
    · rename_i e
      cases h
      obtain ⟨a, rfl, _, ok⟩ := S.ref r e
      cases ok with
      | lst h1 h2 => exact ⟨a, _, rfl, .inl h1, h2⟩
    · rename_i e
      cases h
      obtain ⟨a, rfl, _, ok⟩ := S.ref r e
      cases ok with
      | lkl h1 h2 => exact ⟨a, _, rfl, .inr ⟨_, h1⟩, h2⟩
    · cases h
  · cases h
theorem Sim.lstV (S : Sim K ι A H) (r : RV K ι H v u) (h : Mv.lstV A v = some vs) : ∃ a xs, u = .ref a ∧ SqL K H a xs ∧ RVs K ι H vs xs := by
  obtain ⟨a, xs, e, h1, h2⟩ := S.lstX r h
  exact ⟨a, xs, e, .inl h1, h2⟩
theorem Sim.dctV (S : Sim K ι A H) (r : RV K ι H v u) (h : Mv.dctV A v = some kvs) : ∃ a ps, u = .ref a ∧ Rd H a (.dK ps) ∧ RKs K ι H kvs ps := by
  unfold Mv.dctV at h
  split at h
  · split at h
    · rename_i e
      cases h
      obtain ⟨a, rfl, _, ok⟩ := S.ref r e
      cases ok with
      | dct h1 h2 => exact ⟨a, _, rfl, .inl h1, h2⟩
    · rename_i e
      cases h
      obtain ⟨a, rfl, _, ok⟩ := S.ref r e
      cases ok with
      | lkd h1 h2 => exact ⟨a, _, rfl, .inr ⟨_, h1⟩, h2⟩
    · cases h
  · cases h
theorem keyOf_rel (r : RV K ι H v u) (h : keyOf v = some k) : u = kV k := by
  cases r with
  | int i => cases h; rfl
  | str x => cases h; rfl
  | _ => cases h
theorem RKs.val : ∀ {kvs : List (Key × MV)} {ps : List (Key × V)}, RKs K ι H kvs ps → (∀ m, valM kvs k = some m → ∃ b, valV ps k = some b ∧ RV K ι H m b) ∧ (valM kvs k = none → valV ps k = none)
  | _, _, .nil => ⟨fun m e => (by cases e), fun _ => rfl⟩
  | _, _, .cons (k := j) (v := v) (vs := vs) (x := x) (xs := xs) r t => by
    obtain ⟨h1, h2⟩ := RKs.val t
    by_cases e : j = k
    · refine ⟨fun m q => ?_, fun q => ?_⟩
      · have : valM ((j, v) :: vs) k = some v := by simp [valM, List.find?_cons, e]
        rw [this] at q
        cases q
        exact ⟨x, valV_pos e, r⟩
      · have : valM ((j, v) :: vs) k = some v := by simp [valM, List.find?_cons, e]
        rw [this] at q
        cases q
    · refine ⟨fun m q => ?_, fun q => ?_⟩
      · have z : valM ((j, v) :: vs) k = valM vs k := by simp [valM, List.find?_cons, e]
        rw [z] at q
        rw [valV_neg e]
        exact h1 m q
      · have z : valM ((j, v) :: vs) k = valM vs k := by simp [valM, List.find?_cons, e]
        rw [z] at q
        rw [valV_neg e]
        exact h2 q
theorem RKs.any : ∀ {kvs : List (Key × MV)} {ps : List (Key × V)}, RKs K ι H kvs ps → (kvs.any fun kv => decide (kv.1 = k)) = ps.any fun kv => decide (kv.1 = k)
  | _, _, .nil => rfl
  | _, _, .cons r t => by simp only [List.any_cons, RKs.any t]
theorem RKs.repl {m : MV} {b : V} (q : RV K ι H m b) : ∀ {kvs : List (Key × MV)} {ps : List (Key × V)}, RKs K ι H kvs ps → RKs K ι H (kvs.map fun kv => if kv.1 = k then (kv.1, m) else kv) (ps.map fun kv => if kv.1 = k then (kv.1, b) else kv)
  | _, _, .nil => .nil
  | _, _, .cons (k := j) r t => by
    simp only [List.map_cons]
    by_cases e : j = k
    · rw [if_pos e, if_pos e]
      exact .cons q (RKs.repl q t)
    · rw [if_neg e, if_neg e]
      exact .cons r (RKs.repl q t)
theorem RKs.append : ∀ {v w : List (Key × MV)} {x y : List (Key × V)}, RKs K ι H v x → RKs K ι H w y → RKs K ι H (v ++ w) (x ++ y)
  | _, _, _, _, .nil, q => q
  | _, _, _, _, .cons a b, q => .cons a (b.append q)
theorem RKs.put {m : MV} {b : V} (q : RV K ι H m b) (r : RKs K ι H kvs ps) : RKs K ι H (putM kvs k m) (putK ps k b) := by
  unfold putM putK
  rw [r.any]
  split
  · exact r.repl q
  · exact r.append (.cons q .nil)
theorem RKs.drop : ∀ {kvs : List (Key × MV)} {ps : List (Key × V)}, RKs K ι H kvs ps → RKs K ι H (dropM kvs k) (dropK ps k)
  | _, _, .nil => .nil
  | _, _, .cons (k := j) r t => by
    unfold dropM dropK
    simp only [List.filter_cons]
    by_cases e : j = k
    · simp only [e, ne_eq, not_true, decide_false, Bool.false_eq_true, if_false]
      exact RKs.drop t
    · simp only [ne_eq, e, not_false_eq_true, decide_true, if_true]
      exact .cons r (RKs.drop t)
theorem RKs.keys : ∀ {kvs : List (Key × MV)} {ps : List (Key × V)}, RKs K ι H kvs ps → kvs.map (·.1) = ps.map (·.1)
  | _, _, .nil => rfl
  | _, _, .cons r t => by rw [List.map_cons, List.map_cons, RKs.keys t]
end
/-! ### data -/
mutual
def datM : MV → Option PyData
  | .non => some .none
  | .bl b => some (.bool b)
  | .int i => some (.int i)
  | .str x => some (.str x)
  | .tup xs => (datMs xs).map .tuple
  | .ptp xs => (datMs xs).map .tuple
  | .lst xs => (datMs xs).map .list
  | _ => none
def datMs : List MV → Option (List PyData)
  | [] => some []
  | x :: xs => match datM x, datMs xs with
    | some d, some ds => some (d :: ds)
    | _, _ => none
end
def datA (A : AH) (v : MV) : Option PyData := match v with
  | .ref n => (match lstV A (.ref n) with
    | some xs => (datMs xs).map .list
    | none => none)
  | v => datM v
def okD (d : PyData) : Bool := d.plain && decide (d.depth ≤ 60)
mutual
theorem datM_dp {K : PySem.W.Frag} {ι : Io} {H : Hp} : ∀ {v : MV} {u : V} {d : PyData}, RV K ι H v u → datM v = some d → Dp K H u d
  | _, _, d, .non, e => by simp only [datM] at e; cases e; exact .non
  | _, _, d, .bl b, e => by simp only [datM] at e; cases e; exact .bl b
  | _, _, d, .int b, e => by simp only [datM] at e; cases e; exact .int b
  | _, _, d, .str b, e => by simp only [datM] at e; cases e; exact .str b
  | _, _, d, .byt b, e => by simp only [datM] at e; cases e
  | _, _, d, .ty b, e => by simp only [datM] at e; cases e
  | _, _, d, .glo b, e => by simp only [datM] at e; cases e
  | _, _, d, .ref h, e => by simp only [datM] at e; cases e
  | _, _, d, .obj _ _ _, e => by simp only [datM] at e; cases e
  | _, _, d, .tup (vs := vs) h r, e => by
    simp only [datM] at e
    obtain ⟨ds, e1, rfl⟩ := Option.map_eq_some_iff.mp e
    exact .tup (h.elim (fun h => .inl h.2) sqT0) (datMs_dp r e1)
  | _, _, d, .ptp n h q r, e => by
    simp only [datM] at e
    obtain ⟨ds, e1, rfl⟩ := Option.map_eq_some_iff.mp e
    exact .tup (.inl (.inr ⟨_, h⟩)) (datMs_dp r e1)
  | _, _, d, .lst h r, e => by
    simp only [datM] at e
    obtain ⟨ds, e1, rfl⟩ := Option.map_eq_some_iff.mp e
    exact .lst (.inl h.2) (datMs_dp r e1)
theorem datMs_dp {K : PySem.W.Frag} {ι : Io} {H : Hp} : ∀ {v : List MV} {u : List V} {d : List PyData}, RVs K ι H v u → datMs v = some d → DpAll K H u d
  | _, _, d, .nil, e => by simp only [datMs] at e; cases e; exact .nil
  | _, _, d, .cons a b, e => by
    simp only [datMs] at e
    split at e
    · rename_i d1 d2 e1 e2
      cases e
      exact .cons (datM_dp a e1) (datMs_dp b e2)
    · cases e
end
theorem datA_dp {K : PySem.W.Frag} {ι : Io} {H : Hp} {A : AH} {v : MV} {u : V} {d : PyData} (S : Sim K ι A H) (r : RV K ι H v u) (e : datA A v = some d) : Dp K H u d := by
  unfold datA at e
  split at e
  · rename_i n
    cases q : lstV A (.ref n) with
    | none => rw [q] at e; cases e
    | some xs =>
      rw [q] at e
      obtain ⟨ds, e1, rfl⟩ := Option.map_eq_some_iff.mp e
      obtain ⟨a, ys, rfl, sq, rs⟩ := S.lstV r q
      exact .lst sq (datMs_dp rs e1)
  · exact datM_dp r e
def eqM : MV → MV → AH → Rs MV := fun x y A => match datA A x, datA A y with
  | some d, some e => if okD d && okD e then .ok (.bl (PyData.eqv d e)) A else .bad
  | _, _ => .bad
def neM : MV → MV → AH → Rs MV := fun x y A => match datA A x, datA A y with
  | some d, some e => if okD d && okD e then .ok (.bl (!PyData.eqv d e)) A else .bad
  | _, _ => .bad
section
variable {X : Cx} {W : Wi} {k : Nat}
theorem room_min {a b : Nat} {A : Around} (hr : Room k A) (h : a ≤ 60) : A.units + 1 + min a b < cLine := by
  have := hr.units
  have := Nat.min_le_left a b
  omega
theorem op_eqP (hr : Room k X.A) : OpR X (compareOp .Eq) (fun x y H Q => ∃ d e, Dp X.K H x d ∧ Dp X.K H y e ∧ okD d = true ∧ okD e = true ∧ Q (.bl (PyData.eqv d e)) H) := by
  intro pins s σ H x y v u Q I rx ry h
  obtain ⟨d, e, hd, he, sd, se, q⟩ := h
  obtain ⟨as, r1⟩ := Dp.reads I d x v hd rx
  obtain ⟨bs, r2⟩ := Dp.reads I e y u he ry
  obtain ⟨p1, p2⟩ := Bool.and_eq_true_iff.mp sd
  obtain ⟨p3, p4⟩ := Bool.and_eq_true_iff.mp se
  have := room_min (b := e.depth) hr (of_decide_eq_true p2)
  exact SeqAt.eq_plain r1 r2 p1 p3 (by omega) ⟨.bl _, H, I, rfl, q⟩
theorem op_neP (hr : Room k X.A) : OpR X (compareOp .NotEq) (fun x y H Q => ∃ d e, Dp X.K H x d ∧ Dp X.K H y e ∧ okD d = true ∧ okD e = true ∧ Q (.bl (!PyData.eqv d e)) H) := by
  intro pins s σ H x y v u Q I rx ry h
  obtain ⟨d, e, hd, he, sd, se, q⟩ := h
  obtain ⟨as, r1⟩ := Dp.reads I d x v hd rx
  obtain ⟨bs, r2⟩ := Dp.reads I e y u he ry
  obtain ⟨p1, p2⟩ := Bool.and_eq_true_iff.mp sd
  obtain ⟨p3, p4⟩ := Bool.and_eq_true_iff.mp se
  have := room_min (b := e.depth) hr (of_decide_eq_true p2)
  exact SeqAt.ne_plain r1 r2 p1 p3 (by omega) ⟨.bl _, H, I, rfl, q⟩
theorem op_eqM (hr : Room k X.A) : OpM X W (compareOp .Eq) eqM := ⟨_, op_eqP hr, fun {σ ι H A x y u v Q} S rx ry h => by
  unfold eqM at h
  cases q1 : datA A x with
  | none => rw [q1] at h; exact h.elim
  | some d => cases q2 : datA A y with
    | none => rw [q1, q2] at h; exact h.elim
    | some e =>
      rw [q1, q2] at h
      dsimp only at h
      split at h
      · rename_i hk
        obtain ⟨k1, k2⟩ := Bool.and_eq_true_iff.mp hk
        exact ⟨d, e, datA_dp S rx q1, datA_dp S ry q2, k1, k2, h.ok0 ⟨S, .bl _⟩⟩
      · exact h.elim⟩
theorem op_neM (hr : Room k X.A) : OpM X W (compareOp .NotEq) neM := ⟨_, op_neP hr, fun {σ ι H A x y u v Q} S rx ry h => by
  unfold neM at h
  cases q1 : datA A x with
  | none => rw [q1] at h; exact h.elim
  | some d => cases q2 : datA A y with
    | none => rw [q1, q2] at h; exact h.elim
    | some e =>
      rw [q1, q2] at h
      dsimp only at h
      split at h
      · rename_i hk
        obtain ⟨k1, k2⟩ := Bool.and_eq_true_iff.mp hk
        exact ⟨d, e, datA_dp S rx q1, datA_dp S ry q2, k1, k2, h.ok0 ⟨S, .bl _⟩⟩
      · exact h.elim⟩
/-! ### in -/
def inB : MV → MV → AH → Option Bool := fun x c A => match c with
  | .str t => (match x with
    | .str z => some (!(Builtin.Str.occurrences t z 0 t.length 1).isEmpty)
    | _ => none)
  | c => match dctV A c with
    | some kvs => (match keyOf x with
      | some k => some (valM kvs k).isSome
      | none => none)
    | none => match datA A c, datA A x with
      | some (.list ds), some d => if okD (.list ds) && okD d then some (ds.any fun y => PyData.eqv y d) else none
      | some (.tuple ds), some d => if okD (.list ds) && okD d then some (ds.any fun y => PyData.eqv y d) else none
      | _, _ => none
def inM : MV → MV → AH → Rs MV := fun x c A => match inB x c A with
  | some b => .ok (.bl b) A
  | none => .bad
def notInM : MV → MV → AH → Rs MV := fun x c A => match inB x c A with
  | some b => .ok (.bl (!b)) A
  | none => .bad
/-- what in asks -/
def rInM (K : PySem.W.Frag) (neg : Bool) : R2 := fun x y H Q => (∃ i j, x = .str i ∧ y = .str j ∧ Q (.bl (neg != !(Builtin.Str.occurrences j i 0 j.length 1).isEmpty)) H) ∨
  (∃ a o, y = .ref a ∧ DGet H a x o ∧ Q (.bl (neg != o.isSome)) H) ∨ ∃ ds d, (Dp K H y (.list ds) ∨ Dp K H y (.tuple ds)) ∧ Dp K H x d ∧ okD (.list ds) = true ∧ okD d = true ∧ Q (.bl (neg != ds.any fun z => PyData.eqv z d)) H
theorem nb (b : Bool) : (false != b) = b := by cases b <;> rfl
theorem tb (b : Bool) : (true != b) = !b := by cases b <;> rfl
theorem op_inR (hr : Room k X.A) : OpR X (compareOp .In) (rInM X.K false) := by
  intro pins s σ H x y v u Q I rx ry h
  rcases h with ⟨i, j, e1, e2, q⟩ | ⟨a, o, e, g, q⟩ | ⟨ds, d, hc, hx, k1, k2, q⟩
  · rw [nb] at q
    exact op_in_str pins s σ H x y v u Q I rx ry ⟨i, j, e1, e2, q⟩
  · subst e
    cases ry
    rw [nb] at q
    exact d_in (hu_of hr) I g rx fun s' I' => ⟨.bl _, H, I', rfl, q⟩
  · rw [nb] at q
    obtain ⟨bs, r2⟩ := Dp.reads I d x v hx rx
    obtain ⟨p1, p2⟩ := Bool.and_eq_true_iff.mp k1
    obtain ⟨p3, p4⟩ := Bool.and_eq_true_iff.mp k2
    have p1 : PyData.plainAll ds = true := p1
    have p2 : PyData.depthAll ds + 1 ≤ 60 := of_decide_eq_true p2
    have := room_min (b := d.depth) hr (show PyData.depthAll ds ≤ 60 by omega)
    rcases hc with hc | hc
    · obtain ⟨as, r1⟩ := Dp.reads I _ y u hc ry
      exact SeqAt.in_list_data r1 r2 p1 p3 this ⟨.bl _, H, I, rfl, q⟩
    · obtain ⟨as, r1⟩ := Dp.reads I _ y u hc ry
      exact SeqAt.in_tuple_data r1 r2 p1 p3 this ⟨.bl _, H, I, rfl, q⟩
theorem op_notInR (hr : Room k X.A) : OpR X (compareOp .NotIn) (rInM X.K true) := by
  intro pins s σ H x y v u Q I rx ry h
  rcases h with ⟨i, j, e1, e2, q⟩ | ⟨a, o, e, g, q⟩ | ⟨ds, d, hc, hx, k1, k2, q⟩
  · rw [tb] at q
    exact L2.op_notin_str pins s σ H x y v u Q I rx ry ⟨i, j, e1, e2, q⟩
  · subst e
    cases ry
    rw [tb] at q
    exact d_notIn (hu_of hr) I g rx fun s' I' => ⟨.bl _, H, I', rfl, q⟩
  · rw [tb] at q
    obtain ⟨bs, r2⟩ := Dp.reads I d x v hx rx
    obtain ⟨p1, p2⟩ := Bool.and_eq_true_iff.mp k1
    obtain ⟨p3, p4⟩ := Bool.and_eq_true_iff.mp k2
    have p1 : PyData.plainAll ds = true := p1
    have p2 : PyData.depthAll ds + 1 ≤ 60 := of_decide_eq_true p2
    have := room_min (b := d.depth) hr (show PyData.depthAll ds ≤ 60 by omega)
    rcases hc with hc | hc
    · obtain ⟨as, r1⟩ := Dp.reads I _ y u hc ry
      exact SeqAt.notIn_list_data r1 r2 p1 p3 this ⟨.bl _, H, I, rfl, q⟩
    · obtain ⟨as, r1⟩ := Dp.reads I _ y u hc ry
      exact SeqAt.notIn_tuple_data r1 r2 p1 p3 this ⟨.bl _, H, I, rfl, q⟩
theorem DGet.rd {H : Hp} {a : Addr} {kvs : List (Key × V)} {k : Key} (e : Rd H a (.dK kvs)) : DGet H a (kV k) (valV kvs k) := .inl ⟨kvs, k, e, rfl, rfl⟩
theorem inB_ok {K : PySem.W.Frag} {ι : Io} {H : Hp} {A : AH} {x c : MV} {u v : V} {b neg : Bool} {Q : VK} (S : Sim K ι A H) (rx : RV K ι H x u) (rc : RV K ι H c v) (e : inB x c A = some b) (h : Q (.bl (neg != b)) H) : rInM K neg u v H Q := by
  unfold inB at e
  split at e
  · split at e
    · cases e
      cases rx
      cases rc
      exact .inl ⟨_, _, rfl, rfl, h⟩
    · cases e
  · split at e
    · rename_i kvs ed
      split at e
      · rename_i k ek
        cases e
        obtain ⟨a, ps, rfl, hd, rk⟩ := S.dctV rc ed
        have eu := keyOf_rel rx ek
        subst eu
        obtain ⟨h1, h2⟩ := rk.val (k := k)
        have : (valM kvs k).isSome = (valV ps k).isSome := by
          cases q : valM kvs k with
          | none =>
            rw [h2 q]
            rfl
          | some m =>
            obtain ⟨b, e, _⟩ := h1 m q
            rw [e]
            rfl
        rw [this] at h
        exact .inr (.inl ⟨a, _, rfl, DGet.rd hd, h⟩)
      · cases e
    · split at e
      · rename_i ds d e1 e2
        split at e
        · rename_i hk
          cases e
          obtain ⟨k1, k2⟩ := Bool.and_eq_true_iff.mp hk
          exact .inr (.inr ⟨ds, d, .inl (datA_dp S rc e1), datA_dp S rx e2, k1, k2, h⟩)
        · cases e
      · rename_i ds d e1 e2
        split at e
        · rename_i hk
          cases e
          obtain ⟨k1, k2⟩ := Bool.and_eq_true_iff.mp hk
          exact .inr (.inr ⟨ds, d, .inr (datA_dp S rc e1), datA_dp S rx e2, k1, k2, h⟩)
        · cases e
      · cases e
theorem op_inM (hr : Room k X.A) : OpM X W (compareOp .In) inM := ⟨_, op_inR hr, fun {σ ι H A x y u v Q} S rx ry h => by
  unfold inM at h
  cases q : inB x y A with
  | none => rw [q] at h; exact h.elim
  | some b =>
    rw [q] at h
    exact inB_ok S rx ry q (by rw [nb]; exact h.ok0 ⟨S, .bl _⟩)⟩
theorem op_notInM (hr : Room k X.A) : OpM X W (compareOp .NotIn) notInM := ⟨_, op_notInR hr, fun {σ ι H A x y u v Q} S rx ry h => by
  unfold notInM at h
  cases q : inB x y A with
  | none => rw [q] at h; exact h.elim
  | some b =>
    rw [q] at h
    exact inB_ok S rx ry q (by rw [tb]; exact h.ok0 ⟨S, .bl _⟩)⟩
/-! ### subscripts -/
def ixM : MV → MV → AH → Rs MV := fun o i A => match dctV A o with
  | some kvs => (match keyOf i with
    | some k => (match valM kvs k with
      | some v => .ok v A
      | none => .bad)
    | none => .bad)
  | none => match i with
    | .int j => (match tupOf o with
      | some xs => (match atI xs j with
        | some v => .ok v A
        | none => .bad)
      | none => match lstV A o with
        | some xs => (match atI xs j with
          | some v => .ok v A
          | none => .bad)
        | none => match o with
          | .str z => (match atI z.cps.toList j with
            | some c => if z.length ≤ 1000000 then .ok (.str ⟨#[c]⟩) A else .bad
            | none => .bad)
          | _ => .bad)
    | _ => .bad
theorem ix_dict (hr : Room k X.A) : IxR X (fun x y H Q => ∃ a v, x = .ref a ∧ DGet H a y (some v) ∧ Q v H) := by
  intro value slice pins s σ H x y v u Q I rx ry q hs
  obtain ⟨a, w, rfl, g, q⟩ := q
  cases rx
  exact tail_any (dict_typeIs I g) PySem.F.slot_dict_getitem.lookup (d_getItem (hu_of hr) I g ry fun w' s' I' r' => ⟨w, H, I', r', q⟩) hs
theorem RVs.atI {K : PySem.W.Frag} {ι : Io} {H : Hp} {vs : List MV} {xs : List V} {i : Int} {m : MV} (r : RVs K ι H vs xs) (h : L2.atI vs i = some m) : ∃ b, L2.atI xs i = some b ∧ RV K ι H m b := by
  unfold L2.atI at h ⊢
  rw [← r.length]
  cases q : ixN vs.length i with
  | none => rw [q] at h; cases h
  | some j =>
    rw [q] at h
    exact r.get h
/-- a subscript and its plain function -/
structure IxM (X : Cx) (W : Wi) (g : MV → MV → AH → Rs MV) : Prop where
  ex : ∃ r, IxR X r ∧ OpS X W r g
theorem ix_M (hr : Room k X.A) : IxM X W ixM := ⟨_, (ix_dict hr).or ix_seq, fun {σ ι H A x y u v Q} S rx ry h => by
  unfold ixM at h
  split at h
  · rename_i kvs ed
    split at h
    · rename_i kk ek
      split at h
      · rename_i m em
        obtain ⟨a, ps, rfl, hd, rk⟩ := S.dctV rx ed
        have eu := keyOf_rel ry ek
        subst eu
        obtain ⟨b, eb, rb⟩ := (rk.val (k := kk)).1 m em
        refine .inl ⟨a, b, rfl, ?_, h.ok0 ⟨S, rb⟩⟩
        rw [← eb]
        exact DGet.rd hd
      · exact h.elim
    · exact h.elim
  · split at h
    · cases ry
      split at h
      · rename_i xs et
        split at h
        · rename_i m em
          obtain ⟨a, ys, rfl, sq, rs⟩ := rx.sqT et
          obtain ⟨b, eb, rb⟩ := rs.atI em
          exact .inr (.inr (.inl ⟨a, ys, _, b, rfl, rfl, sq, eb, h.ok0 ⟨S, rb⟩⟩))
        · exact h.elim
      · split at h
        · rename_i xs et
          split at h
          · rename_i m em
            obtain ⟨a, ys, rfl, sq, rs⟩ := S.lstV rx et
            obtain ⟨b, eb, rb⟩ := rs.atI em
            exact .inr (.inl ⟨a, ys, _, b, rfl, rfl, sq, eb, h.ok0 ⟨S, rb⟩⟩)
          · exact h.elim
        · split at h
          · split at h
            · rename_i c ec
              split at h
              · rename_i hl
                cases rx
                exact .inr (.inr (.inr ⟨_, _, c, rfl, rfl, lim hl, ec, h.ok0 ⟨S, .str _⟩⟩))
              · exact h.elim
            · exact h.elim
          · exact h.elim
    · exact h.elim⟩
theorem m_ix {g : MV → MV → AH → Rs MV} {a b : Expr} {fa fb : FE} {pos : Pos} (hi : IxM X W g) (ha : PE X a (tM X.K W fa)) (hb : PE X b (tM X.K W fb)) (hs : PlainIx b := by intro _ _; rfl) : PE X (.Subscript a b pos) (tM X.K W (eBin g fa fb)) := by
  obtain ⟨r, hr, hs'⟩ := hi.ex
  exact (pe_ix hr ha hb hs).imp fun σ H Q ⟨ι, A, ρ, S, E, h⟩ => RP_bind S E h fun ι1 A1 x u H1 e1 ⟨S1, r1⟩ h1 => RP_bind S1 (E.ext e1) h1 fun ι2 A2 y v H2 e2 ⟨S2, r2⟩ h2 => hs' S2 (r1.ext e2) r2 h2
/-! ### slices -/
abbrev FO := ME → AH → Rs (Option Int)
def oNone : FO := fun _ A => .ok none A
def oSome (f : FE) : FO := fun ρ A => (f ρ A).bind fun v A => match v with
  | .int i => .ok (some i) A
  | _ => .bad
abbrev rO (K : PySem.W.Frag) : Rel (Option Int) (Option Int) := fun _ _ ι' H' A' a b => Sim K ι' A' H' ∧ a = b
theorem _root_.L2.PO.imp {X : Cx} {e : Option Expr} {t t' : TO} (h : PO X e t) (i : ∀ σ H Q, t' σ H Q → t σ H Q) : PO X e t' := ⟨fun pins s σ H Q I q => h.run pins s σ H Q I (i σ H Q q)⟩
abbrev tMO (K : PySem.W.Frag) (W : Wi) (f : FO) : TO := tG K W (rO K) f
theorem mo_none : PO X none (tMO X.K W oNone) := po_none.imp fun σ H Q ⟨ι, A, ρ, S, E, h⟩ => RP.ok0 h ⟨S, rfl⟩
theorem mo_some {e : Expr} {f : FE} (h : PE X e (tM X.K W f)) : PO X (some e) (tMO X.K W (oSome f)) := (po_some h).imp fun σ H Q ⟨ι, A, ρ, S, E, h⟩ => RP_bind S E h fun ι1 A1 x u H1 e1 ⟨S1, r1⟩ h1 => by
  cases r1 with
  | int i => exact ⟨i, rfl, RP.ok0 h1 ⟨S1, rfl⟩⟩
  | _ => exact h1.elim
def cutM {α : Type} (xs : List α) (lo hi : Option Int) : List α := (xs.drop (HT.sIx xs.length 0 lo)).take (HT.sIx xs.length xs.length hi - HT.sIx xs.length 0 lo)
def aSl (f : FE) (l h : FO) : FL := fun ρ A => (f ρ A).bind fun v A => (l ρ A).bind fun lo A => (h ρ A).bind fun hi A => match lstV A v with
  | some xs => .ok (cutM xs lo hi) A
  | none => .bad
theorem RVs.cut {K : PySem.W.Frag} {ι : Io} {H : Hp} {vs : List MV} {xs : List V} (r : RVs K ι H vs xs) (lo hi : Option Int) : RVs K ι H (cutM vs lo hi) (cutV xs lo hi) := by
  unfold cutM cutV
  rw [r.length]
  exact (r.drop _).take _
theorem ml_slice {e : Expr} {lo hi : Option Expr} {f : FE} {l h : FO} {p2 pos : Pos} (he : PE X e (tM X.K W f)) (hl : PO X lo (tMO X.K W l)) (hh : PO X hi (tMO X.K W h)) : PE X (.Subscript e (.Slice lo hi none p2) pos) (tML X.K W (aSl f l h)) :=
  (pe_slice sl_list he hl hh).imp fun σ H Q ⟨ι, A, ρ, S, E, h⟩ => RP_bind S E h fun ι1 A1 x u H1 e1 ⟨S1, r1⟩ h1 => RP_bind S1 (E.ext e1) h1 fun ι2 A2 y v H2 e2 ⟨S2, r2⟩ h2 => RP_bind S2 (E.ext (e1.trans e2)) h2 fun ι3 A3 z w H3 e3 ⟨S3, r3⟩ h3 => by
    cases r2
    cases r3
    cases q : lstV A3 x with
    | none => rw [q] at h3; exact h3.elim
    | some xs =>
      rw [q] at h3
      obtain ⟨a, ys, rfl, sq, rs⟩ := S3.lstV (r1.ext (e2.trans e3)) q
      exact ⟨a, ys, rfl, sq, fun p hp => h3.newL S3 hp (rs.cut _ _)⟩
def eSlS (f : FE) (l h : FO) : FE := fun ρ A => (f ρ A).bind fun v A => (l ρ A).bind fun lo A => (h ρ A).bind fun hi A => match v with
  | .str z => if z.length ≤ 1000000 then .ok (.str (cutS z lo hi)) A else .bad
  | _ => .bad
theorem m_sliceS {e : Expr} {lo hi : Option Expr} {f : FE} {l h : FO} {p2 pos : Pos} (he : PE X e (tM X.K W f)) (hl : PO X lo (tMO X.K W l)) (hh : PO X hi (tMO X.K W h)) : PE X (.Subscript e (.Slice lo hi none p2) pos) (tM X.K W (eSlS f l h)) :=
  (pe_slice sl_str he hl hh).imp fun σ H Q ⟨ι, A, ρ, S, E, h⟩ => RP_bind S E h fun ι1 A1 x u H1 e1 ⟨S1, r1⟩ h1 => RP_bind S1 (E.ext e1) h1 fun ι2 A2 y v H2 e2 ⟨S2, r2⟩ h2 => RP_bind S2 (E.ext (e1.trans e2)) h2 fun ι3 A3 z w H3 e3 ⟨S3, r3⟩ h3 => by
    cases r2
    cases r3
    cases r1 with
    | str z =>
      dsimp only at h3
      split at h3
      · rename_i hz
        exact ⟨z, rfl, lim hz, h3.ok0 ⟨S3, .str _⟩⟩
      · exact h3.elim
    | _ => exact h3.elim
end
end Mv
/-! Mv7: built-in functions, methods of built-in things, stores -/
namespace Mv
open PySem PySem.Spec PyProof.Rows L2 Fk
/-! ### sorted texts -/
def insS (x : Str) : List Str → List Str
  | [] => [x]
  | y :: r => if ltS y x then y :: insS x r else x :: y :: r
def sortS : List Str → List Str
  | [] => []
  | x :: r => insS x (sortS r)
theorem insS_perm (x : Str) : ∀ l, (insS x l).Perm (x :: l)
  | [] => List.Perm.refl _
  | y :: r => by
    unfold insS
    split
    · exact (List.Perm.cons y (insS_perm x r)).trans (List.Perm.swap x y r)
    · exact List.Perm.refl _
theorem sortS_perm : ∀ l, (sortS l).Perm l
  | [] => List.Perm.refl _
  | x :: r => (insS_perm x (sortS r)).trans (List.Perm.cons x (sortS_perm r))
theorem ltS_iff {x y : Str} : ltS x y = true ↔ x.cps.toList < y.cps.toList := by
  unfold ltS
  exact decide_eq_true_iff
theorem ltS_irrefl (x : Str) : ltS x x = false := by
  unfold ltS
  exact decide_eq_false (List.lt_irrefl _)
theorem ltS_trans {x y z : Str} (h : ltS x y = true) (h' : ltS y z = true) : ltS x z = true := ltS_iff.mpr (List.lt_trans (ltS_iff.mp h) (ltS_iff.mp h'))
theorem ltS_conn {x y : Str} (h : ltS x y = false) (h' : ltS y x = false) : x = y := by
  have h1 : ¬ x.cps.toList < y.cps.toList := fun z => by rw [ltS_iff.mpr z] at h; cases h
  have h2 : ¬ y.cps.toList < x.cps.toList := fun z => by rw [ltS_iff.mpr z] at h'; cases h'
  have e : x.cps.toList = y.cps.toList := List.le_antisymm (List.not_lt.mp h2) (List.not_lt.mp h1)
  obtain ⟨⟨a⟩⟩ := x
  obtain ⟨⟨b⟩⟩ := y
  simp at e
  rw [e]
theorem ltS_asymm {x y : Str} (h : ltS x y = true) : ltS y x = false := by
  cases q : ltS y x with
  | false => rfl
  | true =>
    have := ltS_trans h q
    rw [ltS_irrefl] at this
    cases this
/-- ascending, equal ones allowed -/
def AscS (l : List Str) : Prop := l.Pairwise fun a b => ltS b a = false
theorem le_transS {x y z : Str} (h : ltS y x = false) (h' : ltS z y = false) : ltS z x = false := by
  cases q : ltS z x with
  | false => rfl
  | true =>
    cases q2 : ltS y z with
    | true =>
      have := ltS_trans q2 q
      rw [h] at this
      cases this
    | false =>
      have e := ltS_conn q2 h'
      subst e
      rw [h] at q
      cases q
theorem insS_asc (x : Str) : ∀ l, AscS l → AscS (insS x l)
  | [], _ => List.pairwise_singleton _ _
  | y :: r, h => by
    obtain ⟨h1, h2⟩ := List.pairwise_cons.mp h
    unfold insS
    split
    · rename_i q
      refine List.pairwise_cons.mpr ⟨fun z hz => ?_, insS_asc x r h2⟩
      rcases List.mem_cons.mp ((insS_perm x r).mem_iff.mp hz) with e | e
      · rw [e]
        exact ltS_asymm q
      · exact h1 z e
    · rename_i q
      have q : ltS y x = false := by simpa using q
      refine List.pairwise_cons.mpr ⟨fun z hz => ?_, h⟩
      rcases List.mem_cons.mp hz with e | e
      · rw [e]
        exact q
      · exact le_transS q (h1 z e)
theorem sortS_asc : ∀ l, AscS (sortS l)
  | [] => List.Pairwise.nil
  | x :: r => insS_asc x _ (sortS_asc r)
theorem asc_unique : ∀ {l m : List Str}, l.Perm m → AscS l → AscS m → l = m
  | [], m, p, _, _ => (List.nil_perm.mp p).symm
  | x :: l, [], p, _, _ => by simpa using p.length_eq
  | x :: l, y :: m, p, h, h' => by
    obtain ⟨h1, h2⟩ := List.pairwise_cons.mp h
    obtain ⟨h3, h4⟩ := List.pairwise_cons.mp h'
    have e : x = y := by
      have hx : x ∈ y :: m := p.mem_iff.mp (List.mem_cons_self ..)
      have hy : y ∈ x :: l := p.mem_iff.mpr (List.mem_cons_self ..)
      rcases List.mem_cons.mp hx with e | e
      · exact e
      · rcases List.mem_cons.mp hy with e' | e'
        · exact e'.symm
        · exact ltS_conn (h3 x e) (h1 y e') 
    subst e
    rw [asc_unique ((List.perm_cons x).mp p) h2 h4]
theorem asc_of_sortedS : ∀ {l : List Str}, PyProof.Rows.sortedS l = true → AscS l
  | [], _ => List.Pairwise.nil
  | x :: r, h => by
    have key : ∀ (r : List Str) (x : Str), PyProof.Rows.risingS x r = true → AscS (x :: r) := by
      intro r
      induction r with
      | nil => exact fun x _ => List.pairwise_singleton _ _
      | cons y r ih =>
        intro x h
        obtain ⟨h1, h2⟩ := Bool.and_eq_true_iff.mp (show (!Spec.ltCps y.cps.toList x.cps.toList && PyProof.Rows.risingS y r) = true from h)
        have h1 : ltS y x = false := by
          rw [ltCps_eq] at h1
          unfold ltS
          simpa using h1
        have hr := ih y h2
        refine List.pairwise_cons.mpr ⟨fun z hz => ?_, hr⟩
        rcases List.mem_cons.mp hz with e | e
        · rw [e]
          exact h1
        · exact le_transS h1 (List.rel_of_pairwise_cons hr e)
    exact key r x h
theorem sorted_is {l m : List Str} (p : l.Perm m) (h : PyProof.Rows.sortedS l = true) : l = sortS m := asc_unique (p.trans (sortS_perm m).symm) (asc_of_sortedS h) (sortS_asc m)
/-! ### calls of built-ins -/
def CallS {α : Type} (X : Cx) (W : Wi) (R : Rel α V) (r : List V → Hp → VK → Prop) (g : List MV → AH → Rs α) : Prop := ∀ {σ : L2.St} {ι : Io} {H : Hp} {A : AH} {ms : List MV} {vs : List V} {Q : VK}, Sim X.K ι A H → RVs X.K ι H ms vs → RP X.K W σ R ι H (g ms A) Q → r vs H Q
section
variable {X : Cx} {W : Wi} {k : Nat} {x : Str} {e e2 : Expr} {es : List Expr} {g : FL} {p pos : Pos}
theorem m_cB {α : Type} {R : Rel α V} [Mono R] {id : String} {r : List V → Hp → VK → Prop} {F : List MV → AH → Rs α} (hc : CallR X (.builtin id) r) (hs : CallS X W R r F) (hm : X.mg x = none) (hv : bootBuiltins x = some (.builtin id)) (ha : PA X (e :: es) (tMA X.K W g)) (hg : Gl X x := by rfl) (hn : x ≠ "__name__" := by decide) (hdb : (x == ("__debug__" : Str)) = false := by decide)
    (he : starEach (e :: es) X.env = (false, eval e X.env) :: starEach es X.env := by rfl) (hpl : (backTo pos (starEach es X.env)).any (·.1) = false := by rfl) : PE X (.Call (.Name x p) (e :: es) [] pos) (tG X.K W R fun ρ A => (g ρ A).bind F) :=
  (pe_callB hc hg hm hv ha hn hdb he hpl).imp fun σ H Q ⟨ι, A, ρ, S, E, h⟩ => RP_bind S E h fun ι1 A1 ms vs H1 e1 ⟨S1, r1⟩ h1 => hs S1 r1 h1
theorem m_cT {α : Type} {R : Rel α V} [Mono R] {id : String} {r : List V → Hp → VK → Prop} {F : List MV → AH → Rs α} (hc : CallR X (.type id) r) (hs : CallS X W R r F) (hm : X.mg x = none) (hv : bootBuiltins x = some (.type id)) (ha : PA X (e :: es) (tMA X.K W g)) (hg : Gl X x := by rfl) (hn : x ≠ "__name__" := by decide) (hdb : (x == ("__debug__" : Str)) = false := by decide)
    (he : starEach (e :: es) X.env = (false, eval e X.env) :: starEach es X.env := by rfl) (hpl : (backTo pos (starEach es X.env)).any (·.1) = false := by rfl) : PE X (.Call (.Name x p) (e :: es) [] pos) (tG X.K W R fun ρ A => (g ρ A).bind F) :=
  (pe_callTy hc hg hm hv ha hn hdb he hpl).imp fun σ H Q ⟨ι, A, ρ, S, E, h⟩ => RP_bind S E h fun ι1 A1 ms vs H1 e1 ⟨S1, r1⟩ h1 => hs S1 r1 h1
/-- len -/
def lenM : List MV → AH → Rs MV := fun ms A => match ms with
  | [v] => (match tupOf v with
    | some xs => .ok (.int xs.length) A
    | none => match lstV A v with
      | some xs => .ok (.int xs.length) A
      | none => match dctV A v with
        | some kvs => .ok (.int kvs.length) A
        | none => match v with
          | .str z => if z.length ≤ 1000000 then .ok (.int z.length) A else .bad
          | _ => .bad)
  | _ => .bad
theorem call_lenRd : CallR X (.builtin "len") (fun xs H Q => ∃ a kvs, xs = [V.ref a] ∧ Rd H a (.dK kvs) ∧ Q (.int kvs.length) H) := by
  intro pins s σ H xs us Q I r h
  obtain ⟨a, kvs, rfl, hd, q⟩ := h
  rw [Vals.ref1 r]
  exact d_len I hd fun t s' I' => ⟨.int _, H, I', ⟨_, rfl⟩, q⟩
theorem lenS : CallS X W (rV X.K) (fun xs H Q => (∃ p ys, xs = [.ref p] ∧ (SqL X.K H p ys ∨ SqT X.K H p ys) ∧ Q (.int ys.length) H) ∨ (∃ z, xs = [.str z] ∧ z.length ≤ sizeLine ∧ Q (.int z.length) H) ∨ ∃ a kvs, xs = [V.ref a] ∧ Rd H a (.dK kvs) ∧ Q (.int kvs.length) H) lenM := fun {σ ι H A ms vs Q} S r h => by
  unfold lenM at h
  split at h
  · cases r with
    | cons rv rr =>
      cases rr
      split at h
      · rename_i xs et
        obtain ⟨a, ys, rfl, sq, rs⟩ := rv.sqT et
        rw [rs.length] at h
        exact .inl ⟨a, ys, rfl, .inr sq, h.ok0 ⟨S, .int _⟩⟩
      · split at h
        · rename_i xs et
          obtain ⟨a, ys, rfl, sq, rs⟩ := S.lstV rv et
          rw [rs.length] at h
          exact .inl ⟨a, ys, rfl, .inl sq, h.ok0 ⟨S, .int _⟩⟩
        · split at h
          · rename_i kvs et
            obtain ⟨a, ps, rfl, hd, rk⟩ := S.dctV rv et
            rw [rk.length] at h
            exact .inr (.inr ⟨a, ps, rfl, hd, h.ok0 ⟨S, .int _⟩⟩)
          · split at h
            · split at h
              · rename_i hl
                cases rv
                exact .inr (.inl ⟨_, rfl, lim hl, h.ok0 ⟨S, .int _⟩⟩)
              · exact h.elim
            · exact h.elim
  · exact h.elim
theorem m_len (hm : X.mg "len" = none) (ha : PA X [e] (tMA X.K W g)) (hg : Gl X "len" := by rfl) (he : starEach [e] X.env = (false, eval e X.env) :: starEach [] X.env := by rfl) : PE X (.Call (.Name "len" p) [e] [] pos) (tM X.K W fun ρ A => (g ρ A).bind lenM) :=
  m_cB (call_len_seq.or (call_len_str.or call_lenRd)) lenS hm PySem.boot_len ha hg (he := he)
/-- int(x) -/
def intM : List MV → AH → Rs MV := fun ms A => match ms with
  | [.int i] => .ok (.int i) A
  | [.bl b] => .ok (.int (if b then 1 else 0)) A
  | _ => .bad
theorem m_int1 (hm : X.mg "int" = none) (ha : PA X [e] (tMA X.K W g)) (hg : Gl X "int" := by rfl) (he : starEach [e] X.env = (false, eval e X.env) :: starEach [] X.env := by rfl) : PE X (.Call (.Name "int" p) [e] [] pos) (tM X.K W fun ρ A => (g ρ A).bind intM) :=
  m_cT call_int1 (fun {σ ι H A ms vs Q} S r h => by
    unfold intM at h
    split at h
    · cases r with
      | cons rv rr =>
        cases rr
        cases rv
        exact .inl ⟨_, rfl, h.ok0 ⟨S, .int _⟩⟩
    · cases r with
      | cons rv rr =>
        cases rr
        cases rv
        exact .inr ⟨_, rfl, h.ok0 ⟨S, .int _⟩⟩
    · exact h.elim) hm PyProof.Rows.boot_int ha hg (he := he)
/-- all, any -/
def blsOf : List MV → Option (List Bool)
  | [] => some []
  | .bl b :: r => (blsOf r).map (b :: ·)
  | _ => none
theorem blsOf_rel {K : PySem.W.Frag} {ι : Io} {H : Hp} : ∀ {vs : List MV} {xs : List V} {bs : List Bool}, RVs K ι H vs xs → blsOf vs = some bs → xs = bs.map V.bl
  | _, _, _, .nil, e => by cases e; rfl
  | _, _, bs, .cons a b, e => by
    cases a with
    | bl k =>
      obtain ⟨cs, e1, rfl⟩ := Option.map_eq_some_iff.mp (show (blsOf _).map (k :: ·) = some bs from e)
      rw [blsOf_rel b e1]
      rfl
    | _ => cases e
def allM (f : List Bool → Bool) : List MV → AH → Rs MV := fun ms A => match ms with
  | [v] => (match lstV A v with
    | some xs => (match blsOf xs with
      | some bs => .ok (.bl (f bs)) A
      | none => .bad)
    | none => .bad)
  | _ => .bad
theorem allS {f : List Bool → Bool} : CallS X W (rV X.K) (fun vs H Q => ∃ (a : Addr) (bs : List Bool), vs = [V.ref a] ∧ SqL X.K H a (bs.map V.bl) ∧ Q (.bl (f bs)) H) (allM f) := fun {σ ι H A ms vs Q} S r h => by
  unfold allM at h
  split at h
  · cases r with
    | cons rv rr =>
      cases rr
      split at h
      · rename_i xs et
        split at h
        · rename_i bs eb
          obtain ⟨a, ys, rfl, sq, rs⟩ := S.lstV rv et
          rw [blsOf_rel rs eb] at sq
          exact ⟨a, bs, rfl, sq, h.ok0 ⟨S, .bl _⟩⟩
        · exact h.elim
      · exact h.elim
  · exact h.elim
theorem m_all (hc : X.calm = true) (hm : X.mg "all" = none) (ha : PA X [e] (tMA X.K W g)) (hg : Gl X "all" := by rfl) (he : starEach [e] X.env = (false, eval e X.env) :: starEach [] X.env := by rfl) : PE X (.Call (.Name "all" p) [e] [] pos) (tM X.K W fun ρ A => (g ρ A).bind (allM fun bs => bs.all id)) :=
  m_cB (cr_all hc) allS hm PyProof.Rows.boot_all ha hg (he := he)
theorem m_any (hc : X.calm = true) (hm : X.mg "any" = none) (ha : PA X [e] (tMA X.K W g)) (hg : Gl X "any" := by rfl) (he : starEach [e] X.env = (false, eval e X.env) :: starEach [] X.env := by rfl) : PE X (.Call (.Name "any" p) [e] [] pos) (tM X.K W fun ρ A => (g ρ A).bind (allM fun bs => bs.any id)) :=
  m_cB (cr_any hc) allS hm (by decide +kernel) ha hg (he := he)
/-- texts -/
def strsOf : List MV → Option (List Str)
  | [] => some []
  | .str b :: r => (strsOf r).map (b :: ·)
  | _ => none
theorem strsOf_rel {K : PySem.W.Frag} {ι : Io} {H : Hp} : ∀ {vs : List MV} {xs : List V} {bs : List Str}, RVs K ι H vs xs → strsOf vs = some bs → xs = bs.map V.str
  | _, _, _, .nil, e => by cases e; rfl
  | _, _, bs, .cons a b, e => by
    cases a with
    | str k =>
      obtain ⟨cs, e1, rfl⟩ := Option.map_eq_some_iff.mp (show (strsOf _).map (k :: ·) = some bs from e)
      rw [strsOf_rel b e1]
      rfl
    | _ => cases e
theorem rvs_strs {K : PySem.W.Frag} {ι : Io} {H : Hp} : ∀ ys : List Str, RVs K ι H (ys.map MV.str) (ys.map V.str)
  | [] => .nil
  | y :: ys => .cons (.str y) (rvs_strs ys)
def keyStrs : List (Key × MV) → Option (List Str)
  | [] => some []
  | (.inr b, _) :: r => (keyStrs r).map (b :: ·)
  | _ => none
theorem keyStrs_rel : ∀ {kvs : List (Key × MV)} {bs : List Str}, keyStrs kvs = some bs → kvs.map (·.1) = bs.map Sum.inr
  | [], _, e => by cases e; rfl
  | (.inr b, m) :: r, bs, e => by
    obtain ⟨cs, e1, rfl⟩ := Option.map_eq_some_iff.mp (show (keyStrs r).map (b :: ·) = some bs from e)
    rw [List.map_cons, keyStrs_rel e1]
    rfl
  | (.inl b, m) :: r, bs, e => by cases e
/-- sorted(texts) -/
def sortedL : List MV → AH → Rs (List MV) := fun ms A => match ms with
  | [v] => (match dctV A v with
    | some kvs => (match keyStrs kvs with
      | some ks => if ks.length < 64 then .ok ((sortS ks).map MV.str) A else .bad
      | none => .bad)
    | none => match lstV A v with
      | some xs => (match strsOf xs with
        | some ks => if ks.length < 64 then .ok ((sortS ks).map MV.str) A else .bad
        | none => .bad)
      | none => .bad)
  | _ => .bad
theorem sortedLS : CallS X W (rL X.K) (fun vs H Q => (∃ (a : Addr) (kvs : List (Key × V)) (ks : List Str), vs = [.ref a] ∧ Rd H a (.dK kvs) ∧ kvs.map (·.1) = ks.map Sum.inr ∧ ks.length < 64 ∧ ∀ ys p, ys.Perm ks → PyProof.Rows.sortedS ys = true → H p = none → Q (.ref p) (upd H p (.lst (ys.map V.str)))) ∨ rSortedS X.K vs H Q) sortedL := fun {σ ι H A ms vs Q} S r h => by
  unfold sortedL at h
  split at h
  · cases r with
    | cons rv rr =>
      cases rr
      split at h
      · rename_i kvs ed
        split at h
        · rename_i ks ek
          split at h
          · rename_i hl
            obtain ⟨a, ps, rfl, hd, rk⟩ := S.dctV rv ed
            refine .inl ⟨a, ps, ks, rfl, hd, by rw [← rk.keys, keyStrs_rel ek], hl, fun ys p hp hs hn => ?_⟩
            rw [sorted_is hp hs]
            exact h.newL S hn (rvs_strs _)
          · exact h.elim
        · exact h.elim
      · split at h
        · rename_i xs ed
          split at h
          · rename_i ks ek
            split at h
            · rename_i hl
              obtain ⟨a, ys, rfl, sq, rs⟩ := S.lstV rv ed
              rw [strsOf_rel rs ek] at sq
              refine .inr ⟨a, ks, rfl, sq, hl, fun ys p hp hs hn => ?_⟩
              rw [sorted_is hp hs]
              exact h.newL S hn (rvs_strs _)
            · exact h.elim
          · exact h.elim
        · exact h.elim
  · exact h.elim
theorem ml_sorted (hc : X.calm = true) (hm : X.mg "sorted" = none) (ha : PA X [e] (tMA X.K W g)) (hg : Gl X "sorted" := by rfl) (he : starEach [e] X.env = (false, eval e X.env) :: starEach [] X.env := by rfl) : PE X (.Call (.Name "sorted" p) [e] [] pos) (tML X.K W fun ρ A => (g ρ A).bind sortedL) :=
  m_cB ((call_sortedD hc).or cr_sortedS) sortedLS hm PyProof.Rows.boot_sorted ha hg (he := he)
/-- tuple(x) -/
def tupleM : List MV → AH → Rs MV := fun ms A => match ms with
  | [v] => (match tupOf v with
    | some _ => .ok v A
    | none => match lstV A v with
      | some xs => .ok (.tup xs) A
      | none => .bad)
  | _ => .bad
theorem m_tuple (hm : X.mg "tuple" = none) (ha : PA X [e] (tMA X.K W g)) (hg : Gl X "tuple" := by rfl) (he : starEach [e] X.env = (false, eval e X.env) :: starEach [] X.env := by rfl) : PE X (.Call (.Name "tuple" p) [e] [] pos) (tM X.K W fun ρ A => (g ρ A).bind tupleM) :=
  m_cT call_tuple_of (fun {σ ι H A ms vs Q} S r h => by
    unfold tupleM at h
    split at h
    · cases r with
      | cons rv rr =>
        cases rr
        split at h
        · rename_i xs et
          have rv' := rv
          obtain ⟨a, ys, rfl, sq, rs⟩ := rv.sqT et
          exact ⟨a, ys, rfl, .inr ⟨sq, h.ok0 ⟨S, rv'⟩⟩⟩
        · split at h
          · rename_i xs et
            obtain ⟨a, ys, rfl, sq, rs⟩ := S.lstV rv et
            exact ⟨a, ys, rfl, .inl ⟨sq, fun l hl => h.new S hl (new_tup S hl rs)⟩⟩
          · exact h.elim
    · exact h.elim) hm PyProof.Rows.boot_tuple ha hg (he := he)
/-- tuple(list), known to be plain -/
def tupleP : List MV → AH → Rs MV := fun ms A => match ms with
  | [v] => (match lstV A v with
    | some xs => .ok (.ptp xs) A
    | none => .bad)
  | _ => .bad
theorem call_tupleF : CallR X (.type "tuple") (fun xs H Q => ∃ p ys, xs = [.ref p] ∧ SqL X.K H p ys ∧ ∀ l ob, ob.dict = none → H l = none → Q (.ref l) (upd H l (.frz ob (.tup ys)))) := by
  intro pins s σ H xs us Q I r h
  obtain ⟨p, ys, rfl, hq, q⟩ := h
  obtain ⟨u, rfl, rx⟩ := vals1 r
  cases rx
  obtain ⟨its, r', pl, hz⟩ := I.list hq
  have hlen := r'.length
  refine call_tuple_list pl.isList (fun h' kp => ?_) (by simp only [List.size_toArray] <;> omega)
  have I1 : Inv X pins σ H { s with heap := h' } := I.kept (t' := s.toks) kp
  have I2 : Inv X pins σ (upd H h'.objs.size (.frz { cls := .type "tuple", data := .seq its.toArray } (.tup ys))) { s with heap := h'.push { cls := .type "tuple", data := .seq its.toArray } } :=
    I1.laid (t' := s.toks) (fun b o e => Heap.get?_push_of_some _ e) (Nat.le_refl _) (show ObjOk X.prog X.w _ _ _ (.frz _ (.tup ys)) from ⟨Heap.get?_push_size _ rfl, hz, its, r', IsTup.new _ _⟩)
  exact ⟨.ref h'.objs.size, _, I2, rfl, q _ _ rfl (I1.hok.fresh (Nat.le_refl _))⟩
theorem new_ptp {K : PySem.W.Frag} {ι : Io} {H : Hp} {A : AH} {vs : List MV} {xs : List V} {p : Addr} {ob : Obj} (S : Sim K ι A H) (hp : H p = none) (hd : ob.dict = none) (r : RVs K ι H vs xs) : RV K ι (upd H p (.frz ob (.tup xs))) (.ptp vs) (.ref p) := .ptp (S.outA hp) upd_same hd (r.ext (Ext.new1 hp))
theorem m_tupleP (hm : X.mg "tuple" = none) (ha : PA X [e] (tMA X.K W g)) (hg : Gl X "tuple" := by rfl) (he : starEach [e] X.env = (false, eval e X.env) :: starEach [] X.env := by rfl) : PE X (.Call (.Name "tuple" p) [e] [] pos) (tM X.K W fun ρ A => (g ρ A).bind tupleP) :=
  m_cT call_tupleF (fun {σ ι H A ms vs Q} S r h => by
    unfold tupleP at h
    split at h
    · cases r with
      | cons rv rr =>
        cases rr
        split at h
        · rename_i xs et
          obtain ⟨a, ys, rfl, sq, rs⟩ := S.lstV rv et
          exact ⟨a, ys, rfl, sq, fun l ob hd hl => h.new S hl (new_ptp S hl hd rs)⟩
        · exact h.elim
    · exact h.elim) hm PyProof.Rows.boot_tuple ha hg (he := he)
/-- (), known to be plain -/
theorem m_tup0 {x1 : Nat} : PE X (.Tuple [] x1 pos) (tM X.K W (eC (.ptp []))) := ⟨fun pins s σ H Q I ⟨ι, A, ρ, S, E, h⟩ => by
  refine wpAny_Tuple_spliced (thn (pa_nil.run pos pins s σ H (fun vs H' => vs = [] ∧ H' = H) I ⟨rfl, rfl⟩) fun us s1 ⟨xs, H1, I1, r, e1, e2⟩ => ?_)
  subst e1 e2
  cases r
  refine ⟨Nat.zero_le _, ?_⟩
  have hf : H1 s1.heap.objs.size = none := I1.hok.fresh (Nat.le_refl _)
  refine ⟨.ref s1.heap.objs.size, upd H1 s1.heap.objs.size (.frz { cls := .type "tuple", data := .seq #[] } (.tup [])), I1.laid (t' := s1.toks) (fun b u e => Heap.get?_push_of_some _ e) (Nat.le_refl _) ?_, rfl, ?_⟩
  · exact ⟨Heap.get?_push_size _ rfl, Nat.zero_le _, [], .nil, ⟨_, Heap.get?_push_size _ rfl, rfl, _, rfl⟩⟩
  · exact h.new S hf (new_ptp S hf rfl .nil)⟩
/-- list(x) -/
def listL : List MV → AH → Rs (List MV) := fun ms A => match ms with
  | [v] => (match tupOf v with
    | some xs => .ok xs A
    | none => match lstV A v with
      | some xs => .ok xs A
      | none => .bad)
  | _ => .bad
theorem ml_list (hm : X.mg "list" = none) (ha : PA X [e] (tMA X.K W g)) (hg : Gl X "list" := by rfl) (he : starEach [e] X.env = (false, eval e X.env) :: starEach [] X.env := by rfl) : PE X (.Call (.Name "list" p) [e] [] pos) (tML X.K W fun ρ A => (g ρ A).bind listL) :=
  m_cT call_list_of (fun {σ ι H A ms vs Q} S r h => by
    unfold listL at h
    split at h
    · cases r with
      | cons rv rr =>
        cases rr
        split at h
        · rename_i xs et
          obtain ⟨a, ys, rfl, sq, rs⟩ := rv.sqT et
          exact ⟨a, ys, rfl, .inr sq, fun l hl => h.newL S hl rs⟩
        · split at h
          · rename_i xs et
            obtain ⟨a, ys, rfl, sq, rs⟩ := S.lstV rv et
            exact ⟨a, ys, rfl, .inl sq, fun l hl => h.newL S hl rs⟩
          · exact h.elim
    · exact h.elim) hm PyProof.Rows.boot_list ha hg (he := he)
/-! ### dicts -/
theorem RP.newD {K : PySem.W.Frag} {σ : L2.St} {ι : Io} {H : Hp} {A : AH} {kvs : List (Key × MV)} {ps : List (Key × V)} {Q : V → Hp → Prop} {p : Addr} (h : RP K W σ (rV K) ι H (.ok (.ref A.length) (A ++ [.dct kvs])) Q) (S : Sim K ι A H) (hp : H p = none) (r : RKs K ι H kvs ps) : Q (.ref p) (upd H p (.dK ps)) :=
  h ⟨ι.tr ++ [p], ι.pv⟩ _ _ (Ext.push hp) ⟨S.push hp (.dct upd_same (r.ext (Ext.push hp))), .ref (tr_last S p)⟩
/-- pairs of values -/
def pairsOfM : List MV → Option (List (Key × MV))
  | [] => some []
  | v :: r => match tupOf v with
    | some [k, m] => (match keyOf k, pairsOfM r with
      | some key, some l => some ((key, m) :: l)
      | _, _ => none)
    | _ => none
def mergeM (kvs more : List (Key × MV)) : List (Key × MV) := more.foldl (fun acc kv => putM acc kv.1 kv.2) kvs
theorem RKs.merge {K : PySem.W.Frag} {ι : Io} {H : Hp} : ∀ {more : List (Key × MV)} {rs : List (Key × V)} {kvs : List (Key × MV)} {ps : List (Key × V)}, RKs K ι H more rs → RKs K ι H kvs ps → RKs K ι H (mergeM kvs more) (mergeK ps rs)
  | _, _, _, _, .nil, q => q
  | _, _, _, _, .cons (k := k) a b, q => by
    have := RKs.merge b (RKs.put (k := k) a q)
    exact this
theorem pairsOf_rel {K : PySem.W.Frag} {ι : Io} {H : Hp} : ∀ {vs : List MV} {xs : List V} {kvs : List (Key × MV)}, RVs K ι H vs xs → pairsOfM vs = some kvs → ∃ (as : List Addr) (ps : List (Key × V)), xs = as.map V.ref ∧ Paired (fun p kv => SqT K H p [kV kv.1, kv.2]) as ps ∧ RKs K ι H kvs ps
  | _, _, _, .nil, e => by cases e; exact ⟨[], [], rfl, .nil, .nil⟩
  | _, _, kvs, .cons a b, e => by
    unfold pairsOfM at e
    split at e
    · rename_i k m et
      split at e
      · rename_i key l ek el
        cases e
        obtain ⟨p, ys, rfl, sq, rs⟩ := a.sqT et
        obtain ⟨as, ps, rfl, hp, hk⟩ := pairsOf_rel b el
        cases rs with
        | cons r1 rr => cases rr with
          | cons r2 r3 =>
            cases r3
            have := keyOf_rel r1 ek
            subst this
            exact ⟨p :: as, (key, _) :: ps, rfl, .cons sq hp, .cons r2 hk⟩
      · cases e
    · cases e
/-- dict(d), dict(pairs) -/
def dictM : List MV → AH → Rs MV := fun ms A => match ms with
  | [v] => (match dctV A v with
    | some kvs => .ok (.ref A.length) (A ++ [.dct kvs])
    | none => match v with
      | .ptp xs => (match pairsOfM xs with
        | some kvs => .ok (.ref A.length) (A ++ [.dct (mergeM [] kvs)])
        | none => .bad)
      | v => match lstV A v with
        | some xs => (match pairsOfM xs with
          | some kvs => .ok (.ref A.length) (A ++ [.dct (mergeM [] kvs)])
          | none => .bad)
        | none => .bad)
  | _ => .bad
theorem pairsW_of {pins : List (Addr × Obj)} {σ : L2.St} {H : Hp} {s : Shared} (I : Inv X pins σ H s) : ∀ {ps : List Addr} {kvs : List (Key × V)}, Paired (fun p kv => SqT X.K H p [kV kv.1, kv.2]) ps kvs →
    ∃ (prs : List (Key × Value)) (ws : List (Value × Value)), KV kvs prs ∧ prs.length = ps.length ∧ ws.length = ps.length ∧ ∀ (j : Nat) (k v : Value), ws[j]? = some (k, v) → ∃ (b : Addr) (key : Key), ps[j]? = some b ∧ IsTup s.heap b #[k, v] ∧ prs[j]? = some (key, v) ∧ keyIs key k = true
  | _, _, .nil => ⟨[], [], .nil, rfl, rfl, fun j k v e => by simp at e⟩
  | _, _, .cons (a := p) (b := kv) h t => by
    obtain ⟨prs, ws, r, hl, hw, hp⟩ := pairsW_of I t
    obtain ⟨its, rv, ht, _⟩ := I.tuple h
    obtain ⟨u, y, ei, ru, ry⟩ := vals2 rv
    subst ei
    refine ⟨(kv.1, y) :: prs, (u, y) :: ws, .cons ⟨rfl, ry⟩ r, by rw [List.length_cons, List.length_cons, hl], by rw [List.length_cons, List.length_cons, hw], fun j k v e => ?_⟩
    cases j with
    | zero =>
      have e' : (u, y) = (k, v) := Option.some.inj e
      cases e'
      exact ⟨p, kv.1, rfl, ht, rfl, kV_is (P := X.prog) (w := X.w) ru⟩
    | succ j =>
      obtain ⟨b, key, e1, e2, e3, e4⟩ := hp j k v (by simpa using e)
      exact ⟨b, key, by simpa using e1, e2, by simpa using e3, e4⟩
theorem call_dictT (hcalm : X.calm = true) : CallR X (.type "dict") (fun xs H Q => ∃ (a : Addr) (ob : Obj) (ps : List Addr) (kvs : List (Key × V)), xs = [.ref a] ∧ H a = some (.frz ob (.tup (ps.map V.ref))) ∧ ob.dict = none ∧ Paired (fun p kv => SqT X.K H p [kV kv.1, kv.2]) ps kvs ∧
    ∀ p, H p = none → Q (.ref p) (upd H p (.dK (mergeK [] kvs)))) := by
  intro pins s σ H xs us Q I r q
  obtain ⟨a, ob, ps, kvs, ex, hq, hdn, hp, q⟩ := q
  subst ex
  obtain ⟨u, eu, rx⟩ := vals1 r
  subst eu
  cases rx
  obtain ⟨ho, hz, its, rv, ob', ho', hc, n, hdat⟩ := (show ObjOk X.prog X.w H s.heap a (.frz ob (.tup (ps.map V.ref))) from I.hok a _ hq)
  rw [ho] at ho'
  cases ho'
  have ei := refs_at rv
  subst ei
  rw [List.length_map] at hz
  obtain ⟨prs, ws, rel, hl, hw, hpr⟩ := pairsW_of I hp
  refine PySem.call_dict_pairs (knd := mixKind X.prog X.w) (kvs := prs) (PairArg.tuple a (ps.map Value.ref).toArray (fun j => ps.getD j 0) ws) (I.ok.hd hcalm) ⟨⟨ob, n, ho, hc, hdn, hdat⟩, by simp [hw], fun j k v e => ?_⟩ ⟨by rw [hl, hw], fun i k v e => ?_⟩ (by rw [hw]; exact hz) fun h' tk hd' k => ?_
  · obtain ⟨b, key, e1, e2, _, _⟩ := hpr j k v e
    have eb : ps.getD j 0 = b := by
      rw [List.getD_eq_getElem?_getD, e1]
      rfl
    show (ps.map Value.ref).toArray[j]? = some (.ref (ps.getD j 0)) ∧ PairAt s.heap (ps.getD j 0) k v
    rw [eb]
    exact ⟨by simp [e1], .inl e2⟩
  · obtain ⟨b, key, e1, e2, e3, e4⟩ := hpr i k v e
    exact ⟨key, e3, e4⟩
  · have hm : (s.heap.objs.size == sysModules) = false := beq_eq_false_iff_ne.mpr (Nat.ne_of_gt I.big)
    have hlen : (mergeK [] kvs).length ≤ sizeLine := by
      refine Nat.le_trans (length_mergeK kvs []) ?_
      rw [List.length_nil, Nat.zero_add, rel.length, hl]
      exact hz
    exact ⟨.ref s.heap.objs.size, upd H s.heap.objs.size (.dK (mergeK [] kvs)), I.laid (t' := tk) (fun b o e => k b o (by simp) e) (Nat.le_refl _) (show ObjOk X.prog X.w _ _ _ (.dK (mergeK [] kvs)) from ⟨hlen, hm, merged [] prs, KV.merge rel .nil, hd'⟩), rfl, q _ (I.hok.fresh (Nat.le_refl _))⟩
theorem m_dict (hc : X.calm = true) (hm : X.mg "dict" = none) (ha : PA X [e] (tMA X.K W g)) (hg : Gl X "dict" := by rfl) (he : starEach [e] X.env = (false, eval e X.env) :: starEach [] X.env := by rfl) : PE X (.Call (.Name "dict" p) [e] [] pos) (tM X.K W fun ρ A => (g ρ A).bind dictM) :=
  m_cT (call_dictD.or ((call_dictT hc).or (call_dictP hc))) (fun {σ ι H A ms vs Q} S r h => by
    unfold dictM at h
    split at h
    · cases r with
      | cons rv rr =>
        cases rr
        split at h
        · rename_i kvs ed
          obtain ⟨a, ps, rfl, hd, rk⟩ := S.dctV rv ed
          exact .inl ⟨a, ps, rfl, hd, fun l hl => h.newD S hl rk⟩
        · split at h
          · split at h
            · rename_i kvs ek
              cases rv with
              | ptp no hh hdn rs =>
                obtain ⟨as, ps, rfl, hp, hk⟩ := pairsOf_rel rs ek
                exact .inr (.inl ⟨_, _, as, ps, rfl, hh, hdn, hp, fun l hl => h.newD S hl (RKs.merge hk .nil)⟩)
            · exact h.elim
          · split at h
            · rename_i xs et
              split at h
              · rename_i kvs ek
                obtain ⟨a, ys, rfl, sq, rs⟩ := S.lstV rv et
                obtain ⟨as, ps, rfl, hp, hk⟩ := pairsOf_rel rs ek
                exact .inr (.inr ⟨a, as, ps, rfl, sq, hp, fun l hl => h.newD S hl (RKs.merge hk .nil)⟩)
              · exact h.elim
            · exact h.elim
    · exact h.elim) hm PyProof.Rows.boot_dict ha hg (he := he)
/-- {} -/
def eDict0 : FE := fun _ A => .ok (.ref A.length) (A ++ [.dct []])
theorem m_dict0 : PE X (.Dict [] [] pos) (tM X.K W eDict0) := pe_dnewK.imp fun σ H Q ⟨ι, A, ρ, S, E, h⟩ => fun p hp => RP.newD h S hp .nil
/-- {k: v, ..} -/
def prsM : List (FE × FE) → ME → AH → Rs (List (Key × MV))
  | [], _, A => .ok [] A
  | (k, v) :: r, ρ, A => (k ρ A).bind fun kv A => (v ρ A).bind fun m A => match keyOf kv with
    | some key => (prsM r ρ A).bind fun l A => .ok ((key, m) :: l) A
    | none => .bad
def eDisp (ps : List (FE × FE)) : FE := fun ρ A => (prsM ps ρ A).bind fun kvs A => if kvs.length ≤ 15 then .ok (.ref A.length) (A ++ [.dct (mergeM [] kvs)]) else .bad
def trsM (K : PySem.W.Frag) (W : Wi) : List (FE × FE) → List (TE × TE)
  | [] => []
  | (k, v) :: r => (tM K W k, tM K W v) :: trsM K W r
abbrev rKV (K : PySem.W.Frag) : Rel (List (Key × MV)) (List (Key × V)) := fun _ _ ι' H' A' a b => Sim K ι' A' H' ∧ RKs K ι' H' a b
theorem tPairs_of {K : PySem.W.Frag} {σ : L2.St} {ρ : ME} : ∀ (ps : List (FE × FE)) {ι : Io} {H : Hp} {A : AH} {Q : List (V × V) → Hp → Prop}, Sim K ι A H → REnv W K ι H ρ σ → RP K W σ (rKV K) ι H (prsM ps ρ A) (fun kvs H' => Q (kvs.map fun kv => (kV kv.1, kv.2)) H') → tPairs (trsM K W ps) σ H Q
  | [], ι, H, A, Q, S, E, h => h ι H [] (Ext.refl _ _) ⟨S, .nil⟩
  | (k, v) :: r, ι, H, A, Q, S, E, h => RP_bind S E h fun ι1 A1 x u H1 e1 ⟨S1, r1⟩ h1 => RP_bind S1 (E.ext e1) h1 fun ι2 A2 y w H2 e2 ⟨S2, r2⟩ h2 => by
    cases ek : keyOf x with
    | none => rw [ek] at h2; exact h2.elim
    | some key =>
      rw [ek] at h2
      have eu := keyOf_rel r1 ek
      subst eu
      exact tPairs_of r S2 (E.ext (e1.trans e2)) (RP.bnd h2 fun ι3 A3 l qs H3 e3 ⟨S3, r3⟩ h3 => RP.ok0 h3 (u := (key, w) :: qs) ⟨S3, .cons (r2.ext e3) r3⟩)
theorem m_disp {keys : List (Option Expr)} {values : List Expr} {ps : List (FE × FE)} (h : PPs X pos keys values (trsM X.K W ps)) (hall : keys.all (·.isSome) = true := by rfl) (hl : keys.length = values.length := by rfl) (h0 : keys ≠ [] := by intro z; cases z) (h15 : keys.length ≤ 15 := by decide) : PE X (.Dict keys values pos) (tM X.K W (eDisp ps)) :=
  (pe_disp h hall hl h0 h15).imp fun σ H Q ⟨ι, A, ρ, S, E, h⟩ => by
    intro p hp
    have S0 : Sim X.K ⟨ι.tr, p :: ι.pv⟩ A (upd H p (.dK [])) := Sim.hide S hp
    have l0 : Le ι H ⟨ι.tr, p :: ι.pv⟩ (upd H p (.dK [])) := (Le.hide hp).trans ⟨List.prefix_refl _, fun q u n e => ⟨n, by
      rw [upd_ne (ne_of_none e hp)]
      exact e⟩⟩
    refine tPairs_of ps S0 (E.le l0) ?_
    unfold eDisp at h
    cases q : prsM ps ρ A with
    | bad => rw [q] at h; exact h.elim
    | err c fs A' =>
      rw [q] at h
      rintro ⟨tr', pv'⟩ H' d x s er
      have ep : pv' = p :: ι.pv := x.pv
      subst ep
      refine h ⟨tr', ι.pv⟩ H' d ⟨x.pre, rfl, fun z hz n => ?_, fun z o n hz => x.keep z o n (by rw [upd_ne (ne_of_none hz hp)]; exact hz), fun z o u hz => x.frz z o u (by rw [upd_ne (ne_of_none hz hp)]; exact hz)⟩ s.show ⟨⟨er.ex.choose, er.ex.choose_spec.1, er.ex.choose_spec.2.le Le.show⟩, er.out.1, fun hz => er.out.2 (List.mem_cons_of_mem _ hz)⟩
      have := x.new z hz n
      by_cases ez : z = p
      · rw [ez]
        exact hp
      · rw [upd_ne ez] at this
        exact this
    | ok kvs A' =>
      rw [q] at h
      rintro ⟨tr', pv'⟩ H' qs x ⟨S', rk⟩
      have ep : pv' = p :: ι.pv := x.pv
      subst ep
      have np : p ∉ ι.tr := S.out hp
      have hk : H' p = some (.dK []) := x.keep p _ np upd_same
      have nt : p ∉ tr' := x.out np upd_same
      have e1 : Ext ι H ⟨tr', ι.pv⟩ H' := ⟨x.pre, rfl, fun z hz n => by
        have := x.new z hz n
        by_cases ez : z = p
        · rw [ez]
          exact hp
        · rw [upd_ne ez] at this
          exact this, fun z o n hz => x.keep z o n (by rw [upd_ne (ne_of_none hz hp)]; exact hz), fun z o u hz => x.frz z o u (by rw [upd_ne (ne_of_none hz hp)]; exact hz)⟩
      dsimp only [Rs.bind] at h
      split at h
      · rename_i hl
        refine ⟨hk, qs, rfl, by rw [← rk.length]; exact hl, ?_⟩
        have l2 : Le ⟨tr', p :: ι.pv⟩ H' ⟨tr', p :: ι.pv⟩ (upd H' p (.dK (mergeK [] qs))) := Le.priv (List.mem_cons_self ..)
        have S2 : Sim X.K ⟨tr', p :: ι.pv⟩ A' (upd H' p (.dK (mergeK [] qs))) := S'.priv (List.mem_cons_self ..) nt
        have S3 := S2.adopt (m := .dct (mergeM [] kvs)) nt (.dct upd_same (((RKs.merge rk .nil).le l2).le Le.adopt))
        refine h ⟨tr' ++ [p], ι.pv⟩ _ _ ((e1.mutNew hp).adopt hp) ⟨S3, .ref ?_⟩
        have sl : tr'.length = A'.length := S2.len
        show (tr' ++ [p])[A'.length]? = some p
        rw [← sl, List.getElem?_append_right (Nat.le_refl _), Nat.sub_self]
        rfl
      · exact h.elim
end
end Mv
/-! Mv8: methods of built-in things, stores, isinstance, dict comprehensions -/
namespace Mv
open PySem PySem.Spec PyProof.Rows L2 Fk
section
variable {X : Cx} {W : Wi} {k : Nat} {x : Str} {o e e2 : Expr} {es : List Expr} {g : FL} {fo fe f2 : FE} {p pos apos cpos : Pos}
/-! ### constants of the module, types -/
theorem m_ty {T : String} (hm : X.mg x = none) (hv : bootBuiltins x = some (.type T)) (hg : Gl X x := by rfl) (hn : x ≠ "__name__" := by decide) (hd : (x == ("__debug__" : Str)) = false := by decide) : PE X (.Name x pos) (tM X.K W (eC (.ty T))) := m_c (pe_bltn (v := .ty T) hg hm hv rfl hn hd) fun _ _ => .ty T
theorem m_glo (hm : X.mg x = some (.ref (He.ga X.K x))) (hg : Gl X x := by rfl) (hd : (x == ("__debug__" : Str)) = false := by decide) : PE X (.Name x pos) (tM X.K W (eC (.glo x))) := m_c (pe_gref hm hg hd) fun _ _ => .glo x
/-! ### texts -/
def aSplit (fo fe : FE) : FL := fun ρ A => (fo ρ A).bind fun v A => match v with
  | .str a => (fe ρ A).bind fun w A => (match w with
    | .str b => if b.length ≠ 0 ∧ a.length ≤ 999990 then .ok ((Txt.split a b).map MV.str) A else .bad
    | _ => .bad)
  | _ => .bad
theorem ml_split (ho : PE X o (tM X.K W fo)) (he : PE X e (tM X.K W fe)) (hs : starEach [e] X.env = [(false, eval e X.env)] := by rfl) (hbase : attributeBase o "split" X.env (eval o X.env) = eval o X.env := by rfl) (hline : (apos.endLine == pos.line) = true := by rfl) :
    PE X (.Call (.Attribute o "split" apos) [e] [] pos) (tML X.K W (aSplit fo fe)) := (pe_split ho he hs hbase hline).imp fun σ H Q ⟨ι, A, ρ, S, E, h⟩ => RP_bind S E h fun ι1 A1 v u H1 e1 ⟨S1, r1⟩ h1 => by
  cases r1 with
  | str a =>
    refine ⟨⟨a, rfl⟩, RP_bind S1 (E.ext e1) h1 fun ι2 A2 w z H2 e2 ⟨S2, r2⟩ h2 => ?_⟩
    cases r2 with
    | str b =>
      dsimp only at h2
      split at h2
      · rename_i hl
        refine ⟨a, b, rfl, rfl, by simpa using hl.1, lim (by omega), fun q hq => h2.newL S2 hq (rvs_strs _)⟩
      · exact h2.elim
    | _ => exact h2.elim
  | _ => exact h1.elim
def strsA (A : AH) (v : MV) : Option (List Str) := match tupOf v with
  | some xs => strsOf xs
  | none => match lstV A v with
    | some xs => strsOf xs
    | none => none
def eJoin (fo fe : FE) : FE := fun ρ A => (fo ρ A).bind fun v A => match v with
  | .str a => (fe ρ A).bind fun w A => (match strsA A w with
    | some ys => if (ys.map (·.length)).sum + ys.length * a.length ≤ 1000000 then .ok (.str (Txt.join a ys)) A else .bad
    | none => .bad)
  | _ => .bad
theorem m_join (ho : PE X o (tM X.K W fo)) (he : PE X e (tM X.K W fe)) (hs : starEach [e] X.env = [(false, eval e X.env)] := by rfl) (hbase : attributeBase o "join" X.env (eval o X.env) = eval o X.env := by rfl) (hline : (apos.endLine == pos.line) = true := by rfl) :
    PE X (.Call (.Attribute o "join" apos) [e] [] pos) (tM X.K W (eJoin fo fe)) := (pe_join ho he hs hbase hline).imp fun σ H Q ⟨ι, A, ρ, S, E, h⟩ => RP_bind S E h fun ι1 A1 v u H1 e1 ⟨S1, r1⟩ h1 => by
  cases r1 with
  | str a =>
    refine ⟨⟨a, rfl⟩, RP_bind S1 (E.ext e1) h1 fun ι2 A2 w z H2 e2 ⟨S2, r2⟩ h2 => ?_⟩
    unfold strsA at h2
    cases et : tupOf w with
    | some xs =>
      rw [et] at h2
      dsimp only at h2
      cases ek : strsOf xs with
      | none => rw [ek] at h2; exact h2.elim
      | some ys =>
        rw [ek] at h2
        dsimp only at h2
        split at h2
        · rename_i hl
          obtain ⟨b, zs, rfl, sq, rs⟩ := r2.sqT et
          rw [strsOf_rel rs ek] at sq
          exact ⟨a, b, ys, rfl, rfl, .inr sq, by omega, h2.ok0 ⟨S2, .str _⟩⟩
        · exact h2.elim
    | none =>
      rw [et] at h2
      dsimp only at h2
      cases el : lstV A2 w with
      | none => rw [el] at h2; exact h2.elim
      | some xs =>
        rw [el] at h2
        dsimp only at h2
        cases ek : strsOf xs with
        | none => rw [ek] at h2; exact h2.elim
        | some ys =>
          rw [ek] at h2
          dsimp only at h2
          split at h2
          · rename_i hl
            obtain ⟨b, zs, rfl, sq, rs⟩ := S2.lstV r2 el
            rw [strsOf_rel rs ek] at sq
            exact ⟨a, b, ys, rfl, rfl, .inl sq, by omega, h2.ok0 ⟨S2, .str _⟩⟩
          · exact h2.elim
  | _ => exact h1.elim
def eStarts (fo fe : FE) : FE := fun ρ A => (fo ρ A).bind fun v A => match v with
  | .str a => (fe ρ A).bind fun w A => (match w with
    | .str b => .ok (.bl (Txt.startswith a b)) A
    | _ => .bad)
  | _ => .bad
theorem m_starts (ho : PE X o (tM X.K W fo)) (he : PE X e (tM X.K W fe)) (hs : starEach [e] X.env = [(false, eval e X.env)] := by rfl) (hbase : attributeBase o "startswith" X.env (eval o X.env) = eval o X.env := by rfl) (hline : (apos.endLine == pos.line) = true := by rfl) :
    PE X (.Call (.Attribute o "startswith" apos) [e] [] pos) (tM X.K W (eStarts fo fe)) := (pe_m1 F.slot_str_startswith F.type_str_startswith mt_startswith ho he hs hbase hline).imp fun σ H Q ⟨ι, A, ρ, S, E, h⟩ => RP_bind S E h fun ι1 A1 v u H1 e1 ⟨S1, r1⟩ h1 => by
  cases r1 with
  | str a =>
    refine ⟨⟨a, rfl⟩, RP_bind S1 (E.ext e1) h1 fun ι2 A2 w z H2 e2 ⟨S2, r2⟩ h2 => ?_⟩
    cases r2 with
    | str b => exact ⟨a, b, rfl, rfl, h2.ok0 ⟨S2, .bl _⟩⟩
    | _ => exact h2.elim
  | _ => exact h1.elim
/-! ### dicts -/
def dctB (A : AH) (v : MV) : Bool := (dctV A v).isSome
theorem Sim.isD {K : PySem.W.Frag} {ι : Io} {H : Hp} {A : AH} {v : MV} {u : V} (S : Sim K ι A H) (r : RV K ι H v u) (h : dctB A v = true) : ∃ a, u = .ref a ∧ IsD H a := by
  obtain ⟨kvs, e⟩ := Option.isSome_iff_exists.mp h
  obtain ⟨a, ps, rfl, hd, _⟩ := S.dctV r e
  exact ⟨a, rfl, .inl ⟨ps, hd⟩⟩
def eGet1 (fo fe : FE) : FE := fun ρ A => (fo ρ A).bind fun v A => if dctB A v then (fe ρ A).bind fun w A => (match dctV A v, keyOf w with
    | some kvs, some key => .ok ((valM kvs key).getD .non) A
    | _, _ => .bad) else .bad
def eGet2 (fo fe f2 : FE) : FE := fun ρ A => (fo ρ A).bind fun v A => if dctB A v then (fe ρ A).bind fun w A => (f2 ρ A).bind fun z A => (match dctV A v, keyOf w with
    | some kvs, some key => .ok ((valM kvs key).getD z) A
    | _, _ => .bad) else .bad
theorem RKs.getD {K : PySem.W.Frag} {ι : Io} {H : Hp} {kvs : List (Key × MV)} {ps : List (Key × V)} {key : Key} {m : MV} {b : V} (r : RKs K ι H kvs ps) (q : RV K ι H m b) : RV K ι H ((valM kvs key).getD m) ((valV ps key).getD b) := by
  obtain ⟨h1, h2⟩ := r.val (k := key)
  cases e : valM kvs key with
  | none => rw [h2 e]; exact q
  | some z =>
    obtain ⟨y, e2, r2⟩ := h1 z e
    rw [e2]
    exact r2
theorem m_get1 (hr : Room k X.A) (ho : PE X o (tM X.K W fo)) (he : PE X e (tM X.K W fe)) (m : M1 X o "get" apos e cpos := by exact ⟨by rfl, by rfl, by rfl, by rfl⟩) : PE X (.Call (.Attribute o "get" apos) [e] [] cpos) (tM X.K W (eGet1 fo fe)) :=
  (pe_dget1 (hu_of hr) ho he m).imp fun σ H Q ⟨ι, A, ρ, S, E, h⟩ => RP_bind S E h fun ι1 A1 v u H1 e1 ⟨S1, r1⟩ h1 => by
    split at h1
    · rename_i hd
      obtain ⟨a, rfl, d⟩ := S1.isD r1 hd
      refine ⟨a, rfl, d, RP_bind S1 (E.ext e1) h1 fun ι2 A2 w z H2 e2 ⟨S2, r2⟩ h2 => ?_⟩
      split at h2
      · rename_i kvs key ed ek
        obtain ⟨b, ps, eb, hd, rk⟩ := S2.dctV (r1.ext e2) ed
        cases eb
        have eu := keyOf_rel r2 ek
        subst eu
        exact ⟨_, DGet.rd hd, h2.ok0 ⟨S2, rk.getD .non⟩⟩
      · exact h2.elim
    · exact h1.elim
theorem m_get2 (hr : Room k X.A) (ho : PE X o (tM X.K W fo)) (he : PE X e (tM X.K W fe)) (h2 : PE X e2 (tM X.K W f2)) (m : M2 X o "get" apos e e2 cpos := by exact ⟨by rfl, by rfl, by rfl, by rfl⟩) : PE X (.Call (.Attribute o "get" apos) [e, e2] [] cpos) (tM X.K W (eGet2 fo fe f2)) :=
  (pe_dget2 (hu_of hr) ho he h2 m).imp fun σ H Q ⟨ι, A, ρ, S, E, h⟩ => RP_bind S E h fun ι1 A1 v u H1 e1 ⟨S1, r1⟩ h1 => by
    split at h1
    · rename_i hd
      obtain ⟨a, rfl, d⟩ := S1.isD r1 hd
      refine ⟨a, rfl, d, RP_bind S1 (E.ext e1) h1 fun ι2 A2 w z H2 e2 ⟨S2, r2⟩ h2 => RP_bind S2 (E.ext (e1.trans e2)) h2 fun ι3 A3 y q H3 e3 ⟨S3, r3⟩ h3 => ?_⟩
      split at h3
      · rename_i kvs key ed ek
        obtain ⟨b, ps, eb, hd, rk⟩ := S3.dctV (r1.ext (e2.trans e3)) ed
        cases eb
        have eu := keyOf_rel r2 ek
        subst eu
        exact ⟨_, DGet.rd hd, h3.ok0 ⟨S3, rk.getD r3⟩⟩
      · exact h3.elim
    · exact h1.elim
/-- a dict that may be changed -/
def dctW (A : AH) : MV → Option (Nat × List (Key × MV))
  | .ref n => (match A[n]? with
    | some (.dct xs) => some (n, xs)
    | _ => none)
  | _ => none
theorem Sim.dctW {K : PySem.W.Frag} {ι : Io} {H : Hp} {A : AH} {v : MV} {u : V} {n : Nat} {kvs : List (Key × MV)} (S : Sim K ι A H) (r : RV K ι H v u) (h : Mv.dctW A v = some (n, kvs)) : ∃ a ps, u = .ref a ∧ ι.tr[n]? = some a ∧ H a = some (.dK ps) ∧ RKs K ι H kvs ps := by
  unfold Mv.dctW at h
  split at h
  · split at h
    · rename_i e
      cases h
      obtain ⟨a, rfl, ea, ok⟩ := S.ref r e
      cases ok with
      | dct h1 h2 => exact ⟨a, _, rfl, ea, h1, h2⟩
    · cases h
  · cases h
theorem nofrz_dK {H : Hp} {a : Addr} {ps : List (Key × V)} (h : H a = some (.dK ps)) : NoFrz H a := fun o u e => by
  rw [h] at e
  cases e
theorem Sim.putD {K : PySem.W.Frag} {ι : Io} {H : Hp} {A : AH} {n : Nat} {a : Addr} {ps ps' : List (Key × V)} {kvs' : List (Key × MV)} (S : Sim K ι A H) (ea : ι.tr[n]? = some a) (h : H a = some (.dK ps)) (r : RKs K ι H kvs' ps') : Sim K ι (A.set n (.dct kvs')) (upd H a (.dK ps')) ∧ Ext ι H ι (upd H a (.dK ps')) :=
  ⟨S.put ea (.dct upd_same (r.le (Le.mut (List.mem_of_getElem? ea)))), Ext.mut (List.mem_of_getElem? ea) (nofrz_dK h)⟩
def ePop2 (fo fe f2 : FE) : FE := fun ρ A => (fo ρ A).bind fun v A => if dctB A v then (fe ρ A).bind fun w A => (f2 ρ A).bind fun z A => (match dctW A v, keyOf w with
    | some (n, kvs), some key => (match valM kvs key with
      | some m => .ok m (A.set n (.dct (dropM kvs key)))
      | none => .ok z A)
    | _, _ => .bad) else .bad
theorem m_pop2 (ho : PE X o (tM X.K W fo)) (he : PE X e (tM X.K W fe)) (h2 : PE X e2 (tM X.K W f2)) (m : M2 X o "pop" apos e e2 cpos := by exact ⟨by rfl, by rfl, by rfl, by rfl⟩) : PE X (.Call (.Attribute o "pop" apos) [e, e2] [] cpos) (tM X.K W (ePop2 fo fe f2)) :=
  (pe_dpop2 ho he h2 m).imp fun σ H Q ⟨ι, A, ρ, S, E, h⟩ => RP_bind S E h fun ι1 A1 v u H1 e1 ⟨S1, r1⟩ h1 => by
    split at h1
    · rename_i hd
      obtain ⟨a, rfl, d⟩ := S1.isD r1 hd
      refine ⟨a, rfl, d, RP_bind S1 (E.ext e1) h1 fun ι2 A2 w z H2 e2 ⟨S2, r2⟩ h2 => RP_bind S2 (E.ext (e1.trans e2)) h2 fun ι3 A3 y q H3 e3 ⟨S3, r3⟩ h3 => ?_⟩
      split at h3
      · rename_i n kvs key ed ek
        obtain ⟨b, ps, eb, ea, hd, rk⟩ := S3.dctW (r1.ext (e2.trans e3)) ed
        cases eb
        have eu := keyOf_rel r2 ek
        subst eu
        refine ⟨ps, key, hd, rfl, fun c ec => ?_, fun ec => ?_⟩
        · cases em : valM kvs key with
          | none =>
            rw [(rk.val (k := key)).2 em] at ec
            cases ec
          | some m =>
            rw [em] at h3
            obtain ⟨c', ec', rc⟩ := (rk.val (k := key)).1 m em
            rw [ec] at ec'
            cases ec'
            obtain ⟨S4, e4⟩ := S3.putD ea hd (RKs.drop (k := key) rk)
            exact h3 ι3 _ c e4 ⟨S4, rc.ext e4⟩
        · cases em : valM kvs key with
          | some m =>
            obtain ⟨c', ec', rc⟩ := (rk.val (k := key)).1 m em
            rw [ec] at ec'
            cases ec'
          | none =>
            rw [em] at h3
            exact h3.ok0 ⟨S3, r3⟩
      · exact h3.elim
    · exact h1.elim
/-! ### stores -/
def lstW (A : AH) : MV → Option (Nat × List MV)
  | .ref n => (match A[n]? with
    | some (.lst xs) => some (n, xs)
    | _ => none)
  | _ => none
theorem Sim.lstW {K : PySem.W.Frag} {ι : Io} {H : Hp} {A : AH} {v : MV} {u : V} {n : Nat} {vs : List MV} (S : Sim K ι A H) (r : RV K ι H v u) (h : Mv.lstW A v = some (n, vs)) : ∃ a xs, u = .ref a ∧ ι.tr[n]? = some a ∧ H a = some (.lst xs) ∧ RVs K ι H vs xs := by
  unfold Mv.lstW at h
  split at h
  · split at h
    · rename_i e
      cases h
      obtain ⟨a, rfl, ea, ok⟩ := S.ref r e
      cases ok with
      | lst h1 h2 => exact ⟨a, _, rfl, ea, h1, h2⟩
    · cases h
  · cases h
theorem Sim.putL {K : PySem.W.Frag} {ι : Io} {H : Hp} {A : AH} {n : Nat} {a : Addr} {xs xs' : List V} {vs' : List MV} (S : Sim K ι A H) (ea : ι.tr[n]? = some a) (h : H a = some (.lst xs)) (r : RVs K ι H vs' xs') : Sim K ι (A.set n (.lst vs')) (upd H a (.lst xs')) ∧ Ext ι H ι (upd H a (.lst xs')) :=
  ⟨S.put ea (.lst upd_same (r.le (Le.mut (List.mem_of_getElem? ea)))), Ext.mut (List.mem_of_getElem? ea) (nofrz_lst h)⟩
def setM (o i v : MV) (A : AH) : Option AH := match dctW A o with
  | some (n, kvs) => (match keyOf i with
    | some key => if kvs.length < 1000000 then some (A.set n (.dct (putM kvs key v))) else none
    | none => none)
  | none => match lstW A o, i with
    | some (n, xs), .int j => (match ixN xs.length j with
      | some m => some (A.set n (.lst (xs.set m v)))
      | none => none)
    | _, _ => none
theorem PSet.or {t t' : TSet} (h : PSet X t) (h' : PSet X t') : PSet X (fun o i v H Q => t o i v H Q ∨ t' o i v H Q) := by
  intro pins s σ H o i v ov iv u Q I r1 r2 r3 q
  rcases q with q | q
  · exact h pins s σ H o i v ov iv u Q I r1 r2 r3 q
  · exact h' pins s σ H o i v ov iv u Q I r1 r2 r3 q
def sSub (fv fo fi : FE) : FS := fun ρ A => (fv ρ A).fs ρ fun v A => (fo ρ A).fs ρ fun o A => (fi ρ A).fs ρ fun i A => match setM o i v A with
  | some A' => .nx ρ A'
  | none => .bad
theorem ms_sub {i : Expr} {fv fi : FE} {pos' : Pos} (hr : Room k X.A) (hv : PE X e (tM X.K W fv)) (ho : PE X o (tM X.K W fo)) (hi : PE X i (tM X.K W fi)) (ha : ∀ v, assign (.Subscript o i pos') X.env v = (do
      let ov ← holding [v] (eval o X.env)
      let iv ← holding [v, ov] (eval i X.env)
      standAt pos'
      holding [v, ov, iv] (setItem ov iv v)
      release [v, ov, iv] []) := by intro _; rfl) (hs : swapsWithSole [.Subscript o i pos'] e pos.line X.env = pure false := by rfl) (hw : swappedStores [.Subscript o i pos'] e X.env = pure none := by rfl)
    (h1 : (assignEach [.Subscript o i pos'] X.env).map (·.2) = [assign (.Subscript o i pos') X.env] := by rfl) : PS X (.Assign [.Subscript o i pos'] e pos) (tMS X.K W (sSub fv fo fi)) :=
  (ps_asg hv (pg_sub ho hi (PSet.or (set_dict (hu_of hr)) set_list) ha) hs hw h1).imp fun D σ H ⟨ι, A, ρ, S, E, h⟩ => RPS_bind S E h fun ι1 A1 v u H1 e1 ⟨S1, r1⟩ h1 => RPS_bind S1 (E.ext e1) h1 fun ι2 A2 o w H2 e2 ⟨S2, r2⟩ h2 => RPS_bind S2 (E.ext (e1.trans e2)) h2 fun ι3 A3 i z H3 e3 ⟨S3, r3⟩ h3 => by
    have r1' := r1.ext (e2.trans e3)
    have r2' := r2.ext e3
    have E3 := E.ext ((e1.trans e2).trans e3)
    unfold setM at h3
    cases ed : dctW A3 o with
    | some pr =>
      obtain ⟨n, kvs⟩ := pr
      rw [ed] at h3
      dsimp only at h3
      cases ek : keyOf i with
      | none => rw [ek] at h3; exact h3.elim
      | some key =>
        rw [ek] at h3
        dsimp only at h3
        by_cases hl : kvs.length < 1000000
        · rw [if_pos hl] at h3
          obtain ⟨a, ps, rfl, ea, hd, rk⟩ := S3.dctW r2' ed
          have eu := keyOf_rel r3 ek
          subst eu
          obtain ⟨S4, e4⟩ := S3.putD ea hd (RKs.put (k := key) r1' rk)
          refine .inl ⟨a, _, rfl, DPut.k hd ?_, h3 ι3 _ σ e4 S4 (E3.ext e4)⟩
          rw [← rk.length]
          have := sizeLine_eq
          omega
        · rw [if_neg hl] at h3
          exact h3.elim
    | none =>
      rw [ed] at h3
      dsimp only at h3
      cases el : lstW A3 o with
      | none => rw [el] at h3; exact h3.elim
      | some pr =>
        obtain ⟨n, xs⟩ := pr
        rw [el] at h3
        cases r3 with
        | int j =>
          dsimp only at h3
          cases ei : ixN xs.length j with
          | none => rw [ei] at h3; exact h3.elim
          | some m =>
            rw [ei] at h3
            obtain ⟨a, ys, rfl, ea, hd, rs⟩ := S3.lstW r2' el
            obtain ⟨S4, e4⟩ := S3.putL ea hd (RVs.set r1' m rs)
            exact .inr ⟨a, ys, j, m, rfl, rfl, hd, by rw [← rs.length]; exact ei, h3 ι3 _ σ e4 S4 (E3.ext e4)⟩
        | _ => exact h3.elim
/-- xs.append(v) -/
def lstB (A : AH) (v : MV) : Bool := (lstV A v).isSome
theorem Sim.tyL {K : PySem.W.Frag} {ι : Io} {H : Hp} {A : AH} {v : MV} {u : V} (S : Sim K ι A H) (r : RV K ι H v u) (h : lstB A v = true) : tyV K "list" u H := by
  obtain ⟨kvs, e⟩ := Option.isSome_iff_exists.mp h
  obtain ⟨a, ps, rfl, hd, _⟩ := S.lstV r e
  exact .inl ⟨rfl, ps, hd⟩
def eApp (fo fe : FE) : FE := fun ρ A => (fo ρ A).bind fun v A => if lstB A v then (fe ρ A).bind fun w A => (match lstW A v with
    | some (n, xs) => if xs.length < 1000000 then .ok .non (A.set n (.lst (xs ++ [w]))) else .bad
    | none => .bad) else .bad
theorem m_append (ho : PE X o (tM X.K W fo)) (he : PE X e (tM X.K W fe)) (hbase : attributeBase o "append" X.env (eval o X.env) = eval o X.env := by rfl)
    (hfew : ((backTo cpos (starEach [e] X.env)).all (fun x => !x.1) && (backToKw cpos (keywordEach [] X.env)).all (fun x => x.1.isSome)
      && decide (([e] : List Expr).length + ([] : List Keyword).length + (if ([] : List Keyword).isEmpty then 0 else 1) < 30)) = true := by rfl)
    (hline : (apos.endLine == cpos.line) = true := by rfl) (hs : starEach [e] X.env = (false, eval e X.env) :: starEach [] X.env := by rfl) (hplain : (backTo cpos (starEach [] X.env)).any (·.1) = false := by rfl) :
    PE X (.Call (.Attribute o "append" apos) [e] [] cpos) (tM X.K W (eApp fo fe)) :=
  (pe_bm PySem.F.plainAttrs_list PySem.F.slot_list_append PySem.F.type_list_append mt_append ho (pa_cons he pa_nil hs) hbase hfew hline hs hplain).imp fun σ H Q ⟨ι, A, ρ, S, E, h⟩ => RP_bind S E h fun ι1 A1 v u H1 e1 ⟨S1, r1⟩ h1 => by
    split at h1
    · rename_i hb
      refine ⟨S1.tyL r1 hb, RP_bind S1 (E.ext e1) h1 fun ι2 A2 w z H2 e2 ⟨S2, r2⟩ h2 => ?_⟩
      cases el : lstW A2 v with
      | none => rw [el] at h2; exact h2.elim
      | some pr =>
        obtain ⟨n, xs⟩ := pr
        rw [el] at h2
        dsimp only at h2
        split at h2
        · rename_i hl
          obtain ⟨a, ys, rfl, ea, hd, rs⟩ := S2.lstW (r1.ext e2) el
          obtain ⟨S3, e3⟩ := S2.putL ea hd (rs.append (.one r2))
          refine ⟨a, ys, z, rfl, rfl, hd, ?_, h2 ι2 _ _ e3 ⟨S3, .non⟩⟩
          rw [← rs.length]
          have := sizeLine_eq
          omega
        · exact h2.elim
    · exact h1.elim
/-- lists, one behind another -/
def catL : MV → MV → AH → Rs (List MV) := fun x y A => match lstV A x, lstV A y with
  | some a, some b => if a.length + b.length ≤ 1000000 then .ok (a ++ b) A else .bad
  | _, _ => .bad
theorem Inv.lstR {pins : List (Addr × Obj)} {σ : L2.St} {H : Hp} {s : Shared} {l : Addr} {xs : List V} (I : Inv X pins σ H s) (h : Rd H l (.lst xs)) : xs.length ≤ sizeLine ∧ ∃ (its : List Value) (n : Nat), Vals xs its ∧ xs.length = its.length ∧ s.heap.get? l = some { cls := .type "list", data := .seq its.toArray n } := by
  obtain ⟨z, its, n, r, e⟩ := (show ObjOk X.prog X.w H s.heap l (.lst xs) from h.ok I.hok)
  exact ⟨z, its, n, r, r.length, e⟩
theorem op_catR : OpR X (binaryOp .Add) (fun x y H Q => ∃ l b xs zs, x = .ref l ∧ y = .ref b ∧ Rd H l (.lst xs) ∧ Rd H b (.lst zs) ∧ xs.length + zs.length ≤ sizeLine ∧ ∀ p, H p = none → Q (.ref p) (upd H p (.lst (xs ++ zs)))) := by
  intro pins s σ H x y v u Q I rx ry h
  obtain ⟨l, b, xs, zs, rfl, rfl, hH, hB, hz, q⟩ := h
  cases rx
  cases ry
  obtain ⟨z, its, n, r, hl, e⟩ := Inv.lstR I hH
  obtain ⟨z2, its2, n2, r2, hl2, e2⟩ := Inv.lstR I hB
  refine PySem.P.add_list e e2 ?_ (by rw [List.size_toArray, List.size_toArray]; omega)
  have ea : its.toArray ++ its2.toArray = (its ++ its2).toArray := by simp
  rw [ea]
  exact ⟨.ref _, _, I.lnew (t' := s.toks) (r.append r2) (by rw [List.length_append]; omega), rfl, q _ I.fresh⟩
def aCat (fa fb : FE) : FL := fun ρ A => (fa ρ A).bind fun x A => (fb ρ A).bind fun y A => catL x y A
theorem ml_cat {a b : Expr} {fa fb : FE} (ha : PE X a (tM X.K W fa)) (hb : PE X b (tM X.K W fb)) : PE X (.BinOp a .Add b pos) (tML X.K W (aCat fa fb)) := (pe_op op_catR ha hb).imp fun σ H Q ⟨ι, A, ρ, S, E, h⟩ => RP_bind S E h fun ι1 A1 x u H1 e1 ⟨S1, r1⟩ h1 => RP_bind S1 (E.ext e1) h1 fun ι2 A2 y v H2 e2 ⟨S2, r2⟩ h2 => by
  unfold catL at h2
  split at h2
  · rename_i xs ys ex ey
    split at h2
    · rename_i hl
      obtain ⟨l, us, rfl, h3, r3⟩ := S2.lstX (r1.ext e2) ex
      obtain ⟨b, ws, rfl, h4, r4⟩ := S2.lstX r2 ey
      exact ⟨l, b, us, ws, rfl, rfl, h3, h4, lim (by rw [← r3.length, ← r4.length]; exact hl), fun q hq => h2.newL S2 hq (r3.append r4)⟩
    · exact h2.elim
  · exact h2.elim
/-! ### isinstance -/
def tyN (A : AH) : MV → Option String
  | .non => some "NoneType"
  | .bl _ => some "bool"
  | .int _ => some "int"
  | .str _ => some "str"
  | .byt _ => some "bytes"
  | .tup _ => some "tuple"
  | .ptp _ => some "tuple"
  | .lst _ => some "list"
  | .ref n => (match A[n]? with
    | some (.lst _) => some "list"
    | some (.lkl _) => some "list"
    | some (.dct _) => some "dict"
    | some (.lkd _) => some "dict"
    | _ => none)
  | _ => none
def tys1 : List String := ["NoneType", "bool", "int", "str", "bytes", "tuple", "list", "dict"]
def isTy (t T : String) : Bool := t == T || (t == "bool" && T == "int")
theorem isTy_kit : (tys1.all fun t => tys1.all fun T => decide (kitB t T = some (isTy t T))) = true := by decide +kernel
theorem tyN_mem {A : AH} {v : MV} {t : String} (h : tyN A v = some t) : t ∈ tys1 := by
  unfold tyN at h
  split at h
  any_goals (cases h; decide)
  · split at h <;> first | (cases h; decide) | cases h
  · cases h
theorem SqT.ty {K : PySem.W.Frag} {H : Hp} {a : Addr} {xs : List V} (h : SqT K H a xs) : TyX K H (.ref a) (.type "tuple") := by
  rcases h with (h | ⟨o, h⟩) | ⟨o, n, its, h1, h2, h3, h4⟩
  · exact .base (.tup h)
  · exact .fTuple h
  · exact .kTuple h1 h2
theorem tyN_rel {K : PySem.W.Frag} {ι : Io} {H : Hp} {A : AH} {v : MV} {u : V} {t : String} (S : Sim K ι A H) (r : RV K ι H v u) (h : tyN A v = some t) : TyX K H u (.type t) := by
  cases r with
  | non => cases h; exact .base .non
  | bl b => cases h; exact .base (.bl b)
  | int b => cases h; exact .base (.int b)
  | str b => cases h; exact .base (.str b)
  | byt b => cases h; exact .byt b
  | ty b => cases h
  | glo b => cases h
  | obj _ _ _ => cases h
  | tup hh rs => cases h; exact SqT.ty (hh.elim (fun h => .inl h.2) sqT0)
  | ptp n hh d rs => cases h; exact .fTuple hh
  | lst hh rs =>
    cases h
    rcases hh.2 with h | ⟨o, h⟩
    · exact .base (.lst h)
    · exact .base (.frz h)
  | @ref n a e =>
    unfold tyN at h
    dsimp only at h
    split at h
    · rename_i q
      cases h
      cases S.ok n a _ e q with
      | lst h _ => exact .base (.lst h)
    · rename_i q
      cases h
      cases S.ok n a _ e q with
      | lkl h _ => exact .base (.frz h)
    · rename_i q
      cases h
      cases S.ok n a _ e q with
      | dct h _ => exact .base (.dK h)
    · rename_i q
      cases h
      cases S.ok n a _ e q with
      | lkd h _ => exact .fDict h
    · cases h
def isiM : List MV → AH → Rs MV := fun ms A => match ms with
  | [v, .ty T] => (match tyN A v with
    | some t => if tys1.contains T then .ok (.bl (isTy t T)) A else .bad
    | none => .bad)
  | _ => .bad
theorem m_isi (hm : X.mg "isinstance" = none) (ha : PA X [e, e2] (tMA X.K W g)) (hg : Gl X "isinstance" := by rfl) (he : starEach [e, e2] X.env = (false, eval e X.env) :: starEach [e2] X.env := by rfl) (hpl : (backTo pos (starEach [e2] X.env)).any (·.1) = false := by rfl) : PE X (.Call (.Name "isinstance" p) [e, e2] [] pos) (tM X.K W fun ρ A => (g ρ A).bind isiM) :=
  m_cB call_isi (fun {σ ι H A ms vs Q} S r h => by
    unfold isiM at h
    split at h
    · rename_i v T
      cases r with
      | cons rv rr => cases rr with
        | cons r2 r3 =>
          cases r3
          cases r2
          split at h
          · rename_i t et
            split at h
            · rename_i hT
              have hT : T ∈ tys1 := by simpa using hT
              have := List.all_eq_true.mp isTy_kit t (tyN_mem et)
              have := of_decide_eq_true (List.all_eq_true.mp this T hT)
              exact ⟨_, _, .type t, .type T, _, rfl, .ty T, tyN_rel S rv et, kit_ty this, h.ok0 ⟨S, .bl _⟩⟩
            · exact h.elim
          · exact h.elim
    · exact h.elim) hm PyProof.Rows.boot_isinstance ha hg (he := he) (hpl := hpl)
end
end Mv
/-! Mv9: errors: raise, try; own special methods; dict comprehensions -/
namespace Mv
open PySem PySem.Spec PyProof.Rows L2 Fk
/-! ### raise -/
def sRaise (c : Str) (mk : MV → List (Str × MV)) (fe : FE) : FS := fun ρ A => (fe ρ A).fs ρ fun v A => .err c (mk v) ρ A
section
variable {X : Cx} {W : Wi} {e : Expr} {fe : FE} {p pos : Pos}
theorem ms_raise {rpos : Pos} {c y : Str} {mk : V → List (Str × V)} {mkM : MV → List (Str × MV)} (hc : X.calm = true) (tk : Takes X W.w) (M : Mkr X.prog X.w X.K X.mg X.base (He.ga X.K c) y mk) (hr : Room 3 X.A) (hm : X.mg c = some (.ref (He.ga X.K c))) (he : PE X e (tM X.K W fe))
    (hk : ∀ {ι : Io} {H : Hp} {m : MV} {u : V}, RV X.K ι H m u → RFs X.K ι H (mkM m) (mk u)) (hg : Gl X c := by rfl) (hdb : (c == ("__debug__" : Str)) = false := by decide) (hse : starEach [e] X.env = [(false, eval e X.env)] := by rfl) : PS X (.Raise (some (.Call (.Name c p) [e] [] pos)) none rpos) (tMS X.K W (sRaise c mkM fe)) :=
  (ps_raise hc tk (pmk_ex1 M hr hg hm he hdb hse)).imp fun D σ H ⟨ι, A, ρ, S, E, h⟩ => RPS_bind S E h fun ι1 A1 v u H1 e1 ⟨S1, r1⟩ h1 => ⟨u, rfl, fun dx hd => h1 ι1 _ σ dx (Ext.new1 hd) (S1.new1 hd) ((E.ext e1).ext (Ext.new1 hd)) ⟨⟨_, upd_same, (hk r1).ext (Ext.new1 hd)⟩, S1.outA hd⟩⟩
end
/-! ### try -/
theorem Le.errR {K : PySem.W.Frag} {ι ι' : Io} {H H' : Hp} {fs : List (Str × MV)} {d : Addr} (l : Le ι H ι' H') (e : ErrR K ι H fs d) : ErrR K ι' H' fs d := by
  obtain ⟨⟨ps, h1, h2⟩, h3⟩ := e
  exact ⟨⟨ps, (l.keep d _ h3 h1).2, h2.le l⟩, (l.keep d _ h3 h1).1⟩
/-- in a suite: the error that is handled -/
def Wsu (K : PySem.W.Frag) (fs : List (Str × MV)) (d : Addr) (sl : Option (Nat × Addr)) : Wi := ⟨fun _ _ _ _ => False, fun ι H => ErrR K ι H fs d, fun l h => l.errR h, sl⟩
/-- a clause: the classes that are known to it, which of them it takes, its slot, its suite -/
structure Cl where
  cs : List Str
  sb : Str → Bool
  sl : Option Nat
  sf : Str → List (Str × MV) → FS
def unsl (i : Nat) : Fs → Fs
  | .nx ρ A => .nx (ρ.set i none) A
  | .bk ρ A => .bk (ρ.set i none) A
  | .ct ρ A => .ct (ρ.set i none) A
  | .err c fs ρ A => .bad
  | r => r
def noErr : Fs → Fs
  | .err c fs ρ A => .bad
  | r => r
def handleM : List Cl → Str → List (Str × MV) → FS
  | [], c, fs => fun ρ A => .err c fs ρ A
  | h :: r, c, fs => fun ρ A => if h.cs.contains c then (if h.sb c then (match h.sl with
      | none => noErr (h.sf c fs ρ A)
      | some i => unsl i (h.sf c fs (ρ.set i none) A)) else handleM r c fs ρ A) else .bad
def sTry (body : FS) (hs : List Cl) : FS := fun ρ A => match body ρ A with
  | .err c fs ρ' A' => handleM hs c fs ρ' A'
  | r => r
/-- what the clauses wish of an error of the body -/
def wCls (K : PySem.W.Frag) (W : Wi) (D : Ends) (hs : List Cl) : WX := fun cls d σ H => ∃ c dx fs ι A ρ, cls = .ref (He.ga K c) ∧ d = some dx ∧ Sim K ι A H ∧ REnv (Wi.of W.w) K ι H ρ σ ∧ ErrR K ι H fs dx ∧ RPS K (Wi.of W.w) D ι H (handleM hs c fs ρ A)
inductive ClsOk (X : Cx) : List ExceptHandler → List Cl → Prop
  | nil : ClsOk X [] []
  | one {x : Str} {h : Cl} {b₀ : Stmt} {suite : List Stmt} {np pos' : Pos} {hds : List ExceptHandler} {l : List Cl} (hc : Names X x (.ref (He.ga X.K x))) (hx : ∀ c ∈ h.cs, PySem.W.exmOne X.K (.ref (He.ga X.K c)) (.ref (He.ga X.K x)) = some (h.sb c)) (hsl : h.sl = none)
      (hsu : ∀ (a : Addr) (oe : Obj) (c : Str) (d : Addr) (fs : List (Str × MV)) (pn : List (Addr × Obj)), Zc (.ref (He.ga X.K c)) (some d) oe → (∃ vs, oe.data = .fields vs) → c ∈ h.cs → h.sb c = true → PSs (X.suite a ((a, oe) :: pn)) (b₀ :: suite) (tMS X.K (Wsu X.K fs d none) (h.sf c fs))) (r : ClsOk X hds l) :
      ClsOk X (.ExceptHandler (some (.Name x np)) none (b₀ :: suite) pos' :: hds) (h :: l)
  | as {x n : Str} {i : Nat} {h : Cl} {b₀ : Stmt} {suite : List Stmt} {np pos' : Pos} {hds : List ExceptHandler} {l : List Cl} (hc : Names X x (.ref (He.ga X.K x))) (hx : ∀ c ∈ h.cs, PySem.W.exmOne X.K (.ref (He.ga X.K c)) (.ref (He.ga X.K x)) = some (h.sb c)) (hsl : h.sl = some i)
      (hi : X.N[i]? = some n) (hln : X.env.kindOf n = some .local)
      (hsu : ∀ (a : Addr) (oe : Obj) (c : Str) (d : Addr) (fs : List (Str × MV)) (pn : List (Addr × Obj)), Zc (.ref (He.ga X.K c)) (some d) oe → (∃ vs, oe.data = .fields vs) → c ∈ h.cs → h.sb c = true → PSs (X.suite a ((a, oe) :: pn)) (b₀ :: suite) (tMS X.K (Wsu X.K fs d (some (i, a))) (h.sf c fs))) (r : ClsOk X hds l) :
      ClsOk X (.ExceptHandler (some (.Name x np)) (some n) (b₀ :: suite) pos' :: hds) (h :: l)
section
variable {X : Cx} {body : List Stmt} {h₀ : ExceptHandler} {hds : List ExceptHandler} {l : List Cl} {pos : Pos} {W : Wi} {fb : FS}
theorem ms_try (hs : X.stack = X.env :: X.outer) (hf : X.env.frame = some X.env.locals) (hN : X.N.Nodup) (tk : Takes X W.w)
    (hb : ∀ (W' : WX) (pn : List (Addr × Obj)) (xe : Value → Shared → Prop), Takes (X.tr pn xe) W' → PassesOwn (model X.prog X.w) X.A X.env xe → PSs (X.tr pn xe) body (tMS X.K (Wi.of W') fb))
    (hh : ClsOk X (h₀ :: hds) l) (hW : ∀ ι H, W.z ι H) (hW2 : W.sl = none) : PS X (.Try body (h₀ :: hds) [] [] pos) (tMS X.K W (sTry fb l)) := by
  refine ⟨fun pins s σ H D I h => ?_⟩
  obtain ⟨ι0, A0, ρ0, S0, E0, h⟩ := h
  have ok := I.ok
  have hfr : X.A.frames = some (X.env :: X.outer) := by rw [ok.frames, hs]
  have toW : ∀ {ι H ρ σ} {w : WX}, REnv (Wi.of w) X.K ι H ρ σ → REnv W X.K ι H ρ σ := fun r => ⟨r.len, r.get, hW _ _, fun i a q => by rw [hW2] at q; cases q⟩
  refine wpAny_Try_except ?_
  refine wpAny_mono ((hb (wCls X.K W D l) (X.pn ++ pins) (fun e s₁ => wpAny (model X.prog X.w) X.A (noteFrame e X.env) (fun _ s₂ => wpAny (model X.prog X.w) X.A (setFlight e none) (fun _ s₃ =>
    wpAny (model X.prog X.w) X.A (handleBy e X.env (h₀ :: hds)) (SP X pins D) X.xe s₃) X.xe s₂) X.xe s₁) (fun u s' xx => ?_) PassesOwn.looking).run [] s σ H D (I.toTry _) ⟨ι0, A0, ρ0, S0, E0.w0, ?_⟩) (fun f s1 hsp => ?_) (fun e s1 he => he)
  · -- the catch
    obtain ⟨a, B, sI, pins', σ', H', cls, d, rfl, J', nb, up, sky, na, os, ag, w⟩ := xx
    have J : Inv X pins σ' H' sI := J'.ofTry ok
    have sky' : Sky B (X.env :: X.outer) a (Zc cls d) X.env.locals s'.heap := by rw [← hs]; exact sky
    show wpAny (model X.prog X.w) X.A (noteFrame (.ref a) X.env) _ _ _
    refine Sky.land Zc.steady hfr hf sky' fun h3 fl3 up3 => ?_
    have J3 : Inv X pins σ' H' { s' with heap := h3 } := J.landed nb fl3.1 (up.trans up3) os ag
    obtain ⟨oe3, vs3, he3, hz3, hd3⟩ := fl3.there
    have notFr : ∀ {h : Heap} {o : Obj} {vs : Array Value}, h.FunFrames B (X.env :: X.outer) → h.get? a = some o → o.data = .fields vs → a ∉ frs (X.env :: X.outer) := fun {h o vs} ff e dd hm => by
      obtain ⟨_, o', e', hnf⟩ := ff.mem hm
      rw [e] at e'; cases e'
      exact hnf _ dd
    have nfr := notFr fl3.2.2.1 he3 hd3
    have nL : a ≠ X.env.locals := fun z => nfr (List.mem_filterMap.mpr ⟨X.env, List.mem_cons_self, by rw [hf, z]⟩)
    have nF : a ∉ X.fs := fun hm => by
      obtain ⟨e, he, q⟩ := List.mem_filterMap.mp hm
      exact nfr (List.mem_filterMap.mpr ⟨e, List.mem_cons_of_mem _ he, q⟩)
    have S3 := J3.suite he3 hd3 na nL nF
    obtain ⟨c, dx, fs, ι, A, ρ, rfl, rfl, Sw, Ew, er, w⟩ := w
    have go : ∀ {hds' : List ExceptHandler} {l' : List Cl}, ClsOk X hds' l' → RPS X.K (Wi.of W.w) D ι H' (handleM l' c fs ρ A) →
        wpAny (model X.prog X.w) X.A (handleBy (.ref a) X.env hds') (SP X pins D) X.xe { s' with heap := h3 } := by
      intro hds' l' hk
      induction hk with
      | nil =>
        intro w
        refine wpAny_handleBy_nil ?_
        obtain ⟨k1, k2, k3, oe, vs, T, oT, ts', he, hz, hd, h1, hr⟩ := id fl3
        unfold PySem.passOn
        refine wpAny_bind (wpAny_field he hd h1 ?_)
        rw [if_neg (show ¬ ((Value.ref T == Value.none) = true) from by simp)]
        have fin : wpAny (model X.prog X.w) X.A (setFlight (.ref a) X.env.frame) (fun _ s4 => wpAny (model X.prog X.w) X.A (throw (.ref a) : Sem Flow) (SP X pins D) X.xe s4) X.xe { s' with heap := h3 } := by
          rw [hf]
          refine HandSPX.setFlight_upZ fl3 fun h4 hh4 up4 => wpAny_throw (tk _ _ ?_)
          exact ⟨a, B, sI, pins, σ', H', .ref (He.ga X.K c), some dx, rfl, J, nb, (up.trans up3).trans up4, .inr (.inr (by rw [hs]; exact hh4)), na, os, ag, w ι H' σ' dx (Ext.refl _ _) Sw Ew er⟩
        first
          | exact wpAny_bind (wpAny_pure (wpAny_bind fin))
          | exact wpAny_bind fin
      | @one x h b₀ suite np pos' hds2 l2 hc hx hsl hsu r ih =>
        intro w
        unfold handleM at w
        by_cases hcs : h.cs.contains c = true
        · rw [if_pos hcs] at w
          have hb1 := hx c (by simpa using hcs)
          refine wpAny_handleBy_cons (codeAny_handlers_test ?_) (by intro q; cases q)
          have LT : PySem.W.Looks (model X.prog X.w) h3 (typeOf (.ref a)) (.ref (He.ga X.K c)) := fun A Q E s k q => wpAny_typeOf_ref (k _ _ he3) (by rw [hz3.1]; exact q)
          have LM := PySem.W.exm_one (M := model X.prog X.w) (J3.kIn) LT hb1
          have test : ∀ {Q : Value → Shared → Prop} {E : Value → Shared → Prop}, Q (.ref (He.ga X.K x)) { s' with heap := h3 } → wpAny (model X.prog X.w) (X.A.mark (some (.ref a))) (eval (.Name x np) X.env) Q E { s' with heap := h3 } := fun {Q E} q => by
            obtain ⟨hg, hdbg, hm | ⟨hm, hv, hnn⟩⟩ := hc
            · exact ld_glob (X := X.suite a ((a, oe3) :: (X.pn ++ pins))) S3 hg hm q hdbg
            · exact ld_blt (X := X.suite a ((a, oe3) :: (X.pn ++ pins))) S3 hg hm hv q hnn hdbg
          refine test (LM.here ?_)
          cases hsb : h.sb c with
          | true =>
            rw [hsb, if_pos rfl, hsl] at w
            dsimp only at w
            refine codeAny_handlers_suite ?_
            refine HandSPX.lands_againZ fl3 fun h4 fl4 up4 => ?_
            have J4 : Inv X pins σ' H' { s' with heap := h4 } := J.landed nb fl4.1 ((up.trans up3).trans up4) os ag
            obtain ⟨oe4, vs4, he4, hz4, hd4⟩ := fl4.there
            have S4 := J4.suite he4 hd4 na nL nF
            refine wpAny_mono ((hsu a oe4 c dx fs (X.pn ++ pins) hz4 ⟨_, hd4⟩ (by simpa using hcs) hsb).run [] _ _ H' D S4 ⟨ι, A, ρ, Sw, ⟨Ew.len, Ew.get, er, fun _ _ q => nomatch q⟩, ?_⟩) (fun f s6 hsp => ?_) (fun _ _ z => False.elim z)
            · cases ef : h.sf c fs ρ A with
              | nx ρ' A' => rw [ef] at w; exact fun ι' H' σ' x s q => w ι' H' σ' x s q.w0
              | bk ρ' A' => rw [ef] at w; exact fun ι' H' σ' x s q => w ι' H' σ' x s q.w0
              | ct ρ' A' => rw [ef] at w; exact fun ι' H' σ' x s q => w ι' H' σ' x s q.w0
              | rt v A' => rw [ef] at w; exact w
              | err c' fs' ρ' A' => rw [ef] at w; exact w.elim
              | bad => rw [ef] at w; exact w
            · cases f with
              | next =>
                obtain ⟨σ6, H6, S6, q6⟩ := hsp
                exact ⟨_, _, S6.unsuite ok, q6⟩
              | brk =>
                obtain ⟨σ6, H6, S6, q6⟩ := hsp
                exact ⟨_, _, S6.unsuite ok, q6⟩
              | cont =>
                obtain ⟨σ6, H6, S6, q6⟩ := hsp
                exact ⟨_, _, S6.unsuite ok, q6⟩
              | ret u =>
                obtain ⟨v6, σ6, H6, S6, r6, q6⟩ := hsp
                exact ⟨_, _, _, S6.unsuite ok, r6, q6⟩
          | false =>
            rw [hsb, if_neg Bool.false_ne_true] at w
            show wpAny _ X.A (handleBy (.ref a) X.env hds2) _ _ _
            exact ih w
        · rw [if_neg hcs] at w
          exact w.elim
      | @as x n i h b₀ suite np pos' hds2 l2 hc hx hsl hi hln hsu r ih =>
        intro w
        unfold handleM at w
        by_cases hcs : h.cs.contains c = true
        · rw [if_pos hcs] at w
          have hb1 := hx c (by simpa using hcs)
          have hloc : Loc X.env.scope n := .inl hln
          refine wpAny_handleBy_cons (codeAny_handlers_test ?_) (by intro q; cases q)
          have LT : PySem.W.Looks (model X.prog X.w) h3 (typeOf (.ref a)) (.ref (He.ga X.K c)) := fun A Q E s k q => wpAny_typeOf_ref (k _ _ he3) (by rw [hz3.1]; exact q)
          have LM := PySem.W.exm_one (M := model X.prog X.w) (J3.kIn) LT hb1
          have test : ∀ {Q : Value → Shared → Prop} {E : Value → Shared → Prop}, Q (.ref (He.ga X.K x)) { s' with heap := h3 } → wpAny (model X.prog X.w) (X.A.mark (some (.ref a))) (eval (.Name x np) X.env) Q E { s' with heap := h3 } := fun {Q E} q => by
            obtain ⟨hg, hdbg, hm | ⟨hm, hv, hnn⟩⟩ := hc
            · exact ld_glob (X := X.suite a ((a, oe3) :: (X.pn ++ pins))) S3 hg hm q hdbg
            · exact ld_blt (X := X.suite a ((a, oe3) :: (X.pn ++ pins))) S3 hg hm hv q hnn hdbg
          refine test (LM.here ?_)
          cases hsb : h.sb c with
          | true =>
            rw [hsb, if_pos rfl, hsl] at w
            dsimp only at w
            refine codeAny_handlers_suite_as ?_
            refine HandSPX.lands_againZ fl3 fun h4 fl4 up4 => ?_
            have J4 : Inv X pins σ' H' { s' with heap := h4 } := J.landed nb fl4.1 ((up.trans up3).trans up4) os ag
            obtain ⟨oe4, vs4, he4, hz4, hd4⟩ := fl4.there
            have S4 := J4.suite he4 hd4 na nL nF
            refine store_ok (X := X.suite a ((a, oe4) :: (X.pn ++ pins))) (v := .ref a) S4 hN hi hloc rfl (fun s5 S5 => ?_) (.inr hln)
            have il : i < ρ.length := by
              rw [Ew.len]
              have := J.len
              rw [this]
              exact (List.getElem?_eq_some_iff.mp hi).1
            have E5 : REnv (Wsu X.K fs dx (some (i, a))) X.K ι H' (ρ.set i none) (σ'.set i (some (.ref a))) := by
              refine ⟨by rw [List.length_set, List.length_set]; exact Ew.len, fun j v e => ?_, er, fun j b q e => ?_⟩
              · by_cases hj : i = j
                · subst hj
                  rw [List.getElem?_set_self il] at e
                  cases e
                · rw [List.getElem?_set_ne hj] at e ⊢
                  exact Ew.get j v e
              · cases q
                rw [List.getElem?_set_self (by rw [← Ew.len]; exact il)]
            refine wpAny_mono ((hsu a oe4 c dx fs (X.pn ++ pins) hz4 ⟨_, hd4⟩ (by simpa using hcs) hsb).run [] s5 _ H' ⟨fun σ' H' => D.nx (σ'.set i none) H', D.rt, fun σ' H' => D.bk (σ'.set i none) H', fun σ' H' => D.ct (σ'.set i none) H'⟩ S5 ⟨ι, A, _, Sw, E5, ?_⟩) (fun f s6 hsp => ?_) (fun _ _ z => False.elim z)
            · cases ef : h.sf c fs (ρ.set i none) A with
              | nx ρ' A' => rw [ef] at w; exact fun ι' H' σ' x s q => w ι' H' _ x s (q.w0.unset i none)
              | bk ρ' A' => rw [ef] at w; exact fun ι' H' σ' x s q => w ι' H' _ x s (q.w0.unset i none)
              | ct ρ' A' => rw [ef] at w; exact fun ι' H' σ' x s q => w ι' H' _ x s (q.w0.unset i none)
              | rt v A' => rw [ef] at w; exact w
              | err c' fs' ρ' A' => rw [ef] at w; exact w.elim
              | bad => rw [ef] at w; exact w
            · have end_ : ∀ {σ6 : L2.St} {H6 : Hp} {Q : Shared → Prop}, Inv (X.suite a ((a, oe4) :: (X.pn ++ pins))) [] σ6 H6 s6 → (∀ s7, Inv X pins (σ6.set i none) H6 s7 → Q s7) →
                  wpAny (model X.prog X.w) X.A (do bindName X.env n .none; unbindBehindTheSuite X.env n pos') (fun _ s7 => Q s7) X.xe s6 := fun {σ6 H6 Q} S6 hq => gone_ok (S6.unsuite ok) hN hi hln hq
              cases f with
              | next =>
                obtain ⟨σ6, H6, S6, q6⟩ := hsp
                exact end_ S6 fun s7 J7 => ⟨_, _, J7, q6⟩
              | brk =>
                obtain ⟨σ6, H6, S6, q6⟩ := hsp
                exact end_ S6 fun s7 J7 => ⟨_, _, J7, q6⟩
              | cont =>
                obtain ⟨σ6, H6, S6, q6⟩ := hsp
                exact end_ S6 fun s7 J7 => ⟨_, _, J7, q6⟩
              | ret u =>
                obtain ⟨v6, σ6, H6, S6, r6, q6⟩ := hsp
                exact end_ S6 fun s7 J7 => ⟨_, _, _, J7, r6, q6⟩
          | false =>
            rw [hsb, if_neg Bool.false_ne_true] at w
            show wpAny _ X.A (handleBy (.ref a) X.env hds2) _ _ _
            exact ih w
        · rw [if_neg hcs] at w
          exact w.elim
    exact go hh w
  · unfold sTry at h
    cases ef : fb ρ0 A0 with
    | nx ρ' A' => rw [ef] at h; exact fun ι' H' σ' x s q => h ι' H' σ' x s (toW q)
    | bk ρ' A' => rw [ef] at h; exact fun ι' H' σ' x s q => h ι' H' σ' x s (toW q)
    | ct ρ' A' => rw [ef] at h; exact fun ι' H' σ' x s q => h ι' H' σ' x s (toW q)
    | rt v A' => rw [ef] at h; exact h
    | bad => rw [ef] at h; exact h
    | err c fs ρ' A' =>
      rw [ef] at h
      intro ι' H' σ' d x s q er
      refine ⟨c, d, fs, ι', A', ρ', rfl, rfl, s, q.w0, er, ?_⟩
      have h2 : RPS X.K W D ι' H' (handleM l c fs ρ' A') := RPS.ext x h
      cases eg : handleM l c fs ρ' A' with
      | nx ρ2 A2 => rw [eg] at h2; exact fun ι' H' σ' x s q => h2 ι' H' σ' x s (toW q)
      | bk ρ2 A2 => rw [eg] at h2; exact fun ι' H' σ' x s q => h2 ι' H' σ' x s (toW q)
      | ct ρ2 A2 => rw [eg] at h2; exact fun ι' H' σ' x s q => h2 ι' H' σ' x s (toW q)
      | rt v A2 => rw [eg] at h2; exact h2
      | bad => rw [eg] at h2; exact h2
      | err c2 fs2 ρ2 A2 => rw [eg] at h2; exact fun ι' H' σ' d x s q er => h2 ι' H' σ' d x s (toW q) er
  · cases f with
    | next =>
      obtain ⟨σ', H', J', q⟩ := hsp
      exact wpAny_execs_nil ⟨σ', H', J'.ofTry ok, q⟩
    | brk =>
      obtain ⟨σ', H', J', q⟩ := hsp
      exact ⟨σ', H', J'.ofTry ok, q⟩
    | cont =>
      obtain ⟨σ', H', J', q⟩ := hsp
      exact ⟨σ', H', J'.ofTry ok, q⟩
    | ret u =>
      obtain ⟨v, σ', H', J', r, q⟩ := hsp
      exact ⟨v, σ', H', J'.ofTry ok, r, q⟩
end
/-- e.f in a suite -/
def eExf (i : Nat) (fs : List (Str × MV)) (f : Str) : FE := fun ρ A => match ρ[i]? with
  | some none => (match fs.lookup f with
    | some v => .ok v A
    | none => .bad)
  | _ => .bad
theorem m_exf {X : Cx} {c f n : Str} {i : Nat} {a d : Addr} {oe : Obj} {fs : List (Str × MV)} {pn : List (Addr × Obj)} {pos npos : Pos} (hz : Zc (.ref (He.ga X.K c)) (some d) oe) (hf : ∃ vs, oe.data = .fields vs) (T : XfC X.K (He.ga X.K c)) (hno : PySem.W.findIn X.K (.ref (He.ga X.K c)) f = some none)
    (hN : (X.suite a ((a, oe) :: pn)).N[i]? = some n := by rfl) (hv : Vis (X.suite a ((a, oe) :: pn)).env.scope n := by first | exact Or.inl rfl | exact Or.inr (Or.inl rfl) | exact Or.inr (Or.inr rfl)) (hd : (n == ("__debug__" : Str)) = false := by decide) (hcd : (n == ("__classdict__" : Str)) = false := by decide)
    (hb : attributeBase (.Name n npos) f (X.suite a ((a, oe) :: pn)).env (eval (.Name n npos) (X.suite a ((a, oe) :: pn)).env) = eval (.Name n npos) (X.suite a ((a, oe) :: pn)).env := by rfl) :
    PE (X.suite a ((a, oe) :: pn)) (.Attribute (.Name n npos) f pos) (tM X.K (Wsu X.K fs d (some (i, a))) (eExf i fs f)) := by
  refine ⟨fun pins s σ H Q I ⟨ι, A, ρ, S, E, h⟩ => ?_⟩
  unfold eExf at h
  split at h
  · rename_i er
    split at h
    · rename_i v ev
      have hs := E.sl i a rfl er
      refine attr_of hb (thn ((pe_var hN hv hd hcd).run pins s σ H (fun u H1 => u = .ref a ∧ H1 = H) I ⟨_, hs, rfl, rfl⟩) fun u s1 ⟨x, H1, I1, rx, ex, e1⟩ => ?_)
      subst ex e1
      obtain rfl : u = Value.ref a := rx
      obtain ⟨⟨ps, hd1, rf⟩, _⟩ := E.z
      obtain ⟨b, hb', rb⟩ := rf.get ev
      obtain ⟨mA, hns, hr⟩ := (show ObjOk _ _ H1 s1.heap d (.xd ps) from I1.hok d _ hd1)
      obtain ⟨od, ho, hl⟩ := lookIn_ns hns
      obtain ⟨w, hw, rw'⟩ := RelO.some_of (v := b) (o := mA f) (by rw [← hb']; exact hr f)
      obtain ⟨ha, _⟩ := I1.pin (a, oe) (List.mem_append_left _ List.mem_cons_self)
      obtain ⟨vs, hdd⟩ := hf
      have J : PySem.W.InstAt s1.heap a oe (He.ga X.K c) (some od) := ⟨ha, hz.1, by unfold PySem.W.notCls; rw [hdd] <;> rfl, by rw [hz.2]; exact ho⟩
      exact HandSPX.exc_get I1.kIn J T.ga T.gg T.exC (PySem.W.findObj_own T.hdC hno rfl (by rw [hl, hw])) (handed_of rw') ⟨b, H1, I1.tok _, rw', h.ok0 ⟨S, rb⟩⟩
    · exact h.elim
  · exact h.elim
/-! ### own special methods -/
section
variable {X : Cx} {W : Wi} {k : Nat} {f : Addr} {fd : FuncData} {ps : List Str} {F : FF} {C : Str} {e o i : Expr} {fo fi : FE} {p pos : Pos} {es : List Expr}
theorem run_MA {pins : List (Addr × Obj)} {σ : L2.St} {H : Hp} {s : Shared} {Q : VK} {us : List Value} {vs : List V} {ms : List MV} {ι : Io} {A : AH} {A' : Around} (G : FnOk X.prog X.w X.K X.mg X.base (L2.CX X.prog X.w) k f fd ps (spM X.K ps.length F)) (sb : L2.Sub X k A') (B : Binds X.K fd ps []) (tk : Takes X W.w)
    (I : Inv X pins σ H s) (S : Sim X.K ι A H) (rm : RVs X.K ι H ms vs) (l1 : ms.length = ps.length) (r : Vals vs us) (h : RP X.K W σ (rV X.K) ι H (F ms A) Q) : wpAny (model X.prog X.w) A' (call (.ref f) us) (EP X pins σ Q) X.xe s := by
  have e0 : Env0 X.prog X.w X.K X.mg X.base A' X.stack s H := by
    have e := I.env0
    exact ⟨by rw [sb.fr]; exact e.frames, e.mod, e.bs, e.bsz, e.funs, e.frf, e.hok, e.bare⟩
  have hl : vs.length = ps.length := by rw [← rm.length, l1]
  have b := B s us I.kIn (by rw [List.append_nil, ← r.length, hl])
  rw [List.append_nil] at b
  refine wpAny_call (codeAny_mono (G.run A' X.stack s H ⟨us, []⟩ us vs Q (WE W.w σ) sb.room e0 b r ⟨hl, ι, A, _, S, rm, h.wi fun _ _ _ z => z⟩) fun r s' hq => ?_)
  cases r with
  | error e => exact passAt tk σ pins H s e s' I hq
  | ok fl =>
    cases fl with
    | ret u => exact I.after hq
    | next => exact False.elim hq
    | brk => exact False.elim hq
    | cont => exact False.elim hq
theorem inst_at {pins : List (Addr × Obj)} {σ : L2.St} {H : Hp} {s : Shared} {a dx D : Addr} {qs : List (Str × V)} (I : Inv X pins σ H s) (ha : H a = some (.ins D dx qs)) : ∃ ox od, PySem.W.InstAt s.heap a ox D od := by
  obtain ⟨mA, J, _⟩ := ins_get I.hok ha
  obtain ⟨od, J, _⟩ := J.look
  exact ⟨_, _, J⟩
def eGetI (C : Str) (F : FF) (fo fi : FE) : FE := fun ρ A => (fo ρ A).bind fun v A => (fi ρ A).bind fun w A => match insOf C A v with
  | some _ => F [v, w] A
  | none => .bad
theorem m_getitem (hm : Meth X.K (He.ga X.K C) "__getitem__" f) (G : FnOk X.prog X.w X.K X.mg X.base (L2.CX X.prog X.w) k f fd ps (spM X.K ps.length F)) (hf : PySem.W.fnIn X.K f = true) (B : Binds X.K fd ps []) (hp : ps.length = 2) (hr : Room (k + 1) X.A) (tk : Takes X W.w) (ho : PE X o (tM X.K W fo)) (hi : PE X i (tM X.K W fi))
    (hsl : ∀ x j, subscripted i true x j = runValue (.builtin "lifetime.subscript" ⟨[x, j], []⟩) := by intro _ _; rfl) : PE X (.Subscript o i pos) (tM X.K W (eGetI C F fo fi)) := by
  refine ⟨fun pins s σ H Q I ⟨ι, A, ρ, S, E, h⟩ => ?_⟩
  refine Subscript_ (binT (R := fun x y H2 => ∃ ι A v w fs, Sim X.K ι A H2 ∧ RV X.K ι H2 v x ∧ RV X.K ι H2 w y ∧ insOf C A v = some fs ∧ RP X.K W σ (rV X.K) ι H2 (F [v, w] A) Q) ho hi I ?_ fun v u s2 x y H2 I2 rx ry q => ?_)
  · refine RP_bind S E h fun ι1 A1 x u H1 e1 ⟨S1, r1⟩ h1 => RP_bind S1 (E.ext e1) h1 fun ι2 A2 y v H2 e2 ⟨S2, r2⟩ h2 => ?_
    cases q : insOf C A2 x with
    | none => rw [q] at h2; exact h2.elim
    | some fs =>
      rw [q] at h2
      exact ⟨ι2, A2, x, y, fs, S2, r1.ext e2, r2, q, h2⟩
  · obtain ⟨ι, A, mv, mw, fs, S2, r1, r2, qi, h2⟩ := q
    obtain ⟨a, dx, qs, rfl, ha, rf⟩ := S2.insOf r1 qi
    cases rx
    obtain ⟨ox, od, J⟩ := inst_at I2 ha
    obtain ⟨m, hF⟩ := I2.fr
    exact PySem.W.sub_K hF I2.ok.mod.kin J hm.at_ hf hm.fn (run_MA (vs := [.ref a, y]) G ⟨hr.in1, rfl⟩ B tk I2 S2 (.cons r1 (.one r2)) (by rw [hp]; rfl) (.cons rfl (.cons ry .nil)) h2) (hsl _ _)
/-- x in o, by an own __contains__ -/
def inO (C : Str) (F : FF) (neg : Bool) (fe fo : FE) : FE := fun ρ A => (fe ρ A).bind fun w A => (fo ρ A).bind fun v A => match insOf C A v with
  | some _ => (F [v, w] A).bind fun r A => (match r with
    | .bl b => .ok (.bl (neg != b)) A
    | _ => .bad)
  | none => .bad
theorem inO_run {neg : Bool} {op : CmpOp} (hop : ∀ {pins : List (Addr × Obj)} {σ : L2.St} {H : Hp} {s : Shared} {a : Addr} {u : Value} {ox : Obj} {od : Option Obj} {Q : VK}, Inv X pins σ H s → PySem.W.InstAt s.heap a ox (He.ga X.K C) od → wpAny (model X.prog X.w) X.A (call (.ref f) [.ref a, u]) (fun r s' => ∃ b H', r = .bool b ∧ Inv X pins σ H' s' ∧ Q (.bl (neg != b)) H') X.xe s → wpAny (model X.prog X.w) X.A (compareOp op u (.ref a)) (EP X pins σ Q) X.xe s)
    (G : FnOk X.prog X.w X.K X.mg X.base (L2.CX X.prog X.w) k f fd ps (spM X.K ps.length F)) (B : Binds X.K fd ps []) (hp : ps.length = 2) (hr : Room k X.A) (tk : Takes X W.w) (he : PE X e (tM X.K W fi)) (ho : PE X o (tM X.K W fo)) : PC X op e o (tM X.K W (inO C F neg fi fo)) := by
  refine ⟨fun pins s σ H Q I ⟨ι, A, ρ, S, E, h⟩ => ?_⟩
  refine (binT (R := fun y x H2 => ∃ ι A v w fs, Sim X.K ι A H2 ∧ RV X.K ι H2 v x ∧ RV X.K ι H2 w y ∧ insOf C A v = some fs ∧ RP X.K W σ (rV X.K) ι H2 ((F [v, w] A).bind fun r A => (match r with
    | .bl b => .ok (.bl (neg != b)) A
    | _ => .bad)) Q) he ho I ?_ fun v u s2 x y H2 I2 rx ry q => ?_)
  · refine RP_bind S E h fun ι1 A1 x u H1 e1 ⟨S1, r1⟩ h1 => RP_bind S1 (E.ext e1) h1 fun ι2 A2 y v H2 e2 ⟨S2, r2⟩ h2 => ?_
    cases q : insOf C A2 y with
    | none => rw [q] at h2; exact h2.elim
    | some fs =>
      rw [q] at h2
      exact ⟨ι2, A2, y, x, fs, S2, r2, r1.ext e2, q, h2⟩
  · obtain ⟨ι, A, mv, mw, fs, S2, r1, r2, qi, h2⟩ := q
    obtain ⟨a, dx, qs, rfl, ha, rf⟩ := S2.insOf r1 qi
    cases ry
    obtain ⟨ox, od, J⟩ := inst_at I2 ha
    refine hop I2 J (wpAny_mono (run_MA (vs := [.ref a, x]) (Q := fun r H' => ∃ b, r = .bl b ∧ Q (.bl (neg != b)) H') G ⟨hr, rfl⟩ B tk I2 S2 (.cons r1 (.one r2)) (by rw [hp]; rfl) (.cons rfl (.cons rx .nil)) (RP.bnd h2 fun ι3 A3 m z H3 e3 ⟨S3, r3⟩ h3 => ?_)) (fun r s' ⟨z, H', I', rz, b, eb, qb⟩ => ?_) fun _ _ x => x)
    · cases r3 with
      | bl b => exact ⟨b, rfl, h3.ok0 ⟨S3, .bl _⟩⟩
      | _ => exact h3.elim
    · subst eb
      cases rz
      exact ⟨b, H', rfl, I', qb⟩
theorem m_inO (hm : Meth X.K (He.ga X.K C) "__contains__" f) (G : FnOk X.prog X.w X.K X.mg X.base (L2.CX X.prog X.w) k f fd ps (spM X.K ps.length F)) (B : Binds X.K fd ps []) (hp : ps.length = 2) (hr : Room k X.A) (tk : Takes X W.w) (he : PE X e (tM X.K W fi)) (ho : PE X o (tM X.K W fo)) : PC X .In e o (tM X.K W (inO C F false fi fo)) :=
  inO_run (neg := false) (fun {pins σ H s a u ox od Q} I J h => by
    obtain ⟨m, hF⟩ := I.fr
    refine PySem.W.in_K hF I.ok.mod.kin J hm.at_ hm.fn (wpAny_mono h (fun r s' ⟨b, H', er, I', q⟩ => ?_) fun _ _ x => x)
    subst er
    rw [nb] at q
    exact wpAny_truthy_bool ⟨.bl b, H', I', rfl, q⟩) G B hp hr tk he ho
theorem m_notInO (hm : Meth X.K (He.ga X.K C) "__contains__" f) (G : FnOk X.prog X.w X.K X.mg X.base (L2.CX X.prog X.w) k f fd ps (spM X.K ps.length F)) (B : Binds X.K fd ps []) (hp : ps.length = 2) (hr : Room k X.A) (tk : Takes X W.w) (he : PE X e (tM X.K W fi)) (ho : PE X o (tM X.K W fo)) : PC X .NotIn e o (tM X.K W (inO C F true fi fo)) :=
  inO_run (neg := true) (fun {pins σ H s a u ox od Q} I J h => by
    obtain ⟨m, hF⟩ := I.fr
    refine PySem.W.notIn_K hF I.ok.mod.kin J hm.at_ hm.fn (wpAny_mono h (fun r s' ⟨b, H', er, I', q⟩ => ?_) fun _ _ x => x)
    subst er
    rw [tb] at q
    exact wpAny_truthy_bool ⟨.bl (!b), H', I', rfl, q⟩) G B hp hr tk he ho
/-- len(o), by an own __len__ -/
def lenO (C : Str) (F : FF) : List MV → AH → Rs MV := fun ms A => match ms with
  | [v] => (match insOf C A v with
    | some _ => (F [v] A).bind fun r A => (match r with
      | .int n => if 0 ≤ n ∧ n ≤ 1000000 then .ok (.int n) A else .bad
      | _ => .bad)
    | none => .bad)
  | _ => .bad
theorem m_lenO {g : FL} (hm : Meth X.K (He.ga X.K C) "__len__" f) (G : FnOk X.prog X.w X.K X.mg X.base (L2.CX X.prog X.w) k f fd ps (spM X.K ps.length F)) (B : Binds X.K fd ps []) (hp : ps.length = 1) (hr : Room (k + 1) X.A) (tk : Takes X W.w) (hl : X.mg "len" = none) (ha : PA X [e] (tMA X.K W g)) (hg : Gl X "len" := by rfl) (he : starEach [e] X.env = (false, eval e X.env) :: starEach [] X.env := by rfl) : PE X (.Call (.Name "len" p) [e] [] pos) (tM X.K W fun ρ A => (g ρ A).bind (lenO C F)) := by
  refine ⟨fun pins s σ H Q I ⟨ι, A, ρ, S, E, h⟩ => ?_⟩
  refine wpAny_Call_Name_kw (ld_blt I hg hl PySem.boot_len ?_ (by decide) (by decide))
  refine PyProof.Rows.callWith_builtin1 (thn (ha.run pos pins s σ H (fun vs H2 => ∃ ι A ms, Sim X.K ι A H2 ∧ RVs X.K ι H2 ms vs ∧ RP X.K W σ (rV X.K) ι H2 (lenO C F ms A) Q) I ?_) fun us s1 ⟨vs, H1, I1, r1, ι, A, ms, S1, rm, h1⟩ => ?_) he rfl
  · exact RP_bind S E h fun ι1 A1 ms vs H1 e1 ⟨S1, r1⟩ h1 => ⟨ι1, A1, ms, S1, r1, h1⟩
  · unfold lenO at h1
    split at h1
    · rename_i v
      cases q : insOf C A v with
      | none => rw [q] at h1; exact h1.elim
      | some fs =>
        rw [q] at h1
        dsimp only at h1
        cases rm with
        | cons rv rr =>
          cases rr
          obtain ⟨a, dx, qs, rfl, ha1, rf⟩ := S1.insOf rv q
          obtain ⟨u, rfl, ru⟩ := vals1 r1
          cases ru
          obtain ⟨ox, od, J⟩ := inst_at I1 ha1
          obtain ⟨m, hF⟩ := I1.fr
          refine PySem.W.len_K hF I1.ok.mod.kin J hm.at_ hm.fn (wpAny_mono (run_MA (vs := [.ref a]) (Q := fun r H' => ∃ n, r = .int n ∧ (0 ≤ n ∧ n ≤ 1000000) ∧ Q (.int n) H') G ⟨hr.in1, rfl⟩ B tk I1 S1 (.one rv) (by rw [hp]; rfl) (.cons rfl .nil) (RP.bnd h1 fun ι3 A3 m z H3 e3 ⟨S3, r3⟩ h3 => ?_)) (fun r s' ⟨z, H', I', rz, n, en, hn, qn⟩ => ?_) fun _ _ x => x)
          · cases r3 with
            | int n =>
              dsimp only at h3
              split at h3
              · rename_i hn
                exact ⟨n, rfl, hn, h3.ok0 ⟨S3, .int _⟩⟩
              · exact h3.elim
            | _ => exact h3.elim
          · subst en
            obtain ⟨t, rfl⟩ := rz
            exact ⟨⟨by omega, by omega⟩, .int n, H', I'.tok _, ⟨_, rfl⟩, qn⟩
    · exact h1.elim
end
end Mv
/-! MvA: dict comprehensions; how arguments bind -/
namespace Mv
open PySem PySem.Spec PyProof.Rows L2 Fk
/-! ### dict comprehensions -/
def dElt (t : FB) (fk fv : FE) : List (Key × MV) → ME → AH → Rs (List (Key × MV)) := fun acc ρ A => match t ρ A with
  | .ok true A1 => (match fk ρ A1 with
    | .ok kv A2 => (match fv ρ A2 with
      | .ok m A3 => (match keyOf kv with
        | some key => if acc.length < 1000000 then .ok (putM acc key m) A3 else .bad
        | none => .bad)
      | _ => .bad)
    | _ => .bad)
  | .ok false A1 => .ok acc A1
  | _ => .bad
def dRun (is : List Nat) (g : MV → Option (List MV)) (q : List (Key × MV) → ME → AH → Rs (List (Key × MV))) : List MV → List (Key × MV) → ME → AH → Rs (List (Key × MV))
  | [], acc, _, A => .ok acc A
  | x :: xs, acc, ρ, A => match g x with
    | none => .bad
    | some ms => match q acc (setAllM ρ is ms) A with
      | .ok acc' A1 => dRun is g q xs acc' ρ A1
      | _ => .bad
def eDc (fi : FL) (own is : List Nat) (g : MV → Option (List MV)) (q : List (Key × MV) → ME → AH → Rs (List (Key × MV))) : FE := fun ρ A => (fi ρ A).bind fun xs A => match dRun is g q xs [] (wipeM ρ own) A with
  | .ok kvs A' => .ok (.ref A'.length) (A' ++ [.dct kvs])
  | _ => .bad
structure DcS (K : PySem.W.Frag) (ι1 : Io) (H1 : Hp) (D : Addr) (tr : List Addr) (H : Hp) (A : AH) (acc : List (Key × MV)) : Prop where
  e : Ext ι1 H1 ⟨tr, ι1.pv⟩ H
  S : Sim K ⟨tr, D :: ι1.pv⟩ A H
  nt : D ∉ tr
  ex : ∃ ps, H D = some (.dK ps) ∧ RKs K ⟨tr, D :: ι1.pv⟩ H acc ps
section
variable {K : PySem.W.Frag} {ι1 ι2 : Io} {H1 H H2 : Hp} {D : Addr} {tr : List Addr} {A A2 : AH} {acc : List (Key × MV)}
theorem DcS.go (L : DcS K ι1 H1 D tr H A acc) (x : Ext ⟨tr, D :: ι1.pv⟩ H ι2 H2) (S2 : Sim K ι2 A2 H2) : ι2 = ⟨ι2.tr, D :: ι1.pv⟩ ∧ DcS K ι1 H1 D ι2.tr H2 A2 acc := by
  obtain ⟨tr2, pv2⟩ := ι2
  have ep : pv2 = D :: ι1.pv := x.pv
  subst ep
  obtain ⟨xs, h1, h2⟩ := L.ex
  exact ⟨rfl, L.e.trans ⟨x.pre, rfl, x.new, x.keep, x.frz⟩, S2, x.out L.nt h1, xs, x.keep _ _ L.nt h1, h2.ext x⟩
theorem DcS.put (L : DcS K ι1 H1 D tr H A acc) (hf : H1 D = none) {m : MV} {y : V} (key : Key) (r : RV K ⟨tr, D :: ι1.pv⟩ H m y) : ∃ ps, H D = some (.dK ps) ∧ ps.length = acc.length ∧ DcS K ι1 H1 D tr (upd H D (.dK (putK ps key y))) A (putM acc key m) ∧ Lx ⟨tr, D :: ι1.pv⟩ H ⟨tr, D :: ι1.pv⟩ (upd H D (.dK (putK ps key y))) := by
  obtain ⟨ps, h1, h2⟩ := L.ex
  have l : Lx ⟨tr, D :: ι1.pv⟩ H ⟨tr, D :: ι1.pv⟩ (upd H D (.dK (putK ps key y))) := Lx.priv (List.mem_cons_self ..) (nofrz_dK h1)
  exact ⟨ps, h1, h2.length.symm, ⟨L.e.mutNew hf, L.S.priv (List.mem_cons_self ..) L.nt, L.nt, _, upd_same, (RKs.put (k := key) r h2).le l.le⟩, l⟩
end
section
variable {X : Cx} {W : Wi} {kx vx tg iter : Expr} {ifs : List Expr} {scope : Scope} {own : List (Str × Nat)} {pos : Pos} {fi : FL} {is : List Nat} {g : MV → Option (List MV)} {ft : FB} {fk fv : FE}
theorem m_dc (hc : X.calm = true) (hN : X.N.Nodup) (hi : PI X tg iter (tMI X.K W fi)) (ok : BlkOk X.N X.env.scope scope own) (hsub : ∀ i ∈ is, i ∈ own.map (·.2))
    (hg : ∀ (s : Shared) (H : Hp) (C : Addr) (cl : List (Str × Addr)) (fp : List Addr), TgM (X.blk s H scope (compEnvC scope cl C X.env) fp) tg is g) (ht : ∀ (s : Shared) (H : Hp) (C : Addr) (cl : List (Str × Addr)) (fp : List Addr), PTsM (X.blk s H scope (compEnvC scope cl C X.env) fp) W0 ifs ft)
    (hk : ∀ (s : Shared) (H : Hp) (C : Addr) (cl : List (Str × Addr)) (fp : List Addr), PE (X.blk s H scope (compEnvC scope cl C X.env) fp) kx (tM X.K W0 fk))
    (he : ∀ (s : Shared) (H : Hp) (C : Addr) (cl : List (Str × Addr)) (fp : List Addr), PE (X.blk s H scope (compEnvC scope cl C X.env) fp) vx (tM X.K W0 fv)) (hs : ∀ x, foldedSetIterable iter X.env x = pure x := by intro _; rfl) :
    PE X (.DictComp kx vx [⟨tg, iter, ifs, 0⟩] scope pos) (tM X.K W (eDc fi (own.map (·.2)) is g (dElt ft fk fv))) := by
  refine (pe_dc (g := tMG X.K is g) (tt := tMB X.K W0 ft) hc hN hi ok hg ht hk he hs).imp fun σ H Q h => ?_
  obtain ⟨ι, A, ρ, S, E, h⟩ := h
  refine RP_bind0 S E h fun ι1 A1 xs J H1 e1 ⟨S1, okJ⟩ h1 => ?_
  intro D hD
  cases er : dRun is g (dElt ft fk fv) xs [] (wipeM ρ (own.map (·.2))) A1 with
  | bad => rw [er] at h1; exact h1.elim
  | err c fs B => rw [er] at h1; exact h1.elim
  | ok kvs A' =>
    rw [er] at h1
    have l0 : Lx ι1 H1 ⟨ι1.tr, D :: ι1.pv⟩ (upd H1 D (.dK [])) := ⟨(Le.hide hD).trans ⟨List.prefix_refl _, fun p u n e => ⟨n, by
      rw [upd_ne (ne_of_none e hD)]
      exact e⟩⟩, fun p o u e => by
      rw [upd_ne (ne_of_none e hD)]
      exact e⟩
    have L0 : DcS X.K ι1 H1 D ι1.tr (upd H1 D (.dK [])) A1 [] := ⟨Ext.new1 hD, Sim.hide S1 hD, S1.out hD, [], upd_same, .nil⟩
    have ok2 := okJ.lx l0
    have E0 : REnv W0 X.K ⟨ι1.tr, D :: ι1.pv⟩ (upd H1 D (.dK [])) (wipeM ρ (own.map (·.2))) (L2.wipe σ (own.map (·.2))) := (((E.ext e1).le l0.le).w0.wipe _)
    refine ⟨fun i m H2 => ∃ tr2 A2 acc, DcS X.K ι1 H1 D tr2 H2 A2 acc ∧ Lx ⟨ι1.tr, D :: ι1.pv⟩ (upd H1 D (.dK [])) ⟨tr2, D :: ι1.pv⟩ H2 ∧ dRun is g (dElt ft fk fv) (xs.drop i) acc (wipeM ρ (own.map (·.2))) A2 = .ok kvs A' ∧ m = xs.length - i ∧ i ≤ xs.length, ⟨_, ι1.tr, A1, [], L0, Lx.refl _ _, er, rfl, Nat.zero_le _⟩, fun i m H2 ⟨tr2, A2, acc, L2, l2, hq2, em, hl⟩ => ?_⟩
    obtain ⟨k1, k2⟩ := ok2 _ _ _ l2 L2.S i
    by_cases hi : i < xs.length
    · obtain ⟨v, hv⟩ : ∃ v, xs[i]? = some v := ⟨_, List.getElem?_eq_getElem hi⟩
      obtain ⟨go, yl⟩ := k1 v hv
      have ed : xs.drop i = v :: xs.drop (i + 1) := by
        rw [List.drop_eq_getElem_cons hi]
        rw [List.getElem?_eq_getElem hi] at hv
        cases hv
        rfl
      rw [ed] at hq2
      unfold dRun at hq2
      cases eg : g v with
      | none => rw [eg] at hq2; cases hq2
      | some ms =>
        rw [eg] at hq2
        dsimp only at hq2
        cases ef : dElt ft fk fv acc (setAllM (wipeM ρ (own.map (·.2))) is ms) A2 with
        | bad => rw [ef] at hq2; cases hq2
        | err c fs B => rw [ef] at hq2; cases hq2
        | ok acc' A3 =>
          rw [ef] at hq2
          dsimp only at hq2
          refine .inr ⟨go, fun H' => ∃ tr3, DcS X.K ι1 H1 D tr3 H' A3 acc' ∧ Lx ⟨ι1.tr, D :: ι1.pv⟩ (upd H1 D (.dK [])) ⟨tr3, D :: ι1.pv⟩ H', fun H' ⟨tr3, L3, l3⟩ => ⟨xs.length - (i + 1), by omega, tr3, A3, acc', L3, l3, hq2, rfl, hi⟩, fun x H3 y => ?_⟩
          obtain ⟨e3, S3, r3⟩ := yl x H3 y
          obtain ⟨_, L3⟩ := L2.go e3 S3
          refine ⟨_, A2, v, ms, S3, r3, eg, fun zs hr hlz => ⟨wipe_wipe hsub, ?_⟩⟩
          have E3 := (E0.le (l2.trans e3.lx).le).setAll (is := is) hr
          have lx3 := l2.trans e3.lx
          unfold dElt at ef
          refine ⟨_, A2, _, S3, E3, ?_⟩
          cases et : ft (setAllM (wipeM ρ (own.map (·.2))) is ms) A2 with
          | bad => rw [et] at ef; cases ef
          | err c fs B => rw [et] at ef; cases ef
          | ok b B1 =>
            rw [et] at ef
            rintro ι4 H4 u x4 ⟨S4, rfl⟩
            obtain ⟨e4, L4⟩ := L3.go x4 S4
            cases b with
            | false =>
              cases ef
              rw [e4] at x4
              exact ⟨_, L4, lx3.trans x4.lx⟩
            | true =>
              dsimp only at ef
              cases ek : fk (setAllM (wipeM ρ (own.map (·.2))) is ms) B1 with
              | bad => rw [ek] at ef; cases ef
              | err c fs B => rw [ek] at ef; cases ef
              | ok kv B2 =>
                rw [ek] at ef
                dsimp only at ef
                refine ⟨ι4, B1, _, S4, E3.ext x4, ?_⟩
                rw [ek]
                rintro ι5 H5 yk x5 ⟨S5, r5⟩
                cases ev : fv (setAllM (wipeM ρ (own.map (·.2))) is ms) B2 with
                | bad => rw [ev] at ef; cases ef
                | err c fs B => rw [ev] at ef; cases ef
                | ok mv B3 =>
                  rw [ev] at ef
                  dsimp only at ef
                  refine ⟨ι5, B2, _, S5, (E3.ext x4).ext x5, ?_⟩
                  rw [ev]
                  rintro ι6 H6 z x6 ⟨S6, r6⟩
                  rw [e4] at x5
                  obtain ⟨e5, L5⟩ := L4.go x5 S5
                  rw [e5] at x6
                  obtain ⟨e6, L6⟩ := L5.go x6 S6
                  cases eo : keyOf kv with
                  | none => rw [eo] at ef; cases ef
                  | some key =>
                    rw [eo] at ef
                    dsimp only at ef
                    split at ef
                    · rename_i hlen
                      cases ef
                      rw [e6] at r6
                      obtain ⟨qs, h7, hl7, L7, l7⟩ := L6.put hD key r6
                      have := keyOf_rel r5 eo
                      refine ⟨qs, key, this, h7, ?_, _, L7, ?_⟩
                      · rw [hl7]
                        have := sizeLine_eq
                        omega
                      · rw [e4] at x4
                        rw [e5] at x5
                        rw [e6] at x6
                        exact (((lx3.trans x4.lx).trans x5.lx).trans x6.lx).trans l7
                    · cases ef
    · refine .inl ⟨k2 (by omega), ?_⟩
      rw [List.drop_eq_nil_of_le (by omega)] at hq2
      cases hq2
      obtain ⟨ps, h8, r8⟩ := L2.ex
      have hD0 : H D = none := by
        cases q : H D with
        | none => rfl
        | some o =>
          have nD : D ∉ ι.tr := fun z => S1.out hD (e1.pre.subset z)
          rw [e1.keep D o nD q] at hD
          cases hD
      have ex : Ext ι H ⟨tr2, ι.pv⟩ H2 := by
        have := e1.trans L2.e
        rw [e1.pv] at this
        exact this
      have S9 := L2.S.adopt (m := .dct kvs) L2.nt (.dct h8 (r8.le Le.adopt))
      refine h1 ⟨tr2 ++ [D], ι.pv⟩ H2 _ (ex.adopt hD0) ⟨by rw [e1.pv] at S9; exact S9, .ref ?_⟩
      have sl : tr2.length = A'.length := L2.S.len
      show (tr2 ++ [D])[A'.length]? = some D
      rw [← sl, List.getElem?_append_right (Nat.le_refl _), Nat.sub_self]
      rfl
end
/-! ### binding -/
section
variable {K : PySem.W.Frag} {x qual : Str} {params : Arguments} {body : List Stmt} {scope : Scope} {dvs : List V} {kws : List (Str × V)} {f : Addr} {fd : FuncData} {ps : List Str}
/-- all positional -/
theorem kbm_all (B : Binds K fd ps []) : KBM K fd ps ps.length [] (fun ms _ => ms) := ⟨fun us _ => us, fun vs _ => vs, ⟨fun s us ws hk hl _ => by
    have := B s us hk (by rw [List.append_nil]; exact hl)
    rw [List.append_nil] at this
    exact this, fun r _ => r⟩, fun {ι H ms zs vs ws} h1 _ r _ => ⟨r, by rw [← r.length]; exact h1⟩⟩
/-- positional, defaults behind them -/
theorem kbm_dfl {n : Nat} {dms : List MV} {dvs : List V} (hex : ∃ ds, Vals dvs ds ∧ Binds K fd ps ds) (hd : ∀ (ι : Io) (H : Hp), RVs K ι H dms dvs) (hn : n + dms.length = ps.length) : KBM K fd ps n [] (fun ms _ => ms ++ dms) := by
  obtain ⟨ds, rd, B⟩ := hex
  have l1 : dms.length = dvs.length := (hd ⟨[], []⟩ H0).length
  refine ⟨fun us _ => us ++ ds, fun vs _ => vs ++ dvs, ⟨fun s us ws hk hl _ => B s us hk (by rw [List.length_append, hl, ← rd.length, ← l1]; exact hn), fun r _ => r.append rd⟩, fun {ι H ms zs vs ws} h1 _ r _ => ⟨r.append (hd ι H), ?_⟩⟩
  rw [List.length_append, ← r.length, h1, ← l1]
  exact hn
/-- keywords -/
theorem kbm_kw {n : Nat} {ks : List Str} {gm : List MV → List MV → List MV} {gV : List V → List V → List V} (hex : ∃ g, KBn K fd ps n ks g gV) (hd : ∀ {ι : Io} {H : Hp} {ms zs : List MV} {vs ws : List V}, ms.length = n → zs.length = ks.length → RVs K ι H ms vs → RVs K ι H zs ws → RVs K ι H (gm ms zs) (gV vs ws) ∧ (gV vs ws).length = ps.length) : KBM K fd ps n ks gm := by
  obtain ⟨g, B⟩ := hex
  exact ⟨g, gV, B, hd⟩
end
end Mv
/-! MvB: what the printed derivations use -/
namespace Mv
open PySem PySem.Spec PyProof.Rows L2 Fk
/-! ### any walked thing -/
def itV (A : AH) (v : MV) : Option (List MV) := match tupOf v with
  | some xs => some xs
  | none => match v with
    | .lst xs => some xs
    | .str x => some (signs x)
    | v => match lklOf A v with
      | some xs => some xs
      | none => match lkdOf A v with
        | some kvs => some (kvs.map fun p => keyM p.1)
        | none => none
def iAny (f : FE) : FL := fun ρ A => (f ρ A).bind fun v A => match itV A v with
  | some xs => .ok xs A
  | none => .bad
theorem PI.or {X : Cx} {tg e : Expr} {t t' : TI} (h : PI X tg e t) (h' : PI X tg e t') : PI X tg e (fun σ H R => t σ H R ∨ t' σ H R) := ⟨fun pins s σ H R I q => by
  rcases q with q | q
  · exact h.run pins s σ H R I q
  · exact h'.run pins s σ H R I q⟩
theorem Rs.bind_congr {α β : Type} {r : Rs α} {g g' : α → AH → Rs β} (h : ∀ v A, r = .ok v A → g v A = g' v A) : r.bind g = r.bind g' := by
  cases r with
  | ok v A => exact h v A rfl
  | err c fs A => rfl
  | bad => rfl
theorem mi_any {X : Cx} {W : Wi} {tg e : Expr} {f : FE} (he : PE X e (tM X.K W f)) : PI X tg e (tMI X.K W (iAny f)) :=
  (PI.or (mi_tup he) (PI.or (mi_frz he) (PI.or (mi_str he) (PI.or (mi_lkl he) (mi_keys he))))).imp fun σ H R ⟨ι, A, ρ, S, E, h⟩ => by
    have fin : ∀ {g : FL}, iAny f ρ A = g ρ A → tMI X.K W g σ H R := fun q => ⟨ι, A, ρ, S, E, by rw [← q]; exact h⟩
    cases q : f ρ A with
    | bad =>
      unfold iAny at h
      rw [q] at h
      exact h.elim
    | err c fs A' => exact .inl (fin (by unfold iAny iSeq; rw [q]; rfl))
    | ok v A' =>
      unfold iAny at h fin
      rw [q] at h fin
      dsimp only [Rs.bind, itV] at h fin
      cases q1 : tupOf v with
      | some xs => exact .inl (fin (by unfold iSeq; rw [q]; dsimp only [Rs.bind]; rw [q1]))
      | none =>
        rw [q1] at h fin
        dsimp only at h fin
        cases v with
        | lst xs => exact .inr (.inl (fin (by unfold iFrz; rw [q]; rfl)))
        | str x => exact .inr (.inr (.inl (fin (by unfold Mv.iStr; rw [q]; rfl))))
        | ref n =>
          cases q2 : lklOf A' (.ref n) with
          | some xs =>
            refine .inr (.inr (.inr (.inl (fin ?_))))
            unfold iLkl
            rw [q]
            dsimp only [Rs.bind]
            rw [q2]
          | none =>
            cases q3 : lkdOf A' (.ref n) with
            | some kvs =>
              refine .inr (.inr (.inr (.inr (fin ?_))))
              unfold Mv.iKeys
              rw [q]
              dsimp only [Rs.bind]
              rw [q2]
              dsimp only
              rw [q3]
            | none =>
              dsimp only at h
              rw [q2] at h
              dsimp only at h
              rw [q3] at h
              exact h.elim
        | tup xs => cases q1
        | ptp xs => cases q1
        | _ => exact h.elim
/-! ### a lock, where one is wanted -/
def sLk (fd : FE) (s : FS) : FS := fun ρ A => match fd ρ A with
  | .ok (.ref n) B => sLock (fun _ _ => .ok (.ref n) B) s ρ A
  | .ok _ _ => s ρ A
  | _ => .bad
def aLk {α : Type} (fd : FE) (s : ME → AH → Rs α) : ME → AH → Rs α := fun ρ A => match fd ρ A with
  | .ok (.ref n) B => aLock (fun _ _ => .ok (.ref n) B) s ρ A
  | .ok _ _ => s ρ A
  | _ => .bad
section
variable {X : Cx} {W : Wi} {e : Expr} {fd f : FE} {g : FL}
theorem ms_lk {st : Stmt} {fd : FE} {f : FS} (tk : Takes X W.w) (h : ∀ W' : Wi, Takes X W'.w → PS X st (tMS X.K W' f)) : PS X st (tMS X.K W (sLk fd f)) := by
  refine ⟨fun pins s σ H D I ⟨ι, A, ρ, S, E, hw⟩ => ?_⟩
  unfold sLk at hw
  split at hw
  · exact (ms_lock (fd := fun _ _ => .ok (.ref _) _) tk h).run pins s σ H D I ⟨ι, A, ρ, S, E, hw⟩
  · exact (h W tk).run pins s σ H D I ⟨ι, A, ρ, S, E, hw⟩
  · exact hw.elim
theorem m_lk (h : PE X e (tM X.K W f)) : PE X e (tM X.K W (aLk fd f)) := by
  refine ⟨fun pins s σ H D I ⟨ι, A, ρ, S, E, hw⟩ => ?_⟩
  unfold aLk at hw
  split at hw
  · exact (m_lock (fd := fun _ _ => .ok (.ref _) _) h).run pins s σ H D I ⟨ι, A, ρ, S, E, hw⟩
  · exact h.run pins s σ H D I ⟨ι, A, ρ, S, E, hw⟩
  · exact hw.elim
theorem ml_lk (h : PE X e (tML X.K W g)) : PE X e (tML X.K W (aLk fd g)) := by
  refine ⟨fun pins s σ H D I ⟨ι, A, ρ, S, E, hw⟩ => ?_⟩
  unfold aLk at hw
  split at hw
  · exact (ml_lock (fd := fun _ _ => .ok (.ref _) _) h).run pins s σ H D I ⟨ι, A, ρ, S, E, hw⟩
  · exact h.run pins s σ H D I ⟨ι, A, ρ, S, E, hw⟩
  · exact hw.elim
end
/-! ### all changing lists locked (for a loop within a comprehension) -/
def aLocks {α : Type} : List Nat → (ME → AH → Rs α) → ME → AH → Rs α
  | [], g => g
  | n :: ns, g => aLock (fun _ A => .ok (.ref n) A) (aLocks ns g)
def lstIx (A : AH) : List Nat := (List.range A.length).filter fun n => match A[n]? with
  | some (.lst _) => true
  | _ => false
def aLkD {α : Type} (g : ME → AH → Rs α) : ME → AH → Rs α := fun ρ A => aLocks (lstIx A) g ρ A
theorem ml_locks {X : Cx} {W : Wi} {e : Expr} {g : FL} (h : PE X e (tML X.K W g)) : ∀ ns, PE X e (tML X.K W (aLocks ns g))
  | [] => h
  | n :: ns => ml_lock (ml_locks h ns)
theorem ml_lkd {X : Cx} {W : Wi} {e : Expr} {g : FL} (h : PE X e (tML X.K W g)) : PE X e (tML X.K W (aLkD g)) :=
  ⟨fun pins s σ H D I ⟨ι, A, ρ, S, E, hw⟩ => (ml_locks h (lstIx A)).run pins s σ H D I ⟨ι, A, ρ, S, E, hw⟩⟩
/-! ### a, b = x, y -/
def sPar (i j : Nat) (g : FL) : FS := fun ρ A => (g ρ A).fs ρ fun vs A => match vs with
  | [v, w] => .nx ((ρ.set i (some v)).set j (some w)) A
  | _ => .bad
theorem ms_par {X : Cx} {W : Wi} {i j : Nat} {x y : Str} {a b : Expr} {g : FL} {px py pt : Pos} {kt k2 : Nat} {pt2 pos : Pos} (hc : X.calm = true) (hN : X.N.Nodup) (ha : PA X [a, b] (tMA X.K W g)) (hi : X.N[i]? = some x := by rfl) (hj : X.N[j]? = some y := by rfl) (hij : i ≠ j := by decide)
    (hx : X.env.scope.names.lookup x = some .local := by rfl) (hy : X.env.scope.names.lookup y = some .local := by rfl) (hw : swappedStores [.Tuple [.Name x px, .Name y py] kt pt] (.Tuple [a, b] k2 pt2) X.env = pure (some [x, y]) := by rfl)
    (hs : swapsWithSole [.Tuple [.Name x px, .Name y py] kt pt] (.Tuple [a, b] k2 pt2) pos.line X.env = pure false := by rfl) : PS X (.Assign [.Tuple [.Name x px, .Name y py] kt pt] (.Tuple [a, b] k2 pt2) pos) (tMS X.K W (sPar i j g)) :=
  (ps_par hc hN hi hj hij hx hy ha hw hs).imp fun D σ H ⟨ι, A, ρ, S, E, h⟩ => RPS_bind S E h fun ι1 A1 vs us H1 e1 ⟨S1, r1⟩ h1 => by
    split at h1
    · cases r1 with
      | cons q qs => cases qs with
        | cons q2 qs2 =>
          cases qs2
          exact ⟨_, _, rfl, h1 ι1 H1 _ (Ext.refl _ _) S1 (((E.ext e1).set i q).set j q2)⟩
    · exact h1.elim
/-! ### defs by their places -/
structure OkM (P : Program) (w : World) (K : PySem.W.Frag) (mg : Str → Option Value) (base : Heap) (k : Nat) (d : He.DefD) (ps : List Str) (F : FF) : Prop where
  ex : ∃ fd, FnOk P w K mg base (L2.CX P w) k (He.fAd K d.at_) fd ps (spM K ps.length F) ∧ FunD K d.name d.qual d.params d.body d.scope (d.dvs K) (d.kws K) (He.fAd K d.at_) fd
section
variable {P : Program} {w : World} {K : PySem.W.Frag} {mg : Str → Option Value} {base : Heap} {d : He.DefD}
theorem ok_M {N ps : List Str} {k : Nat} {fb : FS} (hF : ∃ fd, FunD K d.name d.qual d.params d.body d.scope (d.dvs K) (d.kws K) (He.fAd K d.at_) fd) (S : FnScope N ps d.scope)
    (hbody : ∀ (cdv : Value) (A : Around) (outer : List Env) (s : Shared) (H : Hp) (E : XK), Room k (A.deeper (envOfC d.qual d.scope s.heap.objs.size (He.fAd K d.at_) cdv)) →
      Takes (cxOf (L2.CX P w) P w K mg base N d.qual d.scope (He.fAd K d.at_) cdv A outer s H E) (Wi.of fun c x _ H => E c x H).w →
      PassesOwn (model P w) (cxOf (L2.CX P w) P w K mg base N d.qual d.scope (He.fAd K d.at_) cdv A outer s H E).A (cxOf (L2.CX P w) P w K mg base N d.qual d.scope (He.fAd K d.at_) cdv A outer s H E).env (cxOf (L2.CX P w) P w K mg base N d.qual d.scope (He.fAd K d.at_) cdv A outer s H E).xe →
      PSs (cxOf (L2.CX P w) P w K mg base N d.qual d.scope (He.fAd K d.at_) cdv A outer s H E) d.body (tMS K (Wi.of fun c x _ H => E c x H) fb)) : OkM P w K mg base (k + 1) d ps (defM N.length fb) := by
  obtain ⟨fd, F⟩ := hF
  refine ⟨fd, F.ok S (fun vs H Q E h => h.1) fun cdv A outer s H vs Q E hr hsp => ?_, F⟩
  obtain ⟨hl, ι, A', ms, Sm, r, h⟩ := hsp
  refine ⟨_, hbody cdv A outer s H E hr (takes_of rfl rfl rfl rfl) (passes_of rfl), ι, A', _, Sm, r.st0 N, ?_⟩
  unfold defM at h
  cases e : fb (ms.map some ++ List.replicate (N.length - ms.length) none) A' with
  | nx ρ B => rw [e] at h; exact fun ι' H' σ' x s _ => h ι' H' .non x ⟨s, .non⟩
  | rt v B => rw [e] at h; exact fun ι' H' u x s q => h ι' H' u x ⟨s, q⟩
  | err c fs ρ B => rw [e] at h; exact fun ι' H' σ' d x s _ q => h ι' H' d x s q
  | bk ρ B => rw [e] at h; exact h.elim
  | ct ρ B => rw [e] at h; exact h.elim
  | bad => rw [e] at h; exact h.elim
end
/-- how a call binds, told of the def -/
def KB (K : PySem.W.Frag) (d : He.DefD) (ps : List Str) (n : Nat) (ks : List Str) (gm : List MV → List MV → List MV) : Prop := ∀ fd, FunD K d.name d.qual d.params d.body d.scope (d.dvs K) (d.kws K) (He.fAd K d.at_) fd → KBM K fd ps n ks gm
section
variable {X : Cx} {W : Wi} {k n : Nat} {d : He.DefD} {ps ks : List Str} {gm : List MV → List MV → List MV} {F : FF} {fa : FP} {x C m : Str} {p pos apos : Pos} {es : List Expr} {kws : List Keyword} {o : Expr} {fo : FE}
theorem c_call (O : OkM X.prog X.w X.K X.mg X.base k d ps F) (B : KB X.K d ps n ks gm) (hr : Room k X.A) (hm : X.mg x = some (.ref (He.ga X.K x))) (tk : Takes X W.w) (ha : AM X W pos es kws ks fa) (hd : d.at_ = (x, none) := by rfl) (hg : Gl X x := by rfl) (hdb : (x == ("__debug__" : Str)) = false := by decide) :
    PE X (.Call (.Name x p) es kws pos) (tM X.K W (eCall n ks.length gm F fa)) := by
  obtain ⟨fd, G, FD⟩ := O.ex
  have e : He.fAd X.K d.at_ = He.ga X.K x := by rw [hd]; rfl
  exact m_call G hr (by rw [e]; exact hm) FD.kp (B fd FD) tk ha hg hdb
theorem c_meth {pl : Sem Bool} (O : OkM X.prog X.w X.K X.mg X.base k d ps F) (B : KB X.K d ps n ks gm) (hr : Room k X.A) (c : Cls X.K (He.ga X.K C)) (hm : Meth X.K (He.ga X.K C) m (He.ma X.K (He.ga X.K C) m)) (tk : Takes X W.w) (he : PE X o (tM X.K W fo)) (ha : AM X W pos es kws ks fa) (hd : d.at_ = (C, some m) := by rfl)
    (ht : eval (.Call (.Attribute o m apos) es kws pos) X.env = (do
      let ov ← eval o X.env
      standAt apos.atName
      let (f, first) ← holding [ov] (getMethod ov m pl)
      callWith pos f first (backTo pos (starEach es X.env)) (backToKw pos (keywordEach kws X.env))) := by rfl) :
    PE X (.Call (.Attribute o m apos) es kws pos) (tM X.K W (eMeth C m n ks.length gm F fo fa)) := by
  obtain ⟨fd, G, FD⟩ := O.ex
  have e : He.fAd X.K d.at_ = He.ma X.K (He.ga X.K C) m := by rw [hd]; rfl
  exact m_meth he c (by rw [e]; exact hm) G hr (B fd FD) tk ha ht
theorem c_make (O : OkM X.prog X.w X.K X.mg X.base k d ps F) (B : KB X.K d ps (n + 1) ks gm) (hr : Room (k + 1) X.A) (M : Mk X.K (He.ga X.K C) (He.ma X.K (He.ga X.K C) "__init__")) (hm : X.mg C = some (.ref (He.ga X.K C))) (tk : Takes X W.w) (ha : AM X W pos es kws ks fa) (hd : d.at_ = (C, some ("__init__" : Str)) := by rfl) (hg : Gl X C := by rfl) (hdb : (C == ("__debug__" : Str)) = false := by decide) :
    PE X (.Call (.Name C p) es kws pos) (tM X.K W (eMake C n ks.length gm F fa)) := by
  obtain ⟨fd, G, FD⟩ := O.ex
  have e : He.fAd X.K d.at_ = He.ma X.K (He.ga X.K C) "__init__" := by rw [hd]; rfl
  exact m_make (by rw [e]; exact M) G hr hm (B fd FD) tk ha hg hdb
end
/-! ### facts of built-in types' names -/
theorem bt_str : bootBuiltins "str" = some (.type "str") := by decide +kernel
theorem bt_int : bootBuiltins "int" = some (.type "int") := by decide +kernel
theorem bt_bool : bootBuiltins "bool" = some (.type "bool") := by decide +kernel
theorem bt_tuple : bootBuiltins "tuple" = some (.type "tuple") := by decide +kernel
theorem bt_list : bootBuiltins "list" = some (.type "list") := by decide +kernel
theorem bt_dict : bootBuiltins "dict" = some (.type "dict") := by decide +kernel
theorem bt_bytes : bootBuiltins "bytes" = some (.type "bytes") := by decide +kernel
theorem fnIn_of {K : PySem.W.Frag} {d : He.DefD} {fd : FuncData} (F : FunD K d.name d.qual d.params d.body d.scope (d.dvs K) (d.kws K) (He.fAd K d.at_) fd) : PySem.W.fnIn K (He.fAd K d.at_) = true := by
  obtain ⟨oc, od, dV, kV, doc, pm, an, cdv, ct, osl, rfl, lk, _⟩ := F.ex
  unfold PySem.W.fnIn
  rw [lk]
section
variable {X : Cx} {W : Wi} {k : Nat} {d : He.DefD} {ps : List Str} {F : FF} {C : Str} {p pos : Pos} {o i e : Expr} {fo fi : FE} {g : FL}
/-- positional calls without defaults -/
def BN (K : PySem.W.Frag) (d : He.DefD) (ps : List Str) : Prop := ∀ fd, FunD K d.name d.qual d.params d.body d.scope (d.dvs K) (d.kws K) (He.fAd K d.at_) fd → Binds K fd ps []
theorem BN.kb {K : PySem.W.Frag} (B : BN K d ps) : KB K d ps ps.length [] (fun ms _ => ms) := fun fd F => kbm_all (B fd F)
theorem c_getitem (O : OkM X.prog X.w X.K X.mg X.base k d ps F) (B : BN X.K d ps) (hp : ps.length = 2) (hr : Room (k + 1) X.A) (hm : Meth X.K (He.ga X.K C) "__getitem__" (He.ma X.K (He.ga X.K C) "__getitem__")) (tk : Takes X W.w) (ho : PE X o (tM X.K W fo)) (hi : PE X i (tM X.K W fi)) (hd : d.at_ = (C, some ("__getitem__" : Str)) := by rfl)
    (hsl : ∀ x j, subscripted i true x j = runValue (.builtin "lifetime.subscript" ⟨[x, j], []⟩) := by intro _ _; rfl) : PE X (.Subscript o i pos) (tM X.K W (eGetI C F fo fi)) := by
  obtain ⟨fd, G, FD⟩ := O.ex
  have e : He.fAd X.K d.at_ = He.ma X.K (He.ga X.K C) "__getitem__" := by rw [hd]; rfl
  exact m_getitem (by rw [e]; exact hm) G (fnIn_of FD) (B fd FD) hp hr tk ho hi hsl
theorem c_inO (O : OkM X.prog X.w X.K X.mg X.base k d ps F) (B : BN X.K d ps) (hp : ps.length = 2) (hr : Room k X.A) (hm : Meth X.K (He.ga X.K C) "__contains__" (He.ma X.K (He.ga X.K C) "__contains__")) (tk : Takes X W.w) (he : PE X e (tM X.K W fi)) (ho : PE X o (tM X.K W fo)) (hd : d.at_ = (C, some ("__contains__" : Str)) := by rfl) : PC X .In e o (tM X.K W (inO C F false fi fo)) := by
  obtain ⟨fd, G, FD⟩ := O.ex
  have e' : He.fAd X.K d.at_ = He.ma X.K (He.ga X.K C) "__contains__" := by rw [hd]; rfl
  exact m_inO (by rw [e']; exact hm) G (B fd FD) hp hr tk he ho
theorem c_notInO (O : OkM X.prog X.w X.K X.mg X.base k d ps F) (B : BN X.K d ps) (hp : ps.length = 2) (hr : Room k X.A) (hm : Meth X.K (He.ga X.K C) "__contains__" (He.ma X.K (He.ga X.K C) "__contains__")) (tk : Takes X W.w) (he : PE X e (tM X.K W fi)) (ho : PE X o (tM X.K W fo)) (hd : d.at_ = (C, some ("__contains__" : Str)) := by rfl) : PC X .NotIn e o (tM X.K W (inO C F true fi fo)) := by
  obtain ⟨fd, G, FD⟩ := O.ex
  have e' : He.fAd X.K d.at_ = He.ma X.K (He.ga X.K C) "__contains__" := by rw [hd]; rfl
  exact m_notInO (by rw [e']; exact hm) G (B fd FD) hp hr tk he ho
theorem c_lenO (O : OkM X.prog X.w X.K X.mg X.base k d ps F) (B : BN X.K d ps) (hp : ps.length = 1) (hr : Room (k + 1) X.A) (hm : Meth X.K (He.ga X.K C) "__len__" (He.ma X.K (He.ga X.K C) "__len__")) (tk : Takes X W.w) (hl : X.mg "len" = none) (ha : PA X [e] (tMA X.K W g)) (hd : d.at_ = (C, some ("__len__" : Str)) := by rfl) (hg : Gl X "len" := by rfl) (he : starEach [e] X.env = (false, eval e X.env) :: starEach [] X.env := by rfl) : PE X (.Call (.Name "len" p) [e] [] pos) (tM X.K W fun ρ A => (g ρ A).bind (lenO C F)) := by
  obtain ⟨fd, G, FD⟩ := O.ex
  have e' : He.fAd X.K d.at_ = He.ma X.K (He.ga X.K C) "__len__" := by rw [hd]; rfl
  exact m_lenO (by rw [e']; exact hm) G (B fd FD) hp hr tk hl ha hg he
end
/-- a comparison by an own method, as a value, as a test -/
theorem m_pc {X : Cx} {W : Wi} {op : CmpOp} {a b : Expr} {f : FE} {pos : Pos} (h : PC X op a b (tM X.K W f)) (h1 : behindInMarks op b = false := by rfl) : PE X (.Compare a [op] [b] pos) (tM X.K W f) := pe_cmp h h1
theorem mt_pc {X : Cx} {W : Wi} {op : CmpOp} {a b : Expr} {f : FE} {pos : Pos} (h : PC X op a b (tM X.K W f)) (h1 : behindInMarks op b = false := by rfl) : PT X (.Compare a [op] [b] pos) (tMB X.K W (tB' f)) := (pt_cmp h h1).imp fun σ H Q q => tB_of q
/-- a test: a if c else b -/
def bIf (c a b : FB) : FB := fun ρ A => (c ρ A).bind fun x A => match x with
  | true => a ρ A
  | false => b ρ A
theorem mt_if {X : Cx} {W : Wi} {c a b : Expr} {gc ga gb : FB} {pos : Pos} (hc : PT X c (tMB X.K W gc)) (ha : PT X a (tMB X.K W ga)) (hb : PT X b (tMB X.K W gb)) : PT X (.IfExp c a b pos) (tMB X.K W (bIf gc ga gb)) := by
  refine ⟨fun pins s σ H Q I ⟨ι, A, ρ, S, E, h⟩ => ?_⟩
  refine isTrue_IfExp (thn (hc.run pins s σ H (fun d H1 => if d = true then tMB X.K W ga σ H1 Q else tMB X.K W gb σ H1 Q) I ?_) fun d s1 ⟨H1, I1, q1⟩ => ?_)
  · exact RP_bind S E h fun ι1 A1 x u H1 e1 ⟨S1, r1⟩ h1 => by
      cases r1
      cases x with
      | true => exact ⟨ι1, A1, ρ, S1, E.ext e1, h1⟩
      | false => exact ⟨ι1, A1, ρ, S1, E.ext e1, h1⟩
  · cases d with
    | true => exact ha.run pins s1 σ H1 Q I1 q1
    | false => exact hb.run pins s1 σ H1 Q I1 q1
/-- keywords to their parameters -/
def gkw (dfl : List (Option MV)) (ix : List Nat) : List MV → List MV → List MV := fun ms zs => ms ++ (dfl.zip ix).map fun p => match p.1 with
  | some m => m
  | none => zs.getD p.2 .non
/-- an own class's instance and its parts in a comprehension's block: nothing is raised -/
theorem tk0 {X : Cx} : Takes X W0.w := takes0
end Mv
namespace Rf
open PySem
def errNames : List Str := ["ForkError", "BadName", "BadRef", "BadCommand", "Locked", "Stale", "NoRef"]
def subT : List (Str × List Str) := [("ForkError", ["ForkError", "BadName", "BadRef", "BadCommand", "Locked", "Stale"]), ("BadName", ["BadName"]), ("BadRef", ["BadRef"]), ("BadCommand", ["BadCommand"]), ("Locked", ["Locked"]), ("Stale", ["Stale"]), ("NoRef", ["NoRef"])]
def subE (x c : Str) : Bool := ((subT.lookup x).getD []).contains c
end Rf
namespace K31
open PySem PySem.Spec PyProof.Rows L2
-- row forkhaul_k31_whole_edits_one_by_one law at 61
def top (i : Nat) : Stmt := PySem.Challenge.pw_forkhaul_k31_whole_edits_one_by_one.main.body.getD i (.Pass ⟨0, 0, 0, 0⟩)
abbrev s__wall : Stmt := top 0
abbrev s_ForkError___init__ : Stmt := inClass (top 2) 0
abbrev s_Locked___init__ : Stmt := inClass (top 6) 0
abbrev s_Stale___init__ : Stmt := inClass (top 7) 0
abbrev s_NoRef___init__ : Stmt := inClass (top 8) 0
abbrev s_is_whole : Stmt := top 21
abbrev s_is_count : Stmt := top 22
abbrev s_is_time : Stmt := top 23
abbrev s_has_only : Stmt := top 24
abbrev s_is_id : Stmt := top 25
abbrev s_is_ref_segment : Stmt := top 26
abbrev s_is_ref : Stmt := top 27
abbrev s_is_text : Stmt := top 28
abbrev s_above : Stmt := top 29
abbrev s_are_near : Stmt := top 32
abbrev s_Edit___init__ : Stmt := inClass (top 33) 0
abbrev s_Edit___enter__ : Stmt := inClass (top 33) 1
abbrev s_Edit___exit__ : Stmt := inClass (top 33) 2
abbrev s_Edit_drop : Stmt := inClass (top 33) 3
abbrev s_Edit_check_open : Stmt := inClass (top 33) 4
abbrev s_Edit_lock : Stmt := inClass (top 33) 5
abbrev s_Edit_call : Stmt := inClass (top 33) 6
abbrev s_Edit_point : Stmt := inClass (top 33) 7
abbrev s_Edit_delete : Stmt := inClass (top 33) 8
abbrev s_Edit_stand : Stmt := inClass (top 33) 9
abbrev s_Edit_check : Stmt := inClass (top 33) 10
abbrev s_Edit_moves : Stmt := inClass (top 33) 11
abbrev s_Edit_behind : Stmt := inClass (top 33) 12
abbrev s_Edit_finish : Stmt := inClass (top 33) 13
abbrev s_is_place : Stmt := top 36
abbrev s_is_named : Stmt := top 37
abbrev s_is_value : Stmt := top 38
abbrev s_is_entry : Stmt := top 39
abbrev s_is_who : Stmt := top 40
abbrev s_are_pairs : Stmt := top 41
abbrev s_are_apart : Stmt := top 42
abbrev s_is_past : Stmt := top 43
abbrev s_is_state : Stmt := top 44
abbrev s_Refs___init__ : Stmt := inClass (top 45) 0
abbrev s_Refs_take : Stmt := inClass (top 45) 1
abbrev s_Refs___getitem__ : Stmt := inClass (top 45) 2
abbrev s_Refs___contains__ : Stmt := inClass (top 45) 3
abbrev s_Refs___len__ : Stmt := inClass (top 45) 4
abbrev s_Refs___iter__ : Stmt := inClass (top 45) 5
abbrev s_Refs_names : Stmt := inClass (top 45) 6
abbrev s_Refs_head : Stmt := inClass (top 45) 7
abbrev s_Refs_at_head : Stmt := inClass (top 45) 8
abbrev s_Refs_state : Stmt := inClass (top 45) 9
abbrev s_Refs_log : Stmt := inClass (top 45) 10
abbrev s_Refs_copied : Stmt := inClass (top 45) 14
abbrev s_Refs_note : Stmt := inClass (top 45) 15
abbrev s_Refs_opened : Stmt := inClass (top 45) 16
abbrev s_Refs_locked_by_others : Stmt := inClass (top 45) 17
abbrev s_Refs_edit : Stmt := inClass (top 45) 18
abbrev s__law_cell_at : Stmt := top 47
abbrev s__law_source : Stmt := top 48
abbrev s__law_draw : Stmt := top 49
abbrev s__law_pick : Stmt := top 50
abbrev s__law_ref : Stmt := top 51
abbrev s__law_id : Stmt := top 52
abbrev s__law_new : Stmt := top 53
abbrev s__law_at_head : Stmt := top 54
abbrev s__law_above : Stmt := top 55
abbrev s__law_behind : Stmt := top 56
abbrev s__law_stands : Stmt := top 57
abbrev s__law_noted : Stmt := top 58
abbrev s__law_finished : Stmt := top 59
abbrev s__law_edited : Stmt := top 60
abbrev s_law : Stmt := top 61
def d__wall : He.DefD := ⟨("_wall", none), "_wall", "_wall", defArgs s__wall, defBody s__wall, defScope s__wall, [], []⟩
def d_is_whole : He.DefD := ⟨("is_whole", none), "is_whole", "is_whole", defArgs s_is_whole, defBody s_is_whole, defScope s_is_whole, [], []⟩
def d_is_count : He.DefD := ⟨("is_count", none), "is_count", "is_count", defArgs s_is_count, defBody s_is_count, defScope s_is_count, [.int 0], []⟩
def d_is_time : He.DefD := ⟨("is_time", none), "is_time", "is_time", defArgs s_is_time, defBody s_is_time, defScope s_is_time, [], []⟩
def d_has_only : He.DefD := ⟨("has_only", none), "has_only", "has_only", defArgs s_has_only, defBody s_has_only, defScope s_has_only, [], []⟩
def d_is_id : He.DefD := ⟨("is_id", none), "is_id", "is_id", defArgs s_is_id, defBody s_is_id, defScope s_is_id, [], []⟩
def d_is_ref_segment : He.DefD := ⟨("is_ref_segment", none), "is_ref_segment", "is_ref_segment", defArgs s_is_ref_segment, defBody s_is_ref_segment, defScope s_is_ref_segment, [], []⟩
def d_is_ref : He.DefD := ⟨("is_ref", none), "is_ref", "is_ref", defArgs s_is_ref, defBody s_is_ref, defScope s_is_ref, [], []⟩
def d_is_text : He.DefD := ⟨("is_text", none), "is_text", "is_text", defArgs s_is_text, defBody s_is_text, defScope s_is_text, [.int 2000], []⟩
def d_above : He.DefD := ⟨("above", none), "above", "above", defArgs s_above, defBody s_above, defScope s_above, [], []⟩
def d_are_near : He.DefD := ⟨("are_near", none), "are_near", "are_near", defArgs s_are_near, defBody s_are_near, defScope s_are_near, [], []⟩
def d_Edit___init__ : He.DefD := ⟨("Edit", some "__init__"), "__init__", "Edit.__init__", defArgs s_Edit___init__, defBody s_Edit___init__, defScope s_Edit___init__, [], []⟩
def d_Edit___enter__ : He.DefD := ⟨("Edit", some "__enter__"), "__enter__", "Edit.__enter__", defArgs s_Edit___enter__, defBody s_Edit___enter__, defScope s_Edit___enter__, [], []⟩
def d_Edit___exit__ : He.DefD := ⟨("Edit", some "__exit__"), "__exit__", "Edit.__exit__", defArgs s_Edit___exit__, defBody s_Edit___exit__, defScope s_Edit___exit__, [], []⟩
def d_Edit_drop : He.DefD := ⟨("Edit", some "drop"), "drop", "Edit.drop", defArgs s_Edit_drop, defBody s_Edit_drop, defScope s_Edit_drop, [], []⟩
def d_Edit_check_open : He.DefD := ⟨("Edit", some "check_open"), "check_open", "Edit.check_open", defArgs s_Edit_check_open, defBody s_Edit_check_open, defScope s_Edit_check_open, [], []⟩
def d_Edit_lock : He.DefD := ⟨("Edit", some "lock"), "lock", "Edit.lock", defArgs s_Edit_lock, defBody s_Edit_lock, defScope s_Edit_lock, [], []⟩
def d_Edit_call : He.DefD := ⟨("Edit", some "call"), "call", "Edit.call", defArgs s_Edit_call, defBody s_Edit_call, defScope s_Edit_call, [], []⟩
def d_Edit_point : He.DefD := ⟨("Edit", some "point"), "point", "Edit.point", defArgs s_Edit_point, defBody s_Edit_point, defScope s_Edit_point, [], [("old", .str "")]⟩
def d_Edit_delete : He.DefD := ⟨("Edit", some "delete"), "delete", "Edit.delete", defArgs s_Edit_delete, defBody s_Edit_delete, defScope s_Edit_delete, [], [("old", .str "")]⟩
def d_Edit_stand : He.DefD := ⟨("Edit", some "stand"), "stand", "Edit.stand", defArgs s_Edit_stand, defBody s_Edit_stand, defScope s_Edit_stand, [], []⟩
def d_Edit_check : He.DefD := ⟨("Edit", some "check"), "check", "Edit.check", defArgs s_Edit_check, defBody s_Edit_check, defScope s_Edit_check, [], []⟩
def d_Edit_moves : He.DefD := ⟨("Edit", some "moves"), "moves", "Edit.moves", defArgs s_Edit_moves, defBody s_Edit_moves, defScope s_Edit_moves, [], []⟩
def d_Edit_behind : He.DefD := ⟨("Edit", some "behind"), "behind", "Edit.behind", defArgs s_Edit_behind, defBody s_Edit_behind, defScope s_Edit_behind, [], []⟩
def d_Edit_finish : He.DefD := ⟨("Edit", some "finish"), "finish", "Edit.finish", defArgs s_Edit_finish, defBody s_Edit_finish, defScope s_Edit_finish, [], []⟩
def d_is_place : He.DefD := ⟨("is_place", none), "is_place", "is_place", defArgs s_is_place, defBody s_is_place, defScope s_is_place, [], []⟩
def d_is_named : He.DefD := ⟨("is_named", none), "is_named", "is_named", defArgs s_is_named, defBody s_is_named, defScope s_is_named, [], []⟩
def d_is_value : He.DefD := ⟨("is_value", none), "is_value", "is_value", defArgs s_is_value, defBody s_is_value, defScope s_is_value, [], []⟩
def d_is_entry : He.DefD := ⟨("is_entry", none), "is_entry", "is_entry", defArgs s_is_entry, defBody s_is_entry, defScope s_is_entry, [], []⟩
def d_is_who : He.DefD := ⟨("is_who", none), "is_who", "is_who", defArgs s_is_who, defBody s_is_who, defScope s_is_who, [], []⟩
def d_are_pairs : He.DefD := ⟨("are_pairs", none), "are_pairs", "are_pairs", defArgs s_are_pairs, defBody s_are_pairs, defScope s_are_pairs, [], []⟩
def d_are_apart : He.DefD := ⟨("are_apart", none), "are_apart", "are_apart", defArgs s_are_apart, defBody s_are_apart, defScope s_are_apart, [], []⟩
def d_is_past : He.DefD := ⟨("is_past", none), "is_past", "is_past", defArgs s_is_past, defBody s_is_past, defScope s_is_past, [], []⟩
def d_is_state : He.DefD := ⟨("is_state", none), "is_state", "is_state", defArgs s_is_state, defBody s_is_state, defScope s_is_state, [], []⟩
def d_Refs___init__ : He.DefD := ⟨("Refs", some "__init__"), "__init__", "Refs.__init__", defArgs s_Refs___init__, defBody s_Refs___init__, defScope s_Refs___init__, [.non], []⟩
def d_Refs_take : He.DefD := ⟨("Refs", some "take"), "take", "Refs.take", defArgs s_Refs_take, defBody s_Refs_take, defScope s_Refs_take, [], []⟩
def d_Refs___getitem__ : He.DefD := ⟨("Refs", some "__getitem__"), "__getitem__", "Refs.__getitem__", defArgs s_Refs___getitem__, defBody s_Refs___getitem__, defScope s_Refs___getitem__, [], []⟩
def d_Refs___contains__ : He.DefD := ⟨("Refs", some "__contains__"), "__contains__", "Refs.__contains__", defArgs s_Refs___contains__, defBody s_Refs___contains__, defScope s_Refs___contains__, [], []⟩
def d_Refs___len__ : He.DefD := ⟨("Refs", some "__len__"), "__len__", "Refs.__len__", defArgs s_Refs___len__, defBody s_Refs___len__, defScope s_Refs___len__, [], []⟩
def d_Refs___iter__ : He.DefD := ⟨("Refs", some "__iter__"), "__iter__", "Refs.__iter__", defArgs s_Refs___iter__, defBody s_Refs___iter__, defScope s_Refs___iter__, [], []⟩
def d_Refs_names : He.DefD := ⟨("Refs", some "names"), "names", "Refs.names", defArgs s_Refs_names, defBody s_Refs_names, defScope s_Refs_names, [], []⟩
def d_Refs_head : He.DefD := ⟨("Refs", some "head"), "head", "Refs.head", defArgs s_Refs_head, defBody s_Refs_head, defScope s_Refs_head, [], []⟩
def d_Refs_at_head : He.DefD := ⟨("Refs", some "at_head"), "at_head", "Refs.at_head", defArgs s_Refs_at_head, defBody s_Refs_at_head, defScope s_Refs_at_head, [], []⟩
def d_Refs_state : He.DefD := ⟨("Refs", some "state"), "state", "Refs.state", defArgs s_Refs_state, defBody s_Refs_state, defScope s_Refs_state, [], []⟩
def d_Refs_log : He.DefD := ⟨("Refs", some "log"), "log", "Refs.log", defArgs s_Refs_log, defBody s_Refs_log, defScope s_Refs_log, [], []⟩
def d_Refs_copied : He.DefD := ⟨("Refs", some "copied"), "copied", "Refs.copied", defArgs s_Refs_copied, defBody s_Refs_copied, defScope s_Refs_copied, [], []⟩
def d_Refs_note : He.DefD := ⟨("Refs", some "note"), "note", "Refs.note", defArgs s_Refs_note, defBody s_Refs_note, defScope s_Refs_note, [], []⟩
def d_Refs_opened : He.DefD := ⟨("Refs", some "opened"), "opened", "Refs.opened", defArgs s_Refs_opened, defBody s_Refs_opened, defScope s_Refs_opened, [], []⟩
def d_Refs_locked_by_others : He.DefD := ⟨("Refs", some "locked_by_others"), "locked_by_others", "Refs.locked_by_others", defArgs s_Refs_locked_by_others, defBody s_Refs_locked_by_others, defScope s_Refs_locked_by_others, [], []⟩
def d_Refs_edit : He.DefD := ⟨("Refs", some "edit"), "edit", "Refs.edit", defArgs s_Refs_edit, defBody s_Refs_edit, defScope s_Refs_edit, [], []⟩
def d__law_cell_at : He.DefD := ⟨("_law_cell_at", none), "_law_cell_at", "_law_cell_at", defArgs s__law_cell_at, defBody s__law_cell_at, defScope s__law_cell_at, [], []⟩
def d__law_source : He.DefD := ⟨("_law_source", none), "_law_source", "_law_source", defArgs s__law_source, defBody s__law_source, defScope s__law_source, [], []⟩
def d__law_draw : He.DefD := ⟨("_law_draw", none), "_law_draw", "_law_draw", defArgs s__law_draw, defBody s__law_draw, defScope s__law_draw, [], []⟩
def d__law_pick : He.DefD := ⟨("_law_pick", none), "_law_pick", "_law_pick", defArgs s__law_pick, defBody s__law_pick, defScope s__law_pick, [], []⟩
def d__law_ref : He.DefD := ⟨("_law_ref", none), "_law_ref", "_law_ref", defArgs s__law_ref, defBody s__law_ref, defScope s__law_ref, [], []⟩
def d__law_id : He.DefD := ⟨("_law_id", none), "_law_id", "_law_id", defArgs s__law_id, defBody s__law_id, defScope s__law_id, [], []⟩
def d__law_new : He.DefD := ⟨("_law_new", none), "_law_new", "_law_new", defArgs s__law_new, defBody s__law_new, defScope s__law_new, [], []⟩
def d__law_at_head : He.DefD := ⟨("_law_at_head", none), "_law_at_head", "_law_at_head", defArgs s__law_at_head, defBody s__law_at_head, defScope s__law_at_head, [], []⟩
def d__law_above : He.DefD := ⟨("_law_above", none), "_law_above", "_law_above", defArgs s__law_above, defBody s__law_above, defScope s__law_above, [], []⟩
def d__law_behind : He.DefD := ⟨("_law_behind", none), "_law_behind", "_law_behind", defArgs s__law_behind, defBody s__law_behind, defScope s__law_behind, [], []⟩
def d__law_stands : He.DefD := ⟨("_law_stands", none), "_law_stands", "_law_stands", defArgs s__law_stands, defBody s__law_stands, defScope s__law_stands, [], []⟩
def d__law_noted : He.DefD := ⟨("_law_noted", none), "_law_noted", "_law_noted", defArgs s__law_noted, defBody s__law_noted, defScope s__law_noted, [], []⟩
def d__law_finished : He.DefD := ⟨("_law_finished", none), "_law_finished", "_law_finished", defArgs s__law_finished, defBody s__law_finished, defScope s__law_finished, [], []⟩
def d__law_edited : He.DefD := ⟨("_law_edited", none), "_law_edited", "_law_edited", defArgs s__law_edited, defBody s__law_edited, defScope s__law_edited, [], []⟩
def d_law : He.DefD := ⟨("law", none), "law", "law", defArgs s_law, defBody s_law, defScope s_law, [], []⟩
def fn : List He.DefD := [d__wall, d_is_whole, d_is_count, d_is_time, d_has_only, d_is_id, d_is_ref_segment, d_is_ref, d_is_text, d_above, d_are_near, d_Edit___init__, d_Edit___enter__, d_Edit___exit__, d_Edit_drop, d_Edit_check_open, d_Edit_lock, d_Edit_call, d_Edit_point, d_Edit_delete, d_Edit_stand, d_Edit_check, d_Edit_moves, d_Edit_behind, d_Edit_finish, d_is_place, d_is_named, d_is_value, d_is_entry, d_is_who, d_are_pairs, d_are_apart, d_is_past, d_is_state, d_Refs___init__, d_Refs_take, d_Refs___getitem__, d_Refs___contains__, d_Refs___len__, d_Refs___iter__, d_Refs_names, d_Refs_head, d_Refs_at_head, d_Refs_state, d_Refs_log, d_Refs_copied, d_Refs_note, d_Refs_opened, d_Refs_locked_by_others, d_Refs_edit, d__law_cell_at, d__law_source, d__law_draw, d__law_pick, d__law_ref, d__law_id, d__law_new, d__law_at_head, d__law_above, d__law_behind, d__law_stands, d__law_noted, d__law_finished, d__law_edited, d_law]
def i_ForkError : Fk.IniD := ⟨"ForkError", "ForkError.__init__", defArgs s_ForkError___init__, defBody s_ForkError___init__, defScope s_ForkError___init__, [.str ""]⟩
def i_Locked : Fk.IniD := ⟨"Locked", "Locked.__init__", defArgs s_Locked___init__, defBody s_Locked___init__, defScope s_Locked___init__, []⟩
def i_Stale : Fk.IniD := ⟨"Stale", "Stale.__init__", defArgs s_Stale___init__, defBody s_Stale___init__, defScope s_Stale___init__, []⟩
def i_NoRef : Fk.IniD := ⟨"NoRef", "NoRef.__init__", defArgs s_NoRef___init__, defBody s_NoRef___init__, defScope s_NoRef___init__, []⟩
def inis : List Fk.IniD := [i_ForkError, i_Locked, i_Stale, i_NoRef]
def e_ForkError : Fk.ErrD := ⟨"ForkError", "ForkError", "ForkError", false, "why", "why"⟩
def e_BadName : Fk.ErrD := ⟨"BadName", "ForkError", "ForkError", false, "why", "why"⟩
def e_BadRef : Fk.ErrD := ⟨"BadRef", "ForkError", "ForkError", false, "why", "why"⟩
def e_BadCommand : Fk.ErrD := ⟨"BadCommand", "ForkError", "ForkError", false, "why", "why"⟩
def e_Locked : Fk.ErrD := ⟨"Locked", "Locked", "ForkError", false, "ref", "why"⟩
def e_Stale : Fk.ErrD := ⟨"Stale", "Stale", "ForkError", false, "ref", "why"⟩
def e_NoRef : Fk.ErrD := ⟨"NoRef", "NoRef", "NoRef", true, "name", "name"⟩
def errs : List Fk.ErrD := [e_ForkError, e_BadName, e_BadRef, e_BadCommand, e_Locked, e_Stale, e_NoRef]
def gets : List Fk.DefP := []
def props : List (PySem.Str × PySem.Str) := []
def fa0 : List He.Fa := [.glo "_wall", .glo "ForkError", .glo "BadName", .glo "BadRef", .glo "BadCommand", .glo "Locked", .glo "Stale", .glo "NoRef", .str "SMALL" "abcdefghijklmnopqrstuvwxyz", .str "DIGITS" "0123456789", .str "HEX" "0123456789abcdef", .int "ID_LENGTH" 16, .int "MOST_REF_SEGMENTS" 5, .int "MOST_FAR_SEGMENTS" 7, .str "FAR" "far", .int "MOST_SEGMENT" 12, .int "MOST_TEXT" 2000, .int "MOST_MESSAGE" 200, .int "MOST_TIME" 1000000000000, .glo "is_whole", .glo "is_count", .glo "is_time", .glo "has_only", .glo "is_id", .glo "is_ref_segment", .glo "is_ref", .glo "is_text", .glo "above", .str "HEAD" "HEAD", .glo "are_near"]
def fa1 : List He.Fa := [.glo "Edit", .glo "FIRST", .glo "is_place", .glo "is_named", .glo "is_value", .glo "is_entry", .glo "is_who", .glo "are_pairs", .glo "are_apart", .glo "is_past", .glo "is_state", .glo "Refs", .glo "_law_cell_at", .glo "_law_source", .glo "_law_draw", .glo "_law_pick", .glo "_law_ref", .glo "_law_id", .glo "_law_new", .glo "_law_at_head", .glo "_law_above", .glo "_law_behind", .glo "_law_stands", .glo "_law_noted", .glo "_law_finished", .glo "_law_edited", .glo "law", .cls "Edit", .mkr "Edit", .noat "Edit" "home"]
def fa2 : List He.Fa := [.noat "Edit" "turn", .noat "Edit" "signed", .noat "Edit" "calls", .noat "Edit" "grips", .noat "Edit" "stands", .noat "Edit" "is_open", .noat "Edit" "keeper", .meth "Edit" "__init__", .meth "Edit" "__enter__", .meth "Edit" "__exit__", .meth "Edit" "drop", .meth "Edit" "check_open", .meth "Edit" "lock", .meth "Edit" "call", .meth "Edit" "point", .meth "Edit" "delete", .meth "Edit" "stand", .meth "Edit" "check", .meth "Edit" "moves", .meth "Edit" "behind", .meth "Edit" "finish", .cls "Refs", .mkr "Refs", .noat "Refs" "edits", .noat "Refs" "table", .noat "Refs" "spot", .noat "Refs" "logs", .meth "Refs" "__init__", .meth "Refs" "take", .meth "Refs" "__getitem__"]
def fa3 : List He.Fa := [.meth "Refs" "__contains__", .meth "Refs" "__len__", .meth "Refs" "__iter__", .meth "Refs" "names", .meth "Refs" "head", .meth "Refs" "at_head", .meth "Refs" "state", .meth "Refs" "log", .meth "Refs" "copied", .meth "Refs" "note", .meth "Refs" "opened", .meth "Refs" "locked_by_others", .meth "Refs" "edit", .free "len", .free "int", .free "range", .free "isinstance", .free "str", .free "super", .free "all", .free "any", .free "sorted", .free "tuple", .free "dict", .free "list", .free "bool", .free "zip"]
def fa : List He.Fa := fa0 ++ fa1 ++ fa2 ++ fa3
def loose0 : List PySem.Str := ["_wall", "ForkError", "BadName", "BadRef", "BadCommand", "Locked", "Stale", "NoRef", "SMALL", "DIGITS", "HEX", "ID_LENGTH", "MOST_REF_SEGMENTS", "MOST_FAR_SEGMENTS", "FAR", "MOST_SEGMENT", "MOST_TEXT", "MOST_MESSAGE", "MOST_TIME", "is_whole", "is_count", "is_time", "has_only", "is_id", "is_ref_segment"]
def loose1 : List PySem.Str := ["is_ref", "is_text", "above", "HEAD", "are_near", "Edit", "FIRST", "is_place", "is_named", "is_value", "is_entry", "is_who", "are_pairs", "are_apart", "is_past", "is_state", "Refs", "_law_cell_at", "_law_source", "_law_draw", "_law_pick", "_law_ref", "_law_id", "_law_new", "_law_at_head"]
def loose2 : List PySem.Str := ["_law_above", "_law_behind", "_law_stands", "_law_noted", "_law_finished", "_law_edited"]
def loose : List PySem.Str := loose0 ++ loose1 ++ loose2
def own : List PySem.Str := ["Edit", "Refs"]
def clB (K : PySem.W.Frag) (C : Addr) : Bool := decide (PySem.W.findIn K (.ref C) "__class__" = some (some (.builtin "object.__class__"))) && (decide (PySem.W.specialIn K (.builtin "object.__class__") "__get__" = some (some (.builtin "getset_descriptor.__get__"))) && (decide (PySem.W.takesIn K (.builtin "object.__class__") = some true) && decide (PySem.W.mroIn K C (.type "object") = some true)))
def noL (K : PySem.W.Frag) : Bool := K.all fun p => !(decide (p.2.cls = Value.type "list"))
def exx (K : PySem.W.Frag) : Bool := (errs.all fun e => e.ok K) && ((own.all fun c => clB K (He.ga K c)) && (He.tupB K "FIRST" [.str "ref", .str "main"] && ((errs.all fun e => errs.all fun x => decide (PySem.W.exmOne K (.ref (He.ga K e.cls)) (.ref (He.ga K x.cls)) = some (Rf.subE x.cls e.cls))) && noL K)))
abbrev FILE : Str := PySem.Challenge.pw_forkhaul_k31_whole_edits_one_by_one.main.file
structure Ctx (K : PySem.W.Frag) (mg : Str → Option Value) : Prop where
  ex : ∃ h : Heap, K.In h ∧ h.Ns mainGlobals mg
  z : Fk.SaysZ FILE fa fn inis gets exx K
theorem Ctx.y {K : PySem.W.Frag} {mg : Str → Option Value} (T : Ctx K mg) : Fk.SaysY FILE fa fn inis exx K := T.z.y
theorem Ctx.c {K : PySem.W.Frag} {mg : Str → Option Value} (T : Ctx K mg) : He.SaysD fa fn K := T.y.d
section
variable {K : PySem.W.Frag} {mg : Str → Option Value}
theorem Ctx.glo (T : Ctx K mg) (i : Nat) {x : Str} (h : fa[i]? = some (.glo x) := by rfl) : mg x = some (.ref (He.ga K x)) := by
  obtain ⟨h0, X, G⟩ := T.ex
  exact He.glo_ok X G (T.c.fact i h)
theorem Ctx.fre (T : Ctx K mg) (i : Nat) {x : Str} (h : fa[i]? = some (.free x) := by rfl) : mg x = none := by
  obtain ⟨h0, X, G⟩ := T.ex
  exact He.free_ok X G (T.c.fact i h)
theorem Ctx.int (T : Ctx K mg) (i : Nat) {x : Str} {n : Int} (h : fa[i]? = some (.int x n) := by rfl) : ∃ t, mg x = some (.int n t) := by
  obtain ⟨h0, X, G⟩ := T.ex
  exact He.int_ok X G (T.c.fact i h)
theorem Ctx.str (T : Ctx K mg) (i : Nat) {x z : Str} (h : fa[i]? = some (.str x z) := by rfl) : ∃ t, mg x = some (.str z t) := by
  obtain ⟨h0, X, G⟩ := T.ex
  exact He.str_ok X G (T.c.fact i h)
theorem Ctx.g__wall (T : Ctx K mg) : mg "_wall" = some (.ref (He.ga K "_wall")) := T.glo 0
theorem Ctx.g_ForkError (T : Ctx K mg) : mg "ForkError" = some (.ref (He.ga K "ForkError")) := T.glo 1
theorem Ctx.g_BadName (T : Ctx K mg) : mg "BadName" = some (.ref (He.ga K "BadName")) := T.glo 2
theorem Ctx.g_BadRef (T : Ctx K mg) : mg "BadRef" = some (.ref (He.ga K "BadRef")) := T.glo 3
theorem Ctx.g_BadCommand (T : Ctx K mg) : mg "BadCommand" = some (.ref (He.ga K "BadCommand")) := T.glo 4
theorem Ctx.g_Locked (T : Ctx K mg) : mg "Locked" = some (.ref (He.ga K "Locked")) := T.glo 5
theorem Ctx.g_Stale (T : Ctx K mg) : mg "Stale" = some (.ref (He.ga K "Stale")) := T.glo 6
theorem Ctx.g_NoRef (T : Ctx K mg) : mg "NoRef" = some (.ref (He.ga K "NoRef")) := T.glo 7
theorem Ctx.c_SMALL {X : Cx} {pos : Pos} (T : Ctx X.K X.mg) (hg : Gl X "SMALL") : PE X (.Name "SMALL" pos) (tC (.str "abcdefghijklmnopqrstuvwxyz")) := by
  obtain ⟨t, e⟩ := T.str 8 (x := "SMALL") (z := "abcdefghijklmnopqrstuvwxyz")
  exact pe_glob hg e ⟨t, rfl⟩
theorem Ctx.c_DIGITS {X : Cx} {pos : Pos} (T : Ctx X.K X.mg) (hg : Gl X "DIGITS") : PE X (.Name "DIGITS" pos) (tC (.str "0123456789")) := by
  obtain ⟨t, e⟩ := T.str 9 (x := "DIGITS") (z := "0123456789")
  exact pe_glob hg e ⟨t, rfl⟩
theorem Ctx.c_HEX {X : Cx} {pos : Pos} (T : Ctx X.K X.mg) (hg : Gl X "HEX") : PE X (.Name "HEX" pos) (tC (.str "0123456789abcdef")) := by
  obtain ⟨t, e⟩ := T.str 10 (x := "HEX") (z := "0123456789abcdef")
  exact pe_glob hg e ⟨t, rfl⟩
theorem Ctx.c_ID_LENGTH {X : Cx} {pos : Pos} (T : Ctx X.K X.mg) (hg : Gl X "ID_LENGTH") : PE X (.Name "ID_LENGTH" pos) (tC (.int 16)) := by
  obtain ⟨t, e⟩ := T.int 11 (x := "ID_LENGTH") (n := 16)
  exact pe_glob hg e ⟨t, rfl⟩
theorem Ctx.c_MOST_REF_SEGMENTS {X : Cx} {pos : Pos} (T : Ctx X.K X.mg) (hg : Gl X "MOST_REF_SEGMENTS") : PE X (.Name "MOST_REF_SEGMENTS" pos) (tC (.int 5)) := by
  obtain ⟨t, e⟩ := T.int 12 (x := "MOST_REF_SEGMENTS") (n := 5)
  exact pe_glob hg e ⟨t, rfl⟩
theorem Ctx.c_MOST_FAR_SEGMENTS {X : Cx} {pos : Pos} (T : Ctx X.K X.mg) (hg : Gl X "MOST_FAR_SEGMENTS") : PE X (.Name "MOST_FAR_SEGMENTS" pos) (tC (.int 7)) := by
  obtain ⟨t, e⟩ := T.int 13 (x := "MOST_FAR_SEGMENTS") (n := 7)
  exact pe_glob hg e ⟨t, rfl⟩
theorem Ctx.c_FAR {X : Cx} {pos : Pos} (T : Ctx X.K X.mg) (hg : Gl X "FAR") : PE X (.Name "FAR" pos) (tC (.str "far")) := by
  obtain ⟨t, e⟩ := T.str 14 (x := "FAR") (z := "far")
  exact pe_glob hg e ⟨t, rfl⟩
theorem Ctx.c_MOST_SEGMENT {X : Cx} {pos : Pos} (T : Ctx X.K X.mg) (hg : Gl X "MOST_SEGMENT") : PE X (.Name "MOST_SEGMENT" pos) (tC (.int 12)) := by
  obtain ⟨t, e⟩ := T.int 15 (x := "MOST_SEGMENT") (n := 12)
  exact pe_glob hg e ⟨t, rfl⟩
theorem Ctx.c_MOST_TEXT {X : Cx} {pos : Pos} (T : Ctx X.K X.mg) (hg : Gl X "MOST_TEXT") : PE X (.Name "MOST_TEXT" pos) (tC (.int 2000)) := by
  obtain ⟨t, e⟩ := T.int 16 (x := "MOST_TEXT") (n := 2000)
  exact pe_glob hg e ⟨t, rfl⟩
theorem Ctx.c_MOST_MESSAGE {X : Cx} {pos : Pos} (T : Ctx X.K X.mg) (hg : Gl X "MOST_MESSAGE") : PE X (.Name "MOST_MESSAGE" pos) (tC (.int 200)) := by
  obtain ⟨t, e⟩ := T.int 17 (x := "MOST_MESSAGE") (n := 200)
  exact pe_glob hg e ⟨t, rfl⟩
theorem Ctx.c_MOST_TIME {X : Cx} {pos : Pos} (T : Ctx X.K X.mg) (hg : Gl X "MOST_TIME") : PE X (.Name "MOST_TIME" pos) (tC (.int 1000000000000)) := by
  obtain ⟨t, e⟩ := T.int 18 (x := "MOST_TIME") (n := 1000000000000)
  exact pe_glob hg e ⟨t, rfl⟩
theorem Ctx.g_is_whole (T : Ctx K mg) : mg "is_whole" = some (.ref (He.ga K "is_whole")) := T.glo 19
theorem Ctx.g_is_count (T : Ctx K mg) : mg "is_count" = some (.ref (He.ga K "is_count")) := T.glo 20
theorem Ctx.g_is_time (T : Ctx K mg) : mg "is_time" = some (.ref (He.ga K "is_time")) := T.glo 21
theorem Ctx.g_has_only (T : Ctx K mg) : mg "has_only" = some (.ref (He.ga K "has_only")) := T.glo 22
theorem Ctx.g_is_id (T : Ctx K mg) : mg "is_id" = some (.ref (He.ga K "is_id")) := T.glo 23
theorem Ctx.g_is_ref_segment (T : Ctx K mg) : mg "is_ref_segment" = some (.ref (He.ga K "is_ref_segment")) := T.glo 24
theorem Ctx.g_is_ref (T : Ctx K mg) : mg "is_ref" = some (.ref (He.ga K "is_ref")) := T.glo 25
theorem Ctx.g_is_text (T : Ctx K mg) : mg "is_text" = some (.ref (He.ga K "is_text")) := T.glo 26
theorem Ctx.g_above (T : Ctx K mg) : mg "above" = some (.ref (He.ga K "above")) := T.glo 27
theorem Ctx.c_HEAD {X : Cx} {pos : Pos} (T : Ctx X.K X.mg) (hg : Gl X "HEAD") : PE X (.Name "HEAD" pos) (tC (.str "HEAD")) := by
  obtain ⟨t, e⟩ := T.str 28 (x := "HEAD") (z := "HEAD")
  exact pe_glob hg e ⟨t, rfl⟩
theorem Ctx.g_are_near (T : Ctx K mg) : mg "are_near" = some (.ref (He.ga K "are_near")) := T.glo 29
theorem Ctx.g_Edit (T : Ctx K mg) : mg "Edit" = some (.ref (He.ga K "Edit")) := T.glo 30
theorem Ctx.g_FIRST (T : Ctx K mg) : mg "FIRST" = some (.ref (He.ga K "FIRST")) := T.glo 31
theorem Ctx.g_is_place (T : Ctx K mg) : mg "is_place" = some (.ref (He.ga K "is_place")) := T.glo 32
theorem Ctx.g_is_named (T : Ctx K mg) : mg "is_named" = some (.ref (He.ga K "is_named")) := T.glo 33
theorem Ctx.g_is_value (T : Ctx K mg) : mg "is_value" = some (.ref (He.ga K "is_value")) := T.glo 34
theorem Ctx.g_is_entry (T : Ctx K mg) : mg "is_entry" = some (.ref (He.ga K "is_entry")) := T.glo 35
theorem Ctx.g_is_who (T : Ctx K mg) : mg "is_who" = some (.ref (He.ga K "is_who")) := T.glo 36
theorem Ctx.g_are_pairs (T : Ctx K mg) : mg "are_pairs" = some (.ref (He.ga K "are_pairs")) := T.glo 37
theorem Ctx.g_are_apart (T : Ctx K mg) : mg "are_apart" = some (.ref (He.ga K "are_apart")) := T.glo 38
theorem Ctx.g_is_past (T : Ctx K mg) : mg "is_past" = some (.ref (He.ga K "is_past")) := T.glo 39
theorem Ctx.g_is_state (T : Ctx K mg) : mg "is_state" = some (.ref (He.ga K "is_state")) := T.glo 40
theorem Ctx.g_Refs (T : Ctx K mg) : mg "Refs" = some (.ref (He.ga K "Refs")) := T.glo 41
theorem Ctx.g__law_cell_at (T : Ctx K mg) : mg "_law_cell_at" = some (.ref (He.ga K "_law_cell_at")) := T.glo 42
theorem Ctx.g__law_source (T : Ctx K mg) : mg "_law_source" = some (.ref (He.ga K "_law_source")) := T.glo 43
theorem Ctx.g__law_draw (T : Ctx K mg) : mg "_law_draw" = some (.ref (He.ga K "_law_draw")) := T.glo 44
theorem Ctx.g__law_pick (T : Ctx K mg) : mg "_law_pick" = some (.ref (He.ga K "_law_pick")) := T.glo 45
theorem Ctx.g__law_ref (T : Ctx K mg) : mg "_law_ref" = some (.ref (He.ga K "_law_ref")) := T.glo 46
theorem Ctx.g__law_id (T : Ctx K mg) : mg "_law_id" = some (.ref (He.ga K "_law_id")) := T.glo 47
theorem Ctx.g__law_new (T : Ctx K mg) : mg "_law_new" = some (.ref (He.ga K "_law_new")) := T.glo 48
theorem Ctx.g__law_at_head (T : Ctx K mg) : mg "_law_at_head" = some (.ref (He.ga K "_law_at_head")) := T.glo 49
theorem Ctx.g__law_above (T : Ctx K mg) : mg "_law_above" = some (.ref (He.ga K "_law_above")) := T.glo 50
theorem Ctx.g__law_behind (T : Ctx K mg) : mg "_law_behind" = some (.ref (He.ga K "_law_behind")) := T.glo 51
theorem Ctx.g__law_stands (T : Ctx K mg) : mg "_law_stands" = some (.ref (He.ga K "_law_stands")) := T.glo 52
theorem Ctx.g__law_noted (T : Ctx K mg) : mg "_law_noted" = some (.ref (He.ga K "_law_noted")) := T.glo 53
theorem Ctx.g__law_finished (T : Ctx K mg) : mg "_law_finished" = some (.ref (He.ga K "_law_finished")) := T.glo 54
theorem Ctx.g__law_edited (T : Ctx K mg) : mg "_law_edited" = some (.ref (He.ga K "_law_edited")) := T.glo 55
theorem Ctx.g_law (T : Ctx K mg) : mg "law" = some (.ref (He.ga K "law")) := T.glo 56
theorem Ctx.k_Edit (T : Ctx K mg) : Cls K (He.ga K "Edit") := He.cls_ok (T.c.fact 57 rfl)
theorem Ctx.mk_Edit (T : Ctx K mg) : Mk K (He.ga K "Edit") (He.ma K (He.ga K "Edit") "__init__") := He.mkr_ok (T.c.fact 58 rfl)
theorem Ctx.n_Edit_home (T : Ctx K mg) : NoAttr K (He.ga K "Edit") "home" := He.noat_ok (T.c.fact 59 rfl)
theorem Ctx.n_Edit_turn (T : Ctx K mg) : NoAttr K (He.ga K "Edit") "turn" := He.noat_ok (T.c.fact 60 rfl)
theorem Ctx.n_Edit_signed (T : Ctx K mg) : NoAttr K (He.ga K "Edit") "signed" := He.noat_ok (T.c.fact 61 rfl)
theorem Ctx.n_Edit_calls (T : Ctx K mg) : NoAttr K (He.ga K "Edit") "calls" := He.noat_ok (T.c.fact 62 rfl)
theorem Ctx.n_Edit_grips (T : Ctx K mg) : NoAttr K (He.ga K "Edit") "grips" := He.noat_ok (T.c.fact 63 rfl)
theorem Ctx.n_Edit_stands (T : Ctx K mg) : NoAttr K (He.ga K "Edit") "stands" := He.noat_ok (T.c.fact 64 rfl)
theorem Ctx.n_Edit_is_open (T : Ctx K mg) : NoAttr K (He.ga K "Edit") "is_open" := He.noat_ok (T.c.fact 65 rfl)
theorem Ctx.n_Edit_keeper (T : Ctx K mg) : NoAttr K (He.ga K "Edit") "keeper" := He.noat_ok (T.c.fact 66 rfl)
theorem Ctx.m_Edit___init__ (T : Ctx K mg) : Meth K (He.ga K "Edit") "__init__" (He.ma K (He.ga K "Edit") "__init__") := He.meth_ok (T.c.fact 67 rfl)
theorem Ctx.m_Edit___enter__ (T : Ctx K mg) : Meth K (He.ga K "Edit") "__enter__" (He.ma K (He.ga K "Edit") "__enter__") := He.meth_ok (T.c.fact 68 rfl)
theorem Ctx.m_Edit___exit__ (T : Ctx K mg) : Meth K (He.ga K "Edit") "__exit__" (He.ma K (He.ga K "Edit") "__exit__") := He.meth_ok (T.c.fact 69 rfl)
theorem Ctx.m_Edit_drop (T : Ctx K mg) : Meth K (He.ga K "Edit") "drop" (He.ma K (He.ga K "Edit") "drop") := He.meth_ok (T.c.fact 70 rfl)
theorem Ctx.m_Edit_check_open (T : Ctx K mg) : Meth K (He.ga K "Edit") "check_open" (He.ma K (He.ga K "Edit") "check_open") := He.meth_ok (T.c.fact 71 rfl)
theorem Ctx.m_Edit_lock (T : Ctx K mg) : Meth K (He.ga K "Edit") "lock" (He.ma K (He.ga K "Edit") "lock") := He.meth_ok (T.c.fact 72 rfl)
theorem Ctx.m_Edit_call (T : Ctx K mg) : Meth K (He.ga K "Edit") "call" (He.ma K (He.ga K "Edit") "call") := He.meth_ok (T.c.fact 73 rfl)
theorem Ctx.m_Edit_point (T : Ctx K mg) : Meth K (He.ga K "Edit") "point" (He.ma K (He.ga K "Edit") "point") := He.meth_ok (T.c.fact 74 rfl)
theorem Ctx.m_Edit_delete (T : Ctx K mg) : Meth K (He.ga K "Edit") "delete" (He.ma K (He.ga K "Edit") "delete") := He.meth_ok (T.c.fact 75 rfl)
theorem Ctx.m_Edit_stand (T : Ctx K mg) : Meth K (He.ga K "Edit") "stand" (He.ma K (He.ga K "Edit") "stand") := He.meth_ok (T.c.fact 76 rfl)
theorem Ctx.m_Edit_check (T : Ctx K mg) : Meth K (He.ga K "Edit") "check" (He.ma K (He.ga K "Edit") "check") := He.meth_ok (T.c.fact 77 rfl)
theorem Ctx.m_Edit_moves (T : Ctx K mg) : Meth K (He.ga K "Edit") "moves" (He.ma K (He.ga K "Edit") "moves") := He.meth_ok (T.c.fact 78 rfl)
theorem Ctx.m_Edit_behind (T : Ctx K mg) : Meth K (He.ga K "Edit") "behind" (He.ma K (He.ga K "Edit") "behind") := He.meth_ok (T.c.fact 79 rfl)
theorem Ctx.m_Edit_finish (T : Ctx K mg) : Meth K (He.ga K "Edit") "finish" (He.ma K (He.ga K "Edit") "finish") := He.meth_ok (T.c.fact 80 rfl)
theorem Ctx.k_Refs (T : Ctx K mg) : Cls K (He.ga K "Refs") := He.cls_ok (T.c.fact 81 rfl)
theorem Ctx.mk_Refs (T : Ctx K mg) : Mk K (He.ga K "Refs") (He.ma K (He.ga K "Refs") "__init__") := He.mkr_ok (T.c.fact 82 rfl)
theorem Ctx.n_Refs_edits (T : Ctx K mg) : NoAttr K (He.ga K "Refs") "edits" := He.noat_ok (T.c.fact 83 rfl)
theorem Ctx.n_Refs_table (T : Ctx K mg) : NoAttr K (He.ga K "Refs") "table" := He.noat_ok (T.c.fact 84 rfl)
theorem Ctx.n_Refs_spot (T : Ctx K mg) : NoAttr K (He.ga K "Refs") "spot" := He.noat_ok (T.c.fact 85 rfl)
theorem Ctx.n_Refs_logs (T : Ctx K mg) : NoAttr K (He.ga K "Refs") "logs" := He.noat_ok (T.c.fact 86 rfl)
theorem Ctx.m_Refs___init__ (T : Ctx K mg) : Meth K (He.ga K "Refs") "__init__" (He.ma K (He.ga K "Refs") "__init__") := He.meth_ok (T.c.fact 87 rfl)
theorem Ctx.m_Refs_take (T : Ctx K mg) : Meth K (He.ga K "Refs") "take" (He.ma K (He.ga K "Refs") "take") := He.meth_ok (T.c.fact 88 rfl)
theorem Ctx.m_Refs___getitem__ (T : Ctx K mg) : Meth K (He.ga K "Refs") "__getitem__" (He.ma K (He.ga K "Refs") "__getitem__") := He.meth_ok (T.c.fact 89 rfl)
theorem Ctx.m_Refs___contains__ (T : Ctx K mg) : Meth K (He.ga K "Refs") "__contains__" (He.ma K (He.ga K "Refs") "__contains__") := He.meth_ok (T.c.fact 90 rfl)
theorem Ctx.m_Refs___len__ (T : Ctx K mg) : Meth K (He.ga K "Refs") "__len__" (He.ma K (He.ga K "Refs") "__len__") := He.meth_ok (T.c.fact 91 rfl)
theorem Ctx.m_Refs___iter__ (T : Ctx K mg) : Meth K (He.ga K "Refs") "__iter__" (He.ma K (He.ga K "Refs") "__iter__") := He.meth_ok (T.c.fact 92 rfl)
theorem Ctx.m_Refs_names (T : Ctx K mg) : Meth K (He.ga K "Refs") "names" (He.ma K (He.ga K "Refs") "names") := He.meth_ok (T.c.fact 93 rfl)
theorem Ctx.m_Refs_head (T : Ctx K mg) : Meth K (He.ga K "Refs") "head" (He.ma K (He.ga K "Refs") "head") := He.meth_ok (T.c.fact 94 rfl)
theorem Ctx.m_Refs_at_head (T : Ctx K mg) : Meth K (He.ga K "Refs") "at_head" (He.ma K (He.ga K "Refs") "at_head") := He.meth_ok (T.c.fact 95 rfl)
theorem Ctx.m_Refs_state (T : Ctx K mg) : Meth K (He.ga K "Refs") "state" (He.ma K (He.ga K "Refs") "state") := He.meth_ok (T.c.fact 96 rfl)
theorem Ctx.m_Refs_log (T : Ctx K mg) : Meth K (He.ga K "Refs") "log" (He.ma K (He.ga K "Refs") "log") := He.meth_ok (T.c.fact 97 rfl)
theorem Ctx.m_Refs_copied (T : Ctx K mg) : Meth K (He.ga K "Refs") "copied" (He.ma K (He.ga K "Refs") "copied") := He.meth_ok (T.c.fact 98 rfl)
theorem Ctx.m_Refs_note (T : Ctx K mg) : Meth K (He.ga K "Refs") "note" (He.ma K (He.ga K "Refs") "note") := He.meth_ok (T.c.fact 99 rfl)
theorem Ctx.m_Refs_opened (T : Ctx K mg) : Meth K (He.ga K "Refs") "opened" (He.ma K (He.ga K "Refs") "opened") := He.meth_ok (T.c.fact 100 rfl)
theorem Ctx.m_Refs_locked_by_others (T : Ctx K mg) : Meth K (He.ga K "Refs") "locked_by_others" (He.ma K (He.ga K "Refs") "locked_by_others") := He.meth_ok (T.c.fact 101 rfl)
theorem Ctx.m_Refs_edit (T : Ctx K mg) : Meth K (He.ga K "Refs") "edit" (He.ma K (He.ga K "Refs") "edit") := He.meth_ok (T.c.fact 102 rfl)
theorem Ctx.f_len (T : Ctx K mg) : mg "len" = none := T.fre 103
theorem Ctx.f_int (T : Ctx K mg) : mg "int" = none := T.fre 104
theorem Ctx.f_range (T : Ctx K mg) : mg "range" = none := T.fre 105
theorem Ctx.f_isinstance (T : Ctx K mg) : mg "isinstance" = none := T.fre 106
theorem Ctx.f_str (T : Ctx K mg) : mg "str" = none := T.fre 107
theorem Ctx.f_super (T : Ctx K mg) : mg "super" = none := T.fre 108
theorem Ctx.f_all (T : Ctx K mg) : mg "all" = none := T.fre 109
theorem Ctx.f_any (T : Ctx K mg) : mg "any" = none := T.fre 110
theorem Ctx.f_sorted (T : Ctx K mg) : mg "sorted" = none := T.fre 111
theorem Ctx.f_tuple (T : Ctx K mg) : mg "tuple" = none := T.fre 112
theorem Ctx.f_dict (T : Ctx K mg) : mg "dict" = none := T.fre 113
theorem Ctx.f_list (T : Ctx K mg) : mg "list" = none := T.fre 114
theorem Ctx.f_bool (T : Ctx K mg) : mg "bool" = none := T.fre 115
theorem Ctx.f_zip (T : Ctx K mg) : mg "zip" = none := T.fre 116
end
abbrev R : PySem.W.OpenRow := PySem.W.OpenLaw.row PySem.Challenge.rw_forkhaul_k31_whole_edits_one_by_one
abbrev hk : PySem.W.Hook := Fk.hookZ FILE 6 fa fn inis gets exx
def ob (s : PySem.W.SharedT) : Fk.AlZ := Fk.obsZG FILE 6 fa fn inis gets exx (HandSHeadRun.getT s)
theorem ob_eq (s : PySem.W.SharedT) : ob s = hk.obs s.abs := Fk.obsZG_eq (HandSHeadRun.getT_eq s)
theorem run (w : World) : HandSHeadRun.RunEq R (PySem.W.view R.prog [61]) hk ob 60000 loose w := by
  intro os
  kernel_rfl
end K31
namespace Rf
open PySem PySem.Spec PyProof.Rows L2 Fk Mv
def mk_ForkError (x : MV) : List (Str × MV) := [("why", x)]
def mk_BadName (x : MV) : List (Str × MV) := [("why", x)]
def mk_BadRef (x : MV) : List (Str × MV) := [("why", x)]
def mk_BadCommand (x : MV) : List (Str × MV) := [("why", x)]
def mk_Locked (x : MV) : List (Str × MV) := [("ref", x), ("why", .str "locked")]
def mk_Stale (x : MV) : List (Str × MV) := [("ref", x), ("why", .str "stale")]
def mk_NoRef (x : MV) : List (Str × MV) := [("name", x)]
/-- 0:_law_script 1:_law_k -/
def b__law_cell_at : FS :=
    (sSeq (sIf (tB' (eBin ltM (eVar 1) (fun ρ A => ((aCons (eVar 0) aNil) ρ A).bind lenM)))
      (sRet (eBin ixM (eVar 0) (eVar 1)))
      sNext)
    (sRet (eC (.int 0))))
def F__law_cell_at : FF := defM 2 b__law_cell_at
/-- 0:_law_cell -/
def b__law_source : FS :=
    (sRet (eRef (aLst (aCons (eBin mulM (eVar 0) (fun ρ A => ((aCons (eBin geM (eVar 0) (eBin powM (eC (.int 10)) (eC (.int 18)))) aNil) ρ A).bind intM)) (aCons (eBin modM (fun ρ A => ((aCons (eVar 0) aNil) ρ A).bind intM) (eC (.int 2147483647))) (aCons (eC (.int 0)) aNil))))))
def F__law_source : FF := defM 1 b__law_source
/--  -/
def b__law_new : FS :=
    (sRet (eDisp [((eC (.str "table")), eDict0), ((eC (.str "head")), (eTup (aCons (eC (.str "ref")) (aCons (eC (.str "main")) aNil)))), ((eC (.str "logs")), eDict0)]))
def F__law_new : FF := defM 0 b__law_new
/-- 0:text 1:signs* 2:sign -/
def b_has_only : FS :=
    (sRet (fun ρ A => ((aCons (eFrz (aLk (eVar 0) (aLc (iAny (eVar 0)) [2] [2] gNm (qElt bYes (eBin inM (eVar 2) (eVar 1)))))) aNil) ρ A).bind (allM fun bs => bs.all id)))
def F_has_only : FF := defM 3 b_has_only
/-- 0:thing -/
def b_is_id : FS :=
    (sRet (eAnd (fun ρ A => ((aCons (eVar 0) (aCons (eC (.ty "str")) aNil)) ρ A).bind isiM) (eAnd (eBin eqM (fun ρ A => ((aCons (eVar 0) aNil) ρ A).bind lenM) (eC (.int 16))) (eCall 2 0 (fun ms _ => ms) F_has_only (pA (aCons (eVar 0) (aCons (eC (.str "0123456789abcdef")) aNil)))))))
def F_is_id : FF := defM 1 b_is_id
/-- 0:thing -/
def b_is_ref_segment : FS :=
    (sRet (eAnd (eChain leM leM (eC (.int 1)) (fun ρ A => ((aCons (eVar 0) aNil) ρ A).bind lenM) (eC (.int 12))) (eCall 2 0 (fun ms _ => ms) F_has_only (pA (aCons (eVar 0) (aCons (eBin addM (eBin addM (eC (.str "abcdefghijklmnopqrstuvwxyz")) (eC (.str "0123456789"))) (eC (.str "-"))) aNil))))))
def F_is_ref_segment : FF := defM 1 b_is_ref_segment
/-- 0:thing 1:segments 2:most 3:one -/
def b_is_ref : FS :=
    (sSeq (sIf (bNot (tB' (fun ρ A => ((aCons (eVar 0) (aCons (eC (.ty "str")) aNil)) ρ A).bind isiM)))
      (sRet (eC (.bl false)))
      sNext)
    (sSeq (sSet 1 (eFrz (aSplit (eVar 0) (eC (.str "/")))))
    (sSeq (sSet 2 (eIf (tB' (eBin eqM (eBin ixM (eVar 1) (eC (.int 0))) (eC (.str "far")))) (eC (.int 7)) (eC (.int 5))))
    (sRet (eAnd (eBin leM (fun ρ A => ((aCons (eVar 1) aNil) ρ A).bind lenM) (eVar 2)) (fun ρ A => ((aCons (eFrz (aLc (iFrz (eVar 1)) [3] [3] gNm (qElt bYes (eCall 1 0 (fun ms _ => ms) F_is_ref_segment (pA (aCons (eVar 3) aNil)))))) aNil) ρ A).bind (allM fun bs => bs.all id)))))))
def F_is_ref : FF := defM 4 b_is_ref
/-- 0:thing -/
def b_is_place : FS :=
    (sSeq (sIf (bOr (bNot (tB' (fun ρ A => ((aCons (eVar 0) (aCons (eC (.ty "tuple")) aNil)) ρ A).bind isiM))) (bOr (tB' (eBin neM (fun ρ A => ((aCons (eVar 0) aNil) ρ A).bind lenM) (eC (.int 2)))) (bNot (tB' (fun ρ A => ((aCons (eBin ixM (eVar 0) (eC (.int 0))) (aCons (eC (.ty "str")) aNil)) ρ A).bind isiM)))))
      (sRet (eC (.bl false)))
      sNext)
    (sRet (eOr (eAnd (eBin eqM (eBin ixM (eVar 0) (eC (.int 0))) (eC (.str "ref"))) (eCall 1 0 (fun ms _ => ms) F_is_ref (pA (aCons (eBin ixM (eVar 0) (eC (.int 1))) aNil)))) (eAnd (eBin eqM (eBin ixM (eVar 0) (eC (.int 0))) (eC (.str "id"))) (eCall 1 0 (fun ms _ => ms) F_is_id (pA (aCons (eBin ixM (eVar 0) (eC (.int 1))) aNil)))))))
def F_is_place : FF := defM 1 b_is_place
/-- 0:thing 1:names 2:pair 3:name 4:one 5:other -/
def b_are_pairs : FS :=
    (sSeq (sIf (bOr (bNot (tB' (fun ρ A => ((aCons (eVar 0) (aCons (eC (.ty "tuple")) aNil)) ρ A).bind isiM))) (bNot (tB' (fun ρ A => ((aCons (eFrz (aLk (eVar 0) (aLc (iAny (eVar 0)) [2] [2] gNm (qElt bYes (eAnd (fun ρ A => ((aCons (eVar 2) (aCons (eC (.ty "tuple")) aNil)) ρ A).bind isiM) (eBin eqM (fun ρ A => ((aCons (eVar 2) aNil) ρ A).bind lenM) (eC (.int 2)))))))) aNil) ρ A).bind (allM fun bs => bs.all id)))))
      (sRet (eC (.bl false)))
      sNext)
    (sSeq (sLk (eVar 0) (sSet 1 (eFrz (aLc (iAny (eVar 0)) [2] [2] gNm (qElt bYes (eBin ixM (eVar 2) (eC (.int 0))))))))
    (sSeq (sIf (bNot (tB' (fun ρ A => ((aCons (eFrz (aLc (iFrz (eVar 1)) [3] [3] gNm (qElt bYes (fun ρ A => ((aCons (eVar 3) (aCons (eC (.ty "str")) aNil)) ρ A).bind isiM)))) aNil) ρ A).bind (allM fun bs => bs.all id))))
      (sRet (eC (.bl false)))
      sNext)
    (sRet (fun ρ A => ((aCons (eFrz (aLc (Mv.iZip (aCons (eVar 1) (aCons (eFrz (aSl (eVar 1) (oSome (eC (.int 1))) oNone)) aNil))) [4, 5] [4, 5] (gTupM 2 (gConsM gNm (gConsM gNm gNilM))) (qElt bYes (eBin ltM (eVar 4) (eVar 5))))) aNil) ρ A).bind (allM fun bs => bs.all id))))))
def F_are_pairs : FF := defM 6 b_are_pairs
/-- 0:path 1:segments* 2:count -/
def b_above : FS :=
    (sSeq (sSet 1 (eFrz (aSplit (eVar 0) (eC (.str "/")))))
    (sRet (eFrz (aLc (Mv.iRng2 (aCons (eC (.int 1)) (aCons (fun ρ A => ((aCons (eVar 1) aNil) ρ A).bind lenM) aNil))) [2] [2] gNm (qElt bYes (eJoin (eC (.str "/")) (eFrz (aSl (eVar 1) oNone (oSome (eVar 2))))))))))
def F_above : FF := defM 3 b_above
/-- 0:names* 1:name 2:prefix -/
def b_are_apart : FS :=
    (sRet (eNot (fun ρ A => ((aCons (eFrz (aLk (eVar 0) (aLc (iAny (eVar 0)) [1, 2] [1] gNm (qIn bYes (iFrz (eCall 1 0 (fun ms _ => ms) F_above (pA (aCons (eVar 1) aNil)))) [2] [2] gNm (qElt bYes (eBin inM (eVar 2) (eVar 0))))))) aNil) ρ A).bind (allM fun bs => bs.any id))))
def F_are_apart : FF := defM 3 b_are_apart
/-- 0:thing -/
def b_is_value : FS :=
    (sRet (eOr (eBin isNM (eVar 0) (eC .non)) (eCall 1 0 (fun ms _ => ms) F_is_id (pA (aCons (eVar 0) aNil)))))
def F_is_value : FF := defM 1 b_is_value
/-- 0:thing 1:most 2:sign -/
def b_is_text : FS :=
    (sSeq (sIf (bOr (bNot (tB' (fun ρ A => ((aCons (eVar 0) (aCons (eC (.ty "str")) aNil)) ρ A).bind isiM))) (tB' (eBin gtM (fun ρ A => ((aCons (eVar 0) aNil) ρ A).bind lenM) (eVar 1))))
      (sRet (eC (.bl false)))
      sNext)
    (sRet (fun ρ A => ((aCons (eFrz (aLk (eVar 0) (aLc (iAny (eVar 0)) [2] [2] gNm (qElt bYes (eOr (eChain leM leM (eC (.str " ")) (eVar 2) (eC (.str "~"))) (eBin eqM (eVar 2) (eC (.str "\n")))))))) aNil) ρ A).bind (allM fun bs => bs.all id))))
def F_is_text : FF := defM 3 b_is_text
/-- 0:thing -/
def b_is_whole : FS :=
    (sRet (eAnd (fun ρ A => ((aCons (eVar 0) (aCons (eC (.ty "int")) aNil)) ρ A).bind isiM) (eNot (fun ρ A => ((aCons (eVar 0) (aCons (eC (.ty "bool")) aNil)) ρ A).bind isiM))))
def F_is_whole : FF := defM 1 b_is_whole
/-- 0:thing 1:least -/
def b_is_count : FS :=
    (sRet (eAnd (eCall 1 0 (fun ms _ => ms) F_is_whole (pA (aCons (eVar 0) aNil))) (eBin geM (eVar 0) (eVar 1))))
def F_is_count : FF := defM 2 b_is_count
/-- 0:thing -/
def b_is_time : FS :=
    (sRet (eAnd (eCall 1 0 (fun ms _ => ms ++ [.int 0]) F_is_count (pA (aCons (eVar 0) aNil))) (eBin leM (eVar 0) (eC (.int 1000000000000)))))
def F_is_time : FF := defM 1 b_is_time
/-- 0:thing -/
def b_is_who : FS :=
    (sRet (eAnd (eCall 1 0 (fun ms _ => ms) F_is_ref (pA (aCons (eVar 0) aNil))) (eBin notInM (eC (.str "/")) (eVar 0))))
def F_is_who : FF := defM 1 b_is_who
/-- 0:thing -/
def b_is_entry : FS :=
    (sSeq (sIf (bOr (bNot (tB' (fun ρ A => ((aCons (eVar 0) (aCons (eC (.ty "tuple")) aNil)) ρ A).bind isiM))) (bOr (tB' (eBin neM (fun ρ A => ((aCons (eVar 0) aNil) ρ A).bind lenM) (eC (.int 5)))) (bOr (bNot (tB' (eCall 1 0 (fun ms _ => ms) F_is_value (pA (aCons (eBin ixM (eVar 0) (eC (.int 0))) aNil))))) (bNot (tB' (eCall 1 0 (fun ms _ => ms) F_is_value (pA (aCons (eBin ixM (eVar 0) (eC (.int 1))) aNil))))))))
      (sRet (eC (.bl false)))
      sNext)
    (sRet (eAnd (eCall 1 0 (fun ms _ => ms) F_is_who (pA (aCons (eBin ixM (eVar 0) (eC (.int 2))) aNil))) (eAnd (eCall 1 0 (fun ms _ => ms) F_is_time (pA (aCons (eBin ixM (eVar 0) (eC (.int 3))) aNil))) (eCall 2 0 (fun ms _ => ms) F_is_text (pA (aCons (eBin ixM (eVar 0) (eC (.int 4))) (aCons (eC (.int 200)) aNil))))))))
def F_is_entry : FF := defM 1 b_is_entry
/-- 0:thing 1:entry -/
def b_is_past : FS :=
    (sRet (eAnd (fun ρ A => ((aCons (eVar 0) (aCons (eC (.ty "tuple")) aNil)) ρ A).bind isiM) (eAnd (eBin neM (eVar 0) (eC (.ptp []))) (fun ρ A => ((aCons (eFrz (aLk (eVar 0) (aLc (iAny (eVar 0)) [1] [1] gNm (qElt bYes (eCall 1 0 (fun ms _ => ms) F_is_entry (pA (aCons (eVar 1) aNil))))))) aNil) ρ A).bind (allM fun bs => bs.all id)))))
def F_is_past : FF := defM 2 b_is_past
/-- 0:thing -/
def b_is_named : FS :=
    (sRet (eOr (eCall 1 0 (fun ms _ => ms) F_is_ref (pA (aCons (eVar 0) aNil))) (eAnd (fun ρ A => ((aCons (eVar 0) (aCons (eC (.ty "str")) aNil)) ρ A).bind isiM) (eBin eqM (eVar 0) (eC (.str "HEAD"))))))
def F_is_named : FF := defM 1 b_is_named
/-- 0:thing 1:ref 2:name 3:past -/
def b_is_state : FS :=
    (sSeq (sIf (bOr (bNot (tB' (fun ρ A => ((aCons (eVar 0) (aCons (eC (.ty "tuple")) aNil)) ρ A).bind isiM))) (bOr (tB' (eBin neM (fun ρ A => ((aCons (eVar 0) aNil) ρ A).bind lenM) (eC (.int 3)))) (bNot (tB' (eCall 1 0 (fun ms _ => ms) F_is_place (pA (aCons (eBin ixM (eVar 0) (eC (.int 1))) aNil)))))))
      (sRet (eC (.bl false)))
      sNext)
    (sSeq (sIf (bOr (bNot (tB' (eCall 1 0 (fun ms _ => ms) F_are_pairs (pA (aCons (eBin ixM (eVar 0) (eC (.int 0))) aNil))))) (bNot (tB' (eCall 1 0 (fun ms _ => ms) F_are_pairs (pA (aCons (eBin ixM (eVar 0) (eC (.int 2))) aNil))))))
      (sRet (eC (.bl false)))
      sNext)
    (sSeq (sIf (bNot (tB' (fun ρ A => ((aCons (eFrz (aLk (eBin ixM (eVar 0) (eC (.int 0))) (aLc (iAny (eBin ixM (eVar 0) (eC (.int 0)))) [1, 2] [1, 2] (gTupM 2 (gConsM gNm (gConsM gNm gNilM))) (qElt bYes (eAnd (eCall 1 0 (fun ms _ => ms) F_is_ref (pA (aCons (eVar 1) aNil))) (eCall 1 0 (fun ms _ => ms) F_is_id (pA (aCons (eVar 2) aNil)))))))) aNil) ρ A).bind (allM fun bs => bs.all id))))
      (sRet (eC (.bl false)))
      sNext)
    (sSeq (sIf (bNot (tB' (eCall 1 0 (fun ms _ => ms) F_are_apart (pA (aCons (eFrz (aLk (eBin ixM (eVar 0) (eC (.int 0))) (aLc (iAny (eBin ixM (eVar 0) (eC (.int 0)))) [1, 2] [1, 2] (gTupM 2 (gConsM gNm (gConsM gNm gNilM))) (qElt bYes (eVar 1))))) aNil)))))
      (sRet (eC (.bl false)))
      sNext)
    (sRet (fun ρ A => ((aCons (eFrz (aLk (eBin ixM (eVar 0) (eC (.int 2))) (aLc (iAny (eBin ixM (eVar 0) (eC (.int 2)))) [2, 3] [2, 3] (gTupM 2 (gConsM gNm (gConsM gNm gNilM))) (qElt bYes (eAnd (eCall 1 0 (fun ms _ => ms) F_is_named (pA (aCons (eVar 2) aNil))) (eCall 1 0 (fun ms _ => ms) F_is_past (pA (aCons (eVar 3) aNil)))))))) aNil) ρ A).bind (allM fun bs => bs.all id)))))))
def F_is_state : FF := defM 4 b_is_state
/-- 0:self 1:state 2:name 3:past -/
def b_Refs_take : FS :=
    (sSeq (sFld "Refs" "table" (eVar 0) (fun ρ A => ((aCons (eBin ixM (eVar 1) (eC (.int 0))) aNil) ρ A).bind dictM))
    (sSeq (sFld "Refs" "spot" (eVar 0) (eBin ixM (eVar 1) (eC (.int 1))))
    (sFld "Refs" "logs" (eVar 0) (aLk (eBin ixM (eVar 1) (eC (.int 2))) (eDc (iAny (eBin ixM (eVar 1) (eC (.int 2)))) [2, 3] [2, 3] (gTupM 2 (gConsM gNm (gConsM gNm gNilM))) (dElt bYes (eVar 2) (eFrz (fun ρ A => ((aCons (eVar 3) aNil) ρ A).bind listL))))))))
def F_Refs_take : FF := defM 4 b_Refs_take
/-- 0:self 1:state -/
def b_Refs___init__ : FS :=
    (sSeq (sIf (tB' (eBin isNM (eVar 1) (eC .non)))
      (sSet 1 (eTup (aCons (eC (.ptp [])) (aCons (eC (.tup [.str "ref", .str "main"])) (aCons (eC (.ptp [])) aNil)))))
      sNext)
    (sSeq (sIf (bNot (tB' (eCall 1 0 (fun ms _ => ms) F_is_state (pA (aCons (eVar 1) aNil)))))
      (sRaise "BadName" mk_BadName (eC (.str "state")))
      sNext)
    (sSeq (sFld "Refs" "edits" (eVar 0) (eRef (aLst aNil)))
    (sExpr (eMeth "Refs" "take" 2 0 (fun ms _ => ms) F_Refs_take (eVar 0) (pA (aCons (eVar 1) aNil)))))))
def F_Refs___init__ : FF := defM 2 b_Refs___init__
/-- 0:self -/
def b_Refs___len__ : FS :=
    (sRet (fun ρ A => ((aCons (eFld "Refs" "table" (eVar 0)) aNil) ρ A).bind lenM))
def F_Refs___len__ : FF := defM 1 b_Refs___len__
/-- 0:self -/
def b_Refs_names : FS :=
    (sRet (fun ρ A => ((aCons (eFrz (fun ρ A => ((aCons (eFld "Refs" "table" (eVar 0)) aNil) ρ A).bind sortedL)) aNil) ρ A).bind tupleM))
def F_Refs_names : FF := defM 1 b_Refs_names
/-- 0:self 1:ref -/
def b_Refs___contains__ : FS :=
    (sRet (eAnd (eCall 1 0 (fun ms _ => ms) F_is_ref (pA (aCons (eVar 1) aNil))) (eBin inM (eVar 1) (eFld "Refs" "table" (eVar 0)))))
def F_Refs___contains__ : FF := defM 2 b_Refs___contains__
/-- 0:self 1:ref -/
def b_Refs___getitem__ : FS :=
    (sSeq (sIf (bOr (bNot (tB' (eCall 1 0 (fun ms _ => ms) F_is_ref (pA (aCons (eVar 1) aNil))))) (tB' (eBin notInM (eVar 1) (eFld "Refs" "table" (eVar 0)))))
      (sRaise "NoRef" mk_NoRef (eVar 1))
      sNext)
    (sRet (eBin ixM (eFld "Refs" "table" (eVar 0)) (eVar 1))))
def F_Refs___getitem__ : FF := defM 2 b_Refs___getitem__
/-- 0:self 1:word 2:name -/
def b_Refs_at_head : FS :=
    (sSeq (sAsg (eFld "Refs" "spot" (eVar 0)) [1, 2] (gTupM 2 (gConsM gNm (gConsM gNm gNilM))))
    (sRet (eIf (tB' (eBin eqM (eVar 1) (eC (.str "id")))) (eVar 2) (eGet1 (eFld "Refs" "table" (eVar 0)) (eVar 2)))))
def F_Refs_at_head : FF := defM 3 b_Refs_at_head
/-- 0:_law_m -/
def b__law_at_head : FS :=
    (sRet (eIf (tB' (eBin eqM (eBin ixM (eBin ixM (eVar 0) (eC (.str "head"))) (eC (.int 0))) (eC (.str "id")))) (eBin ixM (eBin ixM (eVar 0) (eC (.str "head"))) (eC (.int 1))) (eGet1 (eBin ixM (eVar 0) (eC (.str "table"))) (eBin ixM (eBin ixM (eVar 0) (eC (.str "head"))) (eC (.int 1))))))
def F__law_at_head : FF := defM 1 b__law_at_head
/-- 0:self -/
def b_Refs_head : FS :=
    (sRet (eFld "Refs" "spot" (eVar 0)))
def F_Refs_head : FF := defM 1 b_Refs_head
/-- 0:self 1:name -/
def b_Refs_log : FS :=
    (sSeq (sIf (bNot (tB' (eCall 1 0 (fun ms _ => ms) F_is_named (pA (aCons (eVar 1) aNil)))))
      (sRaise "BadRef" mk_BadRef (eC (.str "no name of a log")))
      sNext)
    (sRet (eFrz (fun ρ A => ((aCons (eGet2 (eFld "Refs" "logs" (eVar 0)) (eVar 1) (eFrz (aLst aNil))) aNil) ρ A).bind listL))))
def F_Refs_log : FF := defM 2 b_Refs_log
/-- 0:_law_refs 1:_law_m 2:_law_ref_here 3:_law_name -/
def b__law_stands : FS :=
    (sSeq (sIf (bOr (tB' (eBin neM (eMeth "Refs" "names" 1 0 (fun ms _ => ms) F_Refs_names (eVar 0) pN) (fun ρ A => ((aCons (eFrz (fun ρ A => ((aCons (eBin ixM (eVar 1) (eC (.str "table"))) aNil) ρ A).bind sortedL)) aNil) ρ A).bind tupleM))) (tB' (eBin neM (fun ρ A => ((aCons (eVar 0) aNil) ρ A).bind (lenO "Refs" F_Refs___len__)) (fun ρ A => ((aCons (eBin ixM (eVar 1) (eC (.str "table"))) aNil) ρ A).bind lenM))))
      (sRet (eC (.bl false)))
      sNext)
    (sSeq (sLk (eBin ixM (eVar 1) (eC (.str "table"))) (sFor (iAny (eBin ixM (eVar 1) (eC (.str "table")))) [2] gNm
      (sIf (bOr (tB' (eBin neM (eGetI "Refs" F_Refs___getitem__ (eVar 0) (eVar 2)) (eBin ixM (eBin ixM (eVar 1) (eC (.str "table"))) (eVar 2)))) (tB' (inO "Refs" F_Refs___contains__ true (eVar 2) (eVar 0))))
        (sRet (eC (.bl false)))
        sNext)))
    (sSeq (sIf (bOr (tB' (eBin neM (eMeth "Refs" "head" 1 0 (fun ms _ => ms) F_Refs_head (eVar 0) pN) (eBin ixM (eVar 1) (eC (.str "head"))))) (tB' (eBin neM (eMeth "Refs" "at_head" 1 0 (fun ms _ => ms) F_Refs_at_head (eVar 0) pN) (eCall 1 0 (fun ms _ => ms) F__law_at_head (pA (aCons (eVar 1) aNil))))))
      (sRet (eC (.bl false)))
      sNext)
    (sSeq (sFor (iFrz (eFrz (aCat (eFrz (fun ρ A => ((aCons (eBin ixM (eVar 1) (eC (.str "logs"))) aNil) ρ A).bind sortedL)) (eFrz (aLst (aCons (eC (.str "HEAD")) (aCons (eC (.str "never")) aNil))))))) [3] gNm
      (sIf (tB' (eBin neM (eMeth "Refs" "log" 2 0 (fun ms _ => ms) F_Refs_log (eVar 0) (pA (aCons (eVar 3) aNil))) (eGet2 (eBin ixM (eVar 1) (eC (.str "logs"))) (eVar 3) (eFrz (aLst aNil)))))
        (sRet (eC (.bl false)))
        sNext))
    (sRet (eC (.bl true)))))))
def F__law_stands : FF := defM 4 b__law_stands
/-- 0:_law_source_here 1:_law_size 2:_law_digit 3:_law_number -/
def b__law_draw : FS :=
    (sSeq (sIf (tB' (eBin gtM (eBin ixM (eVar 0) (eC (.int 0))) (eC (.int 0))))
      (sSeq (sSet 2 (eBin modM (fun ρ A => ((aCons (eBin ixM (eVar 0) (eC (.int 0))) aNil) ρ A).bind intM) (eVar 1)))
      (sSeq (sSub (eBin fdivM (eBin ixM (eVar 0) (eC (.int 0))) (eVar 1)) (eVar 0) (eC (.int 0)))
      (sRet (eVar 2))))
      sNext)
    (sSeq (sSub (eBin addM (eBin ixM (eVar 0) (eC (.int 2))) (eC (.int 1))) (eVar 0) (eC (.int 2)))
    (sSeq (sSet 3 (eBin modM (fun ρ A => ((aCons (eBin powM (eBin addM (eBin addM (eBin ixM (eVar 0) (eC (.int 1))) (eBin mulM (eC (.int 7919)) (eBin ixM (eVar 0) (eC (.int 2))))) (eC (.int 1))) (eC (.int 5))) aNil) ρ A).bind intM) (eC (.int 2147483629))))
    (sSeq (sSet 3 (eBin modM (fun ρ A => ((aCons (eBin mulM (eVar 3) (eBin addM (eBin addM (eBin fdivM (eVar 3) (eC (.int 1009))) (eC (.int 69621))) (eBin ixM (eVar 0) (eC (.int 2))))) aNil) ρ A).bind intM) (eC (.int 2147483587))))
    (sRet (eBin modM (fun ρ A => ((aCons (eBin fdivM (eBin modM (fun ρ A => ((aCons (eBin mulM (eVar 3) (eBin addM (eBin fdivM (eVar 3) (eC (.int 2003))) (eC (.int 40692)))) aNil) ρ A).bind intM) (eC (.int 2147483579))) (eC (.int 7))) aNil) ρ A).bind intM) (eVar 1)))))))
def F__law_draw : FF := defM 4 b__law_draw
/-- 0:_law_source_here 1:_law_items -/
def b__law_pick : FS :=
    (sRet (eBin ixM (eVar 1) (eCall 2 0 (fun ms _ => ms) F__law_draw (pA (aCons (eVar 0) (aCons (fun ρ A => ((aCons (eVar 1) aNil) ρ A).bind lenM) aNil))))))
def F__law_pick : FF := defM 2 b__law_pick
/-- 0:self 1:edit -/
def b_Refs_opened : FS :=
    (sSeq (sExpr (eApp (eFld "Refs" "edits" (eVar 0)) (eVar 1)))
    (sRet (fun ρ A => ((aCons (eFld "Refs" "edits" (eVar 0)) aNil) ρ A).bind lenM)))
def F_Refs_opened : FF := defM 2 b_Refs_opened
/-- 0:self 1:home 2:signed -/
def b_Edit___init__ : FS :=
    (sSeq (sFld "Edit" "home" (eVar 0) (eVar 1))
    (sSeq (sFld "Edit" "turn" (eVar 0) (eMeth "Refs" "opened" 2 0 (fun ms _ => ms) F_Refs_opened (eVar 1) (pA (aCons (eVar 0) aNil))))
    (sSeq (sFld "Edit" "signed" (eVar 0) (eVar 2))
    (sSeq (sFld "Edit" "calls" (eVar 0) eDict0)
    (sSeq (sFld "Edit" "grips" (eVar 0) (eRef (aLst aNil)))
    (sSeq (sFld "Edit" "stands" (eVar 0) (eC .non))
    (sSeq (sFld "Edit" "is_open" (eVar 0) (eC (.bl true)))
    (sFld "Edit" "keeper" (eVar 0) (eC .non)))))))))
def F_Edit___init__ : FF := defM 3 b_Edit___init__
/-- 0:self 1:who 2:time 3:message -/
def b_Refs_edit : FS :=
    (sSeq (sIf (bOr (bNot (tB' (eCall 1 0 (fun ms _ => ms) F_is_who (pA (aCons (eVar 1) aNil))))) (bOr (bNot (tB' (eCall 1 0 (fun ms _ => ms) F_is_time (pA (aCons (eVar 2) aNil))))) (bNot (tB' (eCall 2 0 (fun ms _ => ms) F_is_text (pA (aCons (eVar 3) (aCons (eC (.int 200)) aNil))))))))
      (sRaise "BadName" mk_BadName (eC (.str "who, time or message")))
      sNext)
    (sRet (eMake "Edit" 2 0 (fun ms _ => ms) F_Edit___init__ (pA (aCons (eVar 0) (aCons (eTup (aCons (eVar 1) (aCons (eVar 2) (aCons (eVar 3) aNil)))) aNil))))))
def F_Refs_edit : FF := defM 4 b_Refs_edit
/-- 0:_law_source_here 1:_law_some -/
def b__law_ref : FS :=
    (sSeq (sSet 1 (eFrz (aLst (aCons (eC (.str "main")) (aCons (eC (.str "a")) (aCons (eC (.str "a/b")) (aCons (eC (.str "a/b/c")) (aCons (eC (.str "ab")) (aCons (eC (.str "a/bc")) (aCons (eC (.str "x-1/0")) (aCons (eC (.str "main/sub")) (aCons (eC (.str "a-")) (aCons (eC (.str "a-b")) (aCons (eC (.str "a0")) (aCons (eC (.str "main-2")) aNil)))))))))))))))
    (sRet (eCall 2 0 (fun ms _ => ms) F__law_pick (pA (aCons (eVar 0) (aCons (eVar 1) aNil))))))
def F__law_ref : FF := defM 2 b__law_ref
/-- 0:_law_source_here -/
def b__law_id : FS :=
    (sRet (eCall 2 0 (fun ms _ => ms) F__law_pick (pA (aCons (eVar 0) (aCons (eFrz (aLst (aCons (eBin mulM (eC (.str "0")) (eC (.int 16))) (aCons (eBin mulM (eC (.str "f")) (eC (.int 16))) (aCons (eC (.str "0123456789abcdef")) (aCons (eC (.str "00000000000000aa")) aNil)))))) aNil)))))
def F__law_id : FF := defM 1 b__law_id
/-- 0:self -/
def b_Edit_check_open : FS :=
    (sIf (bNot (tB' (eFld "Edit" "is_open" (eVar 0))))
      (sRaise "BadCommand" mk_BadCommand (eC (.str "closed")))
      sNext)
def F_Edit_check_open : FF := defM 1 b_Edit_check_open
/-- 0:self 1:number* 2:others 3:edit 4:name -/
def b_Refs_locked_by_others : FS :=
    (sSeq (sLk (eFld "Refs" "edits" (eVar 0)) (sSet 2 (eFrz (aLc (iAny (eFld "Refs" "edits" (eVar 0))) [3] [3] gNm (qElt (bAnd (tB' (eFld "Edit" "is_open" (eVar 3))) (tB' (eBin neM (eFld "Edit" "turn" (eVar 3)) (eVar 1)))) (eVar 3))))))
    (sRet (eFrz (aLkD (aLc (iFrz (eVar 2)) [3, 4] [3] gNm (qIn bYes (iAny (eFld "Edit" "grips" (eVar 3))) [4] [4] gNm (qElt bYes (eVar 4))))))))
def F_Refs_locked_by_others : FF := defM 5 b_Refs_locked_by_others
/-- 0:one 1:other -/
def b_are_near : FS :=
    (sRet (eOr (eBin eqM (eVar 0) (eVar 1)) (eOr (eBin inM (eVar 0) (eCall 1 0 (fun ms _ => ms) F_above (pA (aCons (eVar 1) aNil)))) (eBin inM (eVar 1) (eCall 1 0 (fun ms _ => ms) F_above (pA (aCons (eVar 0) aNil)))))))
def F_are_near : FF := defM 2 b_are_near
/-- 0:self 1:name 2:other -/
def b_Edit_lock : FS :=
    (sSeq (sFor (iFrz (eFrz (fun ρ A => ((aCons (eMeth "Refs" "locked_by_others" 2 0 (fun ms _ => ms) F_Refs_locked_by_others (eFld "Edit" "home" (eVar 0)) (pA (aCons (eFld "Edit" "turn" (eVar 0)) aNil))) aNil) ρ A).bind sortedL))) [2] gNm
      (sIf (bIf (tB' (eBin inM (eC (.str "HEAD")) (eTup (aCons (eVar 1) (aCons (eVar 2) aNil))))) (tB' (eBin eqM (eVar 1) (eVar 2))) (tB' (eCall 2 0 (fun ms _ => ms) F_are_near (pA (aCons (eVar 1) (aCons (eVar 2) aNil))))))
        (sRaise "Locked" mk_Locked (eVar 2))
        sNext))
    (sExpr (eApp (eFld "Edit" "grips" (eVar 0)) (eVar 1))))
def F_Edit_lock : FF := defM 3 b_Edit_lock
/-- 0:self 1:ref 2:new 3:old -/
def b_Edit_call : FS :=
    (sSeq (sIf (bAnd (tB' (eBin notNM (eVar 3) (eC .non))) (bAnd (tB' (eBin neM (eVar 3) (eC (.str "")))) (bNot (tB' (eCall 1 0 (fun ms _ => ms) F_is_id (pA (aCons (eVar 3) aNil)))))))
      (sRaise "BadName" mk_BadName (eC (.str "old id")))
      sNext)
    (sSeq (sExpr (eMeth "Edit" "lock" 2 0 (fun ms _ => ms) F_Edit_lock (eVar 0) (pA (aCons (eVar 1) aNil))))
    (sSeq (sExpr (ePop2 (eFld "Edit" "calls" (eVar 0)) (eVar 1) (eC .non)))
    (sSub (eTup (aCons (eVar 2) (aCons (eVar 3) aNil))) (eFld "Edit" "calls" (eVar 0)) (eVar 1)))))
def F_Edit_call : FF := defM 4 b_Edit_call
/-- 0:self 1:ref 2:new 3:old -/
def b_Edit_point : FS :=
    (sSeq (sExpr (eMeth "Edit" "check_open" 1 0 (fun ms _ => ms) F_Edit_check_open (eVar 0) pN))
    (sSeq (sIf (bNot (tB' (eCall 1 0 (fun ms _ => ms) F_is_ref (pA (aCons (eVar 1) aNil)))))
      (sRaise "BadRef" mk_BadRef (eC (.str "no reference")))
      sNext)
    (sSeq (sIf (bNot (tB' (eCall 1 0 (fun ms _ => ms) F_is_id (pA (aCons (eVar 2) aNil)))))
      (sRaise "BadName" mk_BadName (eC (.str "new id")))
      sNext)
    (sExpr (eMeth "Edit" "call" 4 0 (fun ms _ => ms) F_Edit_call (eVar 0) (pA (aCons (eVar 1) (aCons (eVar 2) (aCons (eVar 3) aNil)))))))))
def F_Edit_point : FF := defM 4 b_Edit_point
/-- 0:self 1:ref 2:old -/
def b_Edit_delete : FS :=
    (sSeq (sExpr (eMeth "Edit" "check_open" 1 0 (fun ms _ => ms) F_Edit_check_open (eVar 0) pN))
    (sSeq (sIf (bNot (tB' (eCall 1 0 (fun ms _ => ms) F_is_ref (pA (aCons (eVar 1) aNil)))))
      (sRaise "BadRef" mk_BadRef (eC (.str "no reference")))
      sNext)
    (sExpr (eMeth "Edit" "call" 4 0 (fun ms _ => ms) F_Edit_call (eVar 0) (pA (aCons (eVar 1) (aCons (eC .non) (aCons (eVar 2) aNil))))))))
def F_Edit_delete : FF := defM 3 b_Edit_delete
/-- 0:self 1:word 2:name -/
def b_Edit_stand : FS :=
    (sSeq (sExpr (eMeth "Edit" "check_open" 1 0 (fun ms _ => ms) F_Edit_check_open (eVar 0) pN))
    (sSeq (sIf (bOr (bNot (tB' (fun ρ A => ((aCons (eVar 1) (aCons (eC (.ty "str")) aNil)) ρ A).bind isiM))) (tB' (eBin notInM (eVar 1) (eTup (aCons (eC (.str "ref")) (aCons (eC (.str "id")) aNil))))))
      (sRaise "BadName" mk_BadName (eC (.str "word")))
      sNext)
    (sSeq (sIf (bAnd (tB' (eBin eqM (eVar 1) (eC (.str "ref")))) (bNot (tB' (eCall 1 0 (fun ms _ => ms) F_is_ref (pA (aCons (eVar 2) aNil))))))
      (sRaise "BadRef" mk_BadRef (eC (.str "no reference")))
      sNext)
    (sSeq (sIf (bAnd (tB' (eBin eqM (eVar 1) (eC (.str "id")))) (bNot (tB' (eCall 1 0 (fun ms _ => ms) F_is_id (pA (aCons (eVar 2) aNil))))))
      (sRaise "BadName" mk_BadName (eC (.str "id")))
      sNext)
    (sSeq (sExpr (eMeth "Edit" "lock" 2 0 (fun ms _ => ms) F_Edit_lock (eVar 0) (pA (aCons (eC (.str "HEAD")) aNil))))
    (sFld "Edit" "stands" (eVar 0) (eTup (aCons (eVar 1) (aCons (eVar 2) aNil)))))))))
def F_Edit_stand : FF := defM 3 b_Edit_stand
/-- 0:_law_source_here 1:_law_edit 2:_law_m 3:_law_calls 4:_law_stands_here 5:_law_k 6:_law_way* 7:_law_ref_here* 8:_law_had 9:_law_call -/
def b__law_noted : FS :=
    (sSeq (sPar 3 4 (aCons (eRef (aLst aNil)) (aCons (eC .non) aNil)))
    (sSeq (sFor (Mv.iRng1 (aCons (eCall 2 0 (fun ms _ => ms) F__law_draw (pA (aCons (eVar 0) (aCons (eC (.int 5)) aNil)))) aNil)) [5] gNm
      (sSeq (sAsg (eTup (aCons (eCall 2 0 (fun ms _ => ms) F__law_draw (pA (aCons (eVar 0) (aCons (eC (.int 4)) aNil)))) (aCons (eCall 1 0 (fun ms _ => ms) F__law_ref (pA (aCons (eVar 0) aNil))) aNil))) [6, 7] (gTupM 2 (gConsM gNm (gConsM gNm gNilM))))
      (sSeq (sSet 8 (eCall 2 0 (fun ms _ => ms) F__law_pick (pA (aCons (eVar 0) (aCons (eFrz (aLst (aCons (eC (.str "")) (aCons (eC (.str "")) (aCons (eC (.str "")) (aCons (eGet1 (eBin ixM (eVar 2) (eC (.str "table"))) (eVar 7)) (aCons (eC .non) (aCons (eCall 1 0 (fun ms _ => ms) F__law_id (pA (aCons (eVar 0) aNil))) aNil)))))))) aNil)))))
      (sSeq (sLk (eVar 3) (sSet 3 (eRef (aLc (iAny (eVar 3)) [9] [9] gNm (qElt (bOr (tB' (eBin neM (eBin ixM (eVar 9) (eC (.int 0))) (eVar 7))) (tB' (eBin eqM (eVar 6) (eC (.int 3))))) (eVar 9))))))
      (sIf (tB' (eBin ltM (eVar 6) (eC (.int 2))))
        (sSeq (sExpr (eApp (eVar 3) (eTup (aCons (eVar 7) (aCons (eCall 1 0 (fun ms _ => ms) F__law_id (pA (aCons (eVar 0) aNil))) (aCons (eVar 8) aNil))))))
        (sExpr (eMeth "Edit" "point" 3 1 (gkw [none] [0]) F_Edit_point (eVar 1) (pAK (aCons (eVar 7) (aCons (eBin ixM (eBin ixM (eVar 3) (eUn negM (eC (.int 1)))) (eC (.int 1))) aNil)) (aCons (eVar 8) aNil)))))
        (sIf (tB' (eBin eqM (eVar 6) (eC (.int 2))))
          (sSeq (sExpr (eApp (eVar 3) (eTup (aCons (eVar 7) (aCons (eC .non) (aCons (eVar 8) aNil))))))
          (sExpr (eMeth "Edit" "delete" 2 1 (gkw [none] [0]) F_Edit_delete (eVar 1) (pAK (aCons (eVar 7) aNil) (aCons (eVar 8) aNil)))))
          (sSeq (sSet 4 (eCall 2 0 (fun ms _ => ms) F__law_pick (pA (aCons (eVar 0) (aCons (eFrz (aLst (aCons (eTup (aCons (eC (.str "ref")) (aCons (eVar 7) aNil))) (aCons (eTup (aCons (eC (.str "id")) (aCons (eCall 1 0 (fun ms _ => ms) F__law_id (pA (aCons (eVar 0) aNil))) aNil))) aNil)))) aNil)))))
          (sExpr (eMeth "Edit" "stand" 3 0 (fun ms _ => ms) F_Edit_stand (eVar 1) (pA (aCons (eBin ixM (eVar 4) (eC (.int 0))) (aCons (eBin ixM (eVar 4) (eC (.int 1))) aNil))))))))))))
    (sRet (eTup (aCons (eVar 3) (aCons (eVar 4) aNil))))))
def F__law_noted : FF := defM 10 b__law_noted
/-- 0:self -/
def b_Edit_drop : FS :=
    (sSeq (sExpr (eMeth "Edit" "check_open" 1 0 (fun ms _ => ms) F_Edit_check_open (eVar 0) pN))
    (sFld "Edit" "is_open" (eVar 0) (eC (.bl false))))
def F_Edit_drop : FF := defM 1 b_Edit_drop
/-- 0:self 1:values* 2:ref 3:new 4:old 5:prefix -/
def b_Edit_check : FS :=
    (sSeq (sExpr (eMeth "Edit" "check_open" 1 0 (fun ms _ => ms) F_Edit_check_open (eVar 0) pN))
    (sSeq (sSet 1 (fun ρ A => ((aCons (eFld "Refs" "table" (eFld "Edit" "home" (eVar 0))) aNil) ρ A).bind dictM))
    (sSeq (sLk (eFld "Edit" "calls" (eVar 0)) (sFor (Mv.iItems (eFld "Edit" "calls" (eVar 0))) [2, 3, 4] (gTupM 2 (gConsM gNm (gConsM (gTupM 2 (gConsM gNm (gConsM gNm gNilM))) gNilM)))
      (sIf (bAnd (tB' (eBin neM (eVar 4) (eC (.str "")))) (tB' (eBin neM (eGet1 (eFld "Refs" "table" (eFld "Edit" "home" (eVar 0))) (eVar 2)) (eVar 4))))
        (sRaise "Stale" mk_Stale (eVar 2))
        sNext)))
    (sSeq (sLk (eFld "Edit" "calls" (eVar 0)) (sFor (Mv.iItems (eFld "Edit" "calls" (eVar 0))) [2, 3, 4] (gTupM 2 (gConsM gNm (gConsM (gTupM 2 (gConsM gNm (gConsM gNm gNilM))) gNilM)))
      (sSeq (sExpr (ePop2 (eVar 1) (eVar 2) (eC .non)))
      (sIf (tB' (eBin notNM (eVar 3) (eC .non)))
        (sSub (eVar 3) (eVar 1) (eVar 2))
        sNext))))
    (sSeq (sIf (tB' (fun ρ A => ((aCons (eFrz (aLk (eVar 1) (aLc (iAny (eVar 1)) [2, 5] [2] gNm (qIn bYes (iFrz (eCall 1 0 (fun ms _ => ms) F_above (pA (aCons (eVar 2) aNil)))) [5] [5] gNm (qElt bYes (eBin inM (eVar 5) (eVar 1))))))) aNil) ρ A).bind (allM fun bs => bs.any id)))
      (sRaise "BadRef" mk_BadRef (eC (.str "one reference is a prefix of another")))
      sNext)
    (sRet (eVar 1)))))))
def F_Edit_check : FF := defM 6 b_Edit_check
/-- 0:self 1:values* 2:had* 3:names 4:ref -/
def b_Edit_moves : FS :=
    (sSeq (sAsg (eTup (aCons (eMeth "Edit" "check" 1 0 (fun ms _ => ms) F_Edit_check (eVar 0) pN) (aCons (eFld "Refs" "table" (eFld "Edit" "home" (eVar 0))) aNil))) [1, 2] (gTupM 2 (gConsM gNm (gConsM gNm gNilM))))
    (sSeq (sSet 3 (eFrz (aLc (iFrz (eFrz (fun ρ A => ((aCons (eFld "Edit" "calls" (eVar 0)) aNil) ρ A).bind sortedL))) [4] [4] gNm (qElt (tB' (eBin neM (eGet1 (eVar 2) (eVar 4)) (eGet1 (eVar 1) (eVar 4)))) (eVar 4)))))
    (sRet (fun ρ A => ((aCons (eFrz (aLc (iFrz (eVar 3)) [4] [4] gNm (qElt bYes (eTup (aCons (eVar 4) (aCons (eGet1 (eVar 2) (eVar 4)) (aCons (eGet1 (eVar 1) (eVar 4)) aNil))))))) aNil) ρ A).bind tupleM))))
def F_Edit_moves : FF := defM 5 b_Edit_moves
/-- 0:self* 1:values 2:logs 3:ref 4:name -/
def b_Refs_state : FS :=
    (sSeq (sSet 1 (fun ρ A => ((aCons (eFrz (aLc (iFrz (eFrz (fun ρ A => ((aCons (eFld "Refs" "table" (eVar 0)) aNil) ρ A).bind sortedL))) [3] [3] gNm (qElt bYes (eTup (aCons (eVar 3) (aCons (eBin ixM (eFld "Refs" "table" (eVar 0)) (eVar 3)) aNil)))))) aNil) ρ A).bind tupleP))
    (sSeq (sSet 2 (fun ρ A => ((aCons (eFrz (aLc (iFrz (eFrz (fun ρ A => ((aCons (eFld "Refs" "logs" (eVar 0)) aNil) ρ A).bind sortedL))) [4] [4] gNm (qElt (tB' (eBin neM (eBin ixM (eFld "Refs" "logs" (eVar 0)) (eVar 4)) (eFrz (aLst aNil)))) (eTup (aCons (eVar 4) (aCons (fun ρ A => ((aCons (eBin ixM (eFld "Refs" "logs" (eVar 0)) (eVar 4)) aNil) ρ A).bind tupleM) aNil)))))) aNil) ρ A).bind tupleM))
    (sRet (eTup (aCons (eVar 1) (aCons (eFld "Refs" "spot" (eVar 0)) (aCons (eVar 2) aNil)))))))
def F_Refs_state : FF := defM 5 b_Refs_state
/-- 0:self -/
def b_Refs_copied : FS :=
    (sRet (eMake "Refs" 1 0 (fun ms _ => ms) F_Refs___init__ (pA (aCons (eMeth "Refs" "state" 1 0 (fun ms _ => ms) F_Refs_state (eVar 0) pN) aNil))))
def F_Refs_copied : FF := defM 1 b_Refs_copied
/-- 0:self 1:name 2:entry -/
def b_Refs_note : FS :=
    (sSub (eFrz (aCat (eGet2 (eFld "Refs" "logs" (eVar 0)) (eVar 1) (eFrz (aLst aNil))) (eFrz (aLst (aCons (eVar 2) aNil))))) (eFld "Refs" "logs" (eVar 0)) (eVar 1))
def F_Refs_note : FF := defM 3 b_Refs_note
/-- 0:self 1:moves 2:other 3:was 4:ref 5:old 6:new -/
def b_Edit_behind : FS :=
    (sSeq (sSet 1 (eMeth "Edit" "moves" 1 0 (fun ms _ => ms) F_Edit_moves (eVar 0) pN))
    (sSeq (sSet 2 (eMeth "Refs" "copied" 1 0 (fun ms _ => ms) F_Refs_copied (eFld "Edit" "home" (eVar 0)) pN))
    (sSeq (sSet 3 (eMeth "Refs" "at_head" 1 0 (fun ms _ => ms) F_Refs_at_head (eVar 2) pN))
    (sSeq (sFld "Refs" "table" (eVar 2) (eMeth "Edit" "check" 1 0 (fun ms _ => ms) F_Edit_check (eVar 0) pN))
    (sSeq (sFld "Refs" "spot" (eVar 2) (eIf (tB' (eBin isNM (eFld "Edit" "stands" (eVar 0)) (eC .non))) (eFld "Refs" "spot" (eVar 2)) (eFld "Edit" "stands" (eVar 0))))
    (sSeq (sLk (eVar 1) (sFor (iAny (eVar 1)) [4, 5, 6] (gTupM 3 (gConsM gNm (gConsM gNm (gConsM gNm gNilM))))
      (sExpr (eMeth "Refs" "note" 3 0 (fun ms _ => ms) F_Refs_note (eVar 2) (pA (aCons (eVar 4) (aCons (eBin addM (eTup (aCons (eVar 5) (aCons (eVar 6) aNil))) (eFld "Edit" "signed" (eVar 0))) aNil)))))))
    (sSeq (sIf (bOr (tB' (eBin neM (eFld "Refs" "spot" (eVar 2)) (eFld "Refs" "spot" (eFld "Edit" "home" (eVar 0))))) (tB' (eBin neM (eMeth "Refs" "at_head" 1 0 (fun ms _ => ms) F_Refs_at_head (eVar 2) pN) (eVar 3))))
      (sExpr (eMeth "Refs" "note" 3 0 (fun ms _ => ms) F_Refs_note (eVar 2) (pA (aCons (eC (.str "HEAD")) (aCons (eBin addM (eTup (aCons (eVar 3) (aCons (eMeth "Refs" "at_head" 1 0 (fun ms _ => ms) F_Refs_at_head (eVar 2) pN) aNil))) (eFld "Edit" "signed" (eVar 0))) aNil)))))
      sNext)
    (sRet (eMeth "Refs" "state" 1 0 (fun ms _ => ms) F_Refs_state (eVar 2) pN)))))))))
def F_Edit_behind : FF := defM 7 b_Edit_behind
/-- 0:self 1:state 2:names 3:ref 4:old 5:new -/
def b_Edit_finish : FS :=
    (sSeq (sSet 1 (eMeth "Edit" "behind" 1 0 (fun ms _ => ms) F_Edit_behind (eVar 0) pN))
    (sSeq (sLk (eMeth "Edit" "moves" 1 0 (fun ms _ => ms) F_Edit_moves (eVar 0) pN) (sSet 2 (eRef (aLc (iAny (eMeth "Edit" "moves" 1 0 (fun ms _ => ms) F_Edit_moves (eVar 0) pN)) [3, 4, 5] [3, 4, 5] (gTupM 3 (gConsM gNm (gConsM gNm (gConsM gNm gNilM)))) (qElt (tB' (eBin notNM (eVar 5) (eC .non))) (eVar 5))))))
    (sSeq (sIf (bAnd (tB' (eBin notNM (eFld "Edit" "stands" (eVar 0)) (eC .non))) (tB' (eBin eqM (eBin ixM (eFld "Edit" "stands" (eVar 0)) (eC (.int 0))) (eC (.str "id")))))
      (sExpr (eApp (eVar 2) (eBin ixM (eFld "Edit" "stands" (eVar 0)) (eC (.int 1)))))
      sNext)
    (sSeq (sIf (tB' (eBin notNM (eFld "Edit" "keeper" (eVar 0)) (eC .non)))
      sBad
      sNext)
    (sSeq (sExpr (eMeth "Refs" "take" 2 0 (fun ms _ => ms) F_Refs_take (eFld "Edit" "home" (eVar 0)) (pA (aCons (eVar 1) aNil))))
    (sFld "Edit" "is_open" (eVar 0) (eC (.bl false))))))))
def F_Edit_finish : FF := defM 6 b_Edit_finish
/-- 0:_law_edit 1:e -/
def b__law_finished : FS :=
    (sSeq (sTry (sExpr (eMeth "Edit" "finish" 1 0 (fun ms _ => ms) F_Edit_finish (eVar 0) pN))
      [⟨errNames, subE "Stale", some 1, fun _ fs => (sRet (eTup (aCons (eC (.str "stale")) (aCons (eExf 1 fs "ref") aNil))))⟩, ⟨errNames, subE "BadRef", none, fun _ fs => (sRet (eTup (aCons (eC (.str "ref")) (aCons (eC .non) aNil))))⟩])
    (sRet (eC .non)))
def F__law_finished : FF := defM 2 b__law_finished
/-- 0:_law_ref_here 1:_law_parts* 2:_law_k -/
def b__law_above : FS :=
    (sSeq (sSet 1 (eFrz (aSplit (eVar 0) (eC (.str "/")))))
    (sRet (eFrz (aLc (Mv.iRng2 (aCons (eC (.int 1)) (aCons (fun ρ A => ((aCons (eVar 1) aNil) ρ A).bind lenM) aNil))) [2] [2] gNm (qElt bYes (eJoin (eC (.str "/")) (eFrz (aSl (eVar 1) oNone (oSome (eVar 2))))))))))
def F__law_above : FF := defM 3 b__law_above
/-- 0:_law_m 1:_law_calls 2:_law_stands_here 3:_law_signed 4:_law_ref_here 5:_law_value 6:_law_had 7:_law_new_here* 8:_law_entry 9:_law_prefix 10:_law_call -/
def b__law_behind : FS :=
    (sSeq (sLk (eVar 1) (sFor (iAny (eVar 1)) [4, 5, 6] (gTupM 3 (gConsM gNm (gConsM gNm (gConsM gNm gNilM))))
      (sIf (bAnd (tB' (eBin neM (eVar 6) (eC (.str "")))) (tB' (eBin neM (eGet1 (eBin ixM (eVar 0) (eC (.str "table"))) (eVar 4)) (eVar 6))))
        (sRet (eTup (aCons (eC (.str "stale")) (aCons (eVar 4) aNil))))
        sNext)))
    (sSeq (sSet 7 (eDisp [((eC (.str "table")), (fun ρ A => ((aCons (eBin ixM (eVar 0) (eC (.str "table"))) aNil) ρ A).bind dictM)), ((eC (.str "head")), (eBin ixM (eVar 0) (eC (.str "head")))), ((eC (.str "logs")), (fun ρ A => ((aCons (eBin ixM (eVar 0) (eC (.str "logs"))) aNil) ρ A).bind dictM))]))
    (sSeq (sLk (eVar 1) (sFor (iAny (eVar 1)) [4, 5, 6] (gTupM 3 (gConsM gNm (gConsM gNm (gConsM gNm gNilM))))
      (sSeq (sExpr (ePop2 (eBin ixM (eVar 7) (eC (.str "table"))) (eVar 4) (eC .non)))
      (sIf (tB' (eBin notNM (eVar 5) (eC .non)))
        (sSub (eVar 5) (eBin ixM (eVar 7) (eC (.str "table"))) (eVar 4))
        sNext))))
    (sSeq (sLk (eBin ixM (eVar 7) (eC (.str "table"))) (sFor (iAny (eBin ixM (eVar 7) (eC (.str "table")))) [4] gNm
      (sIf (tB' (eBin neM (eFrz (aLc (iFrz (eCall 1 0 (fun ms _ => ms) F__law_above (pA (aCons (eVar 4) aNil)))) [9] [9] gNm (qElt (tB' (eBin inM (eVar 9) (eBin ixM (eVar 7) (eC (.str "table"))))) (eVar 9)))) (eFrz (aLst aNil))))
        (sRet (eTup (aCons (eC (.str "ref")) (aCons (eC .non) aNil))))
        sNext)))
    (sSeq (sIf (tB' (eBin notNM (eVar 2) (eC .non)))
      (sSub (eVar 2) (eVar 7) (eC (.str "head")))
      sNext)
    (sSeq (sFor (iFrz (eFrz (fun ρ A => ((aCons (eFrz (aLk (eVar 1) (aLc (iAny (eVar 1)) [10] [10] gNm (qElt bYes (eBin ixM (eVar 10) (eC (.int 0))))))) aNil) ρ A).bind sortedL))) [4] gNm
      (sIf (tB' (eBin neM (eGet1 (eBin ixM (eVar 0) (eC (.str "table"))) (eVar 4)) (eGet1 (eBin ixM (eVar 7) (eC (.str "table"))) (eVar 4))))
        (sSeq (sSet 8 (eBin addM (eTup (aCons (eGet1 (eBin ixM (eVar 0) (eC (.str "table"))) (eVar 4)) (aCons (eGet1 (eBin ixM (eVar 7) (eC (.str "table"))) (eVar 4)) aNil))) (eVar 3)))
        (sSub (eFrz (aCat (eGet2 (eBin ixM (eVar 7) (eC (.str "logs"))) (eVar 4) (eFrz (aLst aNil))) (eFrz (aLst (aCons (eVar 8) aNil))))) (eBin ixM (eVar 7) (eC (.str "logs"))) (eVar 4)))
        sNext))
    (sSeq (sIf (bOr (tB' (eBin neM (eBin ixM (eVar 7) (eC (.str "head"))) (eBin ixM (eVar 0) (eC (.str "head"))))) (tB' (eBin neM (eCall 1 0 (fun ms _ => ms) F__law_at_head (pA (aCons (eVar 7) aNil))) (eCall 1 0 (fun ms _ => ms) F__law_at_head (pA (aCons (eVar 0) aNil))))))
      (sSeq (sSet 8 (eBin addM (eTup (aCons (eCall 1 0 (fun ms _ => ms) F__law_at_head (pA (aCons (eVar 0) aNil))) (aCons (eCall 1 0 (fun ms _ => ms) F__law_at_head (pA (aCons (eVar 7) aNil))) aNil))) (eVar 3)))
      (sSub (eFrz (aCat (eGet2 (eBin ixM (eVar 7) (eC (.str "logs"))) (eC (.str "HEAD")) (eFrz (aLst aNil))) (eFrz (aLst (aCons (eVar 8) aNil))))) (eBin ixM (eVar 7) (eC (.str "logs"))) (eC (.str "HEAD"))))
      sNext)
    (sRet (eVar 7)))))))))
def F__law_behind : FF := defM 11 b__law_behind
/-- 0:_law_source_here 1:_law_refs 2:_law_m 3:_law_signed 4:_law_edit 5:_law_calls 6:_law_stands_here 7:_law_due 8:_law_told -/
def b__law_edited : FS :=
    (sSeq (sSet 3 (eTup (aCons (eCall 2 0 (fun ms _ => ms) F__law_pick (pA (aCons (eVar 0) (aCons (eFrz (aLst (aCons (eC (.str "ann")) (aCons (eC (.str "b-1")) aNil)))) aNil)))) (aCons (eCall 2 0 (fun ms _ => ms) F__law_draw (pA (aCons (eVar 0) (aCons (eC (.int 100)) aNil)))) (aCons (eCall 2 0 (fun ms _ => ms) F__law_pick (pA (aCons (eVar 0) (aCons (eFrz (aLst (aCons (eC (.str "")) (aCons (eC (.str "note 1")) aNil)))) aNil)))) aNil)))))
    (sSeq (sSet 4 (eMeth "Refs" "edit" 4 0 (fun ms _ => ms) F_Refs_edit (eVar 1) (pA (aCons (eBin ixM (eVar 3) (eC (.int 0))) (aCons (eBin ixM (eVar 3) (eC (.int 1))) (aCons (eBin ixM (eVar 3) (eC (.int 2))) aNil))))))
    (sSeq (sAsg (eCall 3 0 (fun ms _ => ms) F__law_noted (pA (aCons (eVar 0) (aCons (eVar 4) (aCons (eVar 2) aNil))))) [5, 6] (gTupM 2 (gConsM gNm (gConsM gNm gNilM))))
    (sSeq (sIf (tB' (eBin eqM (eCall 2 0 (fun ms _ => ms) F__law_draw (pA (aCons (eVar 0) (aCons (eC (.int 6)) aNil)))) (eC (.int 0))))
      (sSeq (sExpr (eMeth "Edit" "drop" 1 0 (fun ms _ => ms) F_Edit_drop (eVar 4) pN))
      (sRet (eVar 2)))
      sNext)
    (sSeq (sPar 7 8 (aCons (eCall 4 0 (fun ms _ => ms) F__law_behind (pA (aCons (eVar 2) (aCons (eVar 5) (aCons (eVar 6) (aCons (eVar 3) aNil)))))) (aCons (eCall 1 0 (fun ms _ => ms) F__law_finished (pA (aCons (eVar 4) aNil))) aNil)))
    (sSeq (sIf (tB' (fun ρ A => ((aCons (eVar 7) (aCons (eC (.ty "tuple")) aNil)) ρ A).bind isiM))
      (sSeq (sExpr (eMeth "Edit" "drop" 1 0 (fun ms _ => ms) F_Edit_drop (eVar 4) pN))
      (sRet (eIf (tB' (eBin eqM (eVar 8) (eVar 7))) (eVar 2) (eC .non))))
      sNext)
    (sRet (eIf (tB' (eBin isNM (eVar 8) (eC .non))) (eVar 7) (eC .non)))))))))
def F__law_edited : FF := defM 9 b__law_edited
/-- 0:_law_script 1:_law_cell 2:_law_source_here 3:_law_refs 4:_law_m 5:_law_turn -/
def b_law : FS :=
    (sSeq (sFor (iFrz (eFrz (aCat (eFrz (aLst (aCons (eCall 2 0 (fun ms _ => ms) F__law_cell_at (pA (aCons (eVar 0) (aCons (eC (.int 0)) aNil)))) aNil))) (eFrz (aSl (eVar 0) (oSome (eC (.int 1))) (oSome (eC (.int 4)))))))) [1] gNm
      (sSeq (sSet 2 (eCall 1 0 (fun ms _ => ms) F__law_source (pA (aCons (eVar 1) aNil))))
      (sSeq (sPar 3 4 (aCons (eMake "Refs" 0 0 (fun ms _ => ms ++ [.non]) F_Refs___init__ pN) (aCons (eCall 0 0 (fun ms _ => ms) F__law_new pN) aNil)))
      (sSeq (sIf (bNot (tB' (eCall 2 0 (fun ms _ => ms) F__law_stands (pA (aCons (eVar 3) (aCons (eVar 4) aNil))))))
        (sRet (eC (.bl false)))
        sNext)
      (sFor (Mv.iRng1 (aCons (eBin addM (eC (.int 1)) (eCall 2 0 (fun ms _ => ms) F__law_draw (pA (aCons (eVar 2) (aCons (eC (.int 12)) aNil))))) aNil)) [5] gNm
        (sSeq (sSet 4 (eCall 3 0 (fun ms _ => ms) F__law_edited (pA (aCons (eVar 2) (aCons (eVar 3) (aCons (eVar 4) aNil))))))
        (sIf (bOr (tB' (eBin isNM (eVar 4) (eC .non))) (bNot (tB' (eCall 2 0 (fun ms _ => ms) F__law_stands (pA (aCons (eVar 3) (aCons (eVar 4) aNil)))))))
          (sRet (eC (.bl false)))
          sNext)))))))
    (sRet (eC (.bl true))))
def F_law : FF := defM 6 b_law
end Rf
namespace K31
open PySem PySem.Spec PyProof.Rows L2 Fk Mv Rf
abbrev PP : Program := PySem.Challenge.pw_forkhaul_k31_whole_edits_one_by_one
theorem topS : (PP.main.scope.names.lookup ("super" : Str)).isSome = false := by decide +kernel
section
variable {w : World} {K : PySem.W.Frag} {mg : Str → Option Value} {base : Heap}
theorem Ctx.err (T : Ctx K mg) (i : Nat) {e : ErrD} (h : errs[i]? = some e := by rfl) : ErrOk K e := by
  obtain ⟨h1, _⟩ := He.ba (show ((errs.all fun e => e.ok K) && _) = true from T.y.ex)
  exact ErrD.get (List.all_eq_true.mp h1 e (List.mem_of_getElem? h))
/-- the def over ValueError, with its default -/
theorem scF : ScI i_ForkError.scope i_ForkError.params "why" := ⟨by rfl, by rfl, by rfl, by rfl, by rfl, by rfl, by rfl, by decide +kernel, ⟨_, rfl, rfl⟩, by decide, by decide⟩
structure RootF (w : World) (K : PySem.W.Frag) (mg : Str → Option Value) (fd : FuncData) : Prop where
  s : SupFn PP K (fI K "ForkError") fd (He.ga K "ForkError")
  d : De1 fd "why" "why"
  b : ∀ (s : Shared) (a v : Value), K.In s.heap → BindsTo s fd ⟨[a, v], []⟩ [("self", a), ("why", v)]
  bk : ∀ (s : Shared) (a v : Value), K.In s.heap → BindsTo s fd ⟨[a], [("why", v)]⟩ [("self", a), ("why", v)]
  b0 : ∃ d : Value, RelV (.str "") d ∧ ∀ (s : Shared) (a : Value), K.In s.heap → BindsTo s fd ⟨[a], []⟩ [("self", a), ("why", d)]
theorem rootF (T : Ctx K mg) : ∃ fd, RootF w K mg fd := by
  obtain ⟨e, c⟩ := T.y.ini 0 (d := i_ForkError) rfl
  obtain ⟨fd, S, n1, clo, dV, n9, n10, n11, n12, n13, n14, rfl, hD⟩ := IniD.get (P := PP) e c scF topS
  have De : De1 ⟨n1, i_ForkError.qual, i_ForkError.params, .stmts i_ForkError.body, i_ForkError.scope, mainGlobals, clo, dV, n9, n10, n11, n12, n13, n14, builtinsNs⟩ "why" "why" := ⟨⟨_, _, _, _, _, _, _, _, _, _, fun f L => _, rfl, fun f L => by rfl⟩, scF.ky, fun x hx => of_decide_eq_true (List.all_eq_true.mp scF.cell x hx), scF.hy, scF.hyd, scF.co, scF.gen⟩
  rcases hD with ⟨e0, _⟩ | ⟨_, TT, o, its, m, rfl, lT, oT, rT⟩
  · cases e0
  · obtain ⟨d, rfl, rd⟩ := vals1 (x := V.str "") rT
    refine ⟨_, S, De, fun s a v X => BindsTo.of_looks fun M => ?_, fun s a v X => BindsTo.of_looks fun M => ?_, d, rd, fun s a X => BindsTo.of_looks fun M => ?_⟩
    · obtain ⟨k, e1, e2⟩ : ∃ k, bindArgs ⟨n1, i_ForkError.qual, i_ForkError.params, .stmts i_ForkError.body, i_ForkError.scope, mainGlobals, clo, .ref TT, n9, n10, n11, n12, n13, n14, builtinsNs⟩ ⟨[a, v], []⟩ = seqItems? (.ref TT) >>= k ∧ k (some [d].toArray) = pure [(("self" : Str), a), (("why" : Str), v)] := ⟨_, rfl, by kernel_rfl⟩
      rw [e1]
      exact looks_items X lT oT (.of_pure e2)
    · obtain ⟨k, e1, e2⟩ : ∃ k, bindArgs ⟨n1, i_ForkError.qual, i_ForkError.params, .stmts i_ForkError.body, i_ForkError.scope, mainGlobals, clo, .ref TT, n9, n10, n11, n12, n13, n14, builtinsNs⟩ ⟨[a], [("why", v)]⟩ = seqItems? (.ref TT) >>= k ∧ k (some [d].toArray) = pure [(("self" : Str), a), (("why" : Str), v)] := ⟨_, rfl, by kernel_rfl⟩
      rw [e1]
      exact looks_items X lT oT (.of_pure e2)
    · obtain ⟨k, e1, e2⟩ : ∃ k, bindArgs ⟨n1, i_ForkError.qual, i_ForkError.params, .stmts i_ForkError.body, i_ForkError.scope, mainGlobals, clo, .ref TT, n9, n10, n11, n12, n13, n14, builtinsNs⟩ ⟨[a], []⟩ = seqItems? (.ref TT) >>= k ∧ k (some [d].toArray) = pure [(("self" : Str), a), (("why" : Str), d)] := ⟨_, rfl, by kernel_rfl⟩
      rw [e1]
      exact looks_items X lT oT (.of_pure e2)
theorem mkW (T : Ctx K mg) {e : ErrD} (E : ErrOk K e) (h1 : e.own = "ForkError") (h2 : e.root = "ForkError") (h3 : e.fld2 = "why") : Mkr PP w K mg base (He.ga K e.cls) "why" fun x => [("why", x)] := by
  obtain ⟨fd, r⟩ := rootF (w := w) T
  have i1 := E.i1
  have ini := E.ini
  have ty := E.ty
  rw [h2, h3] at i1
  rw [h1] at ini ty
  exact ⟨eb e.key, fI K "ForkError", fd, E.c, ini, ty, (ini1 r.s r.d T.f_super i1).mono (by decide), r.b, r.bk⟩
/-- a def with one parameter and no default -/
theorem bind2 {n1 y : Str} {d : IniD} {clo : List (Str × Addr)} {dV n9 n10 n11 : Value} {n12 : Option Addr} {n13 n14 : Value} (hd : d.dfl = []) (hD : DflV K dV (d.dfl.map (He.Dv.v K)))
    (h1 : ∀ a v : Value, bindArgs ⟨n1, d.qual, d.params, .stmts d.body, d.scope, mainGlobals, clo, .none, n9, n10, n11, n12, n13, n14, builtinsNs⟩ ⟨[a, v], []⟩ = pure [(("self" : Str), a), (y, v)])
    (h2 : ∀ a v : Value, bindArgs ⟨n1, d.qual, d.params, .stmts d.body, d.scope, mainGlobals, clo, .none, n9, n10, n11, n12, n13, n14, builtinsNs⟩ ⟨[a], [(y, v)]⟩ = pure [(("self" : Str), a), (y, v)]) :
    (∀ (s : Shared) (a v : Value), K.In s.heap → BindsTo s ⟨n1, d.qual, d.params, .stmts d.body, d.scope, mainGlobals, clo, dV, n9, n10, n11, n12, n13, n14, builtinsNs⟩ ⟨[a, v], []⟩ [("self", a), (y, v)]) ∧
    ∀ (s : Shared) (a v : Value), K.In s.heap → BindsTo s ⟨n1, d.qual, d.params, .stmts d.body, d.scope, mainGlobals, clo, dV, n9, n10, n11, n12, n13, n14, builtinsNs⟩ ⟨[a], [(y, v)]⟩ [("self", a), (y, v)] := by
  rw [hd] at hD
  rcases hD with ⟨_, rfl⟩ | ⟨e, _⟩
  · exact ⟨fun s a v _ => .of_eq (h1 a v), fun s a v _ => .of_eq (h2 a v)⟩
  · exact absurd rfl e
theorem sc_Locked : ScI i_Locked.scope i_Locked.params "ref" := ⟨by rfl, by rfl, by rfl, by rfl, by rfl, by rfl, by rfl, by decide +kernel, ⟨_, rfl, rfl⟩, by decide, by decide⟩
theorem mkr_Locked (T : Ctx K mg) : Mkr PP w K mg base (He.ga K "Locked") "ref" fun x => [("ref", x), ("why", .str "locked")] := by
  obtain ⟨fd, r⟩ := rootF (w := w) T
  obtain ⟨e, c⟩ := T.y.ini 1 (d := i_Locked) rfl
  obtain ⟨fd1, S, n1, clo, dV, n9, n10, n11, n12, n13, n14, rfl, hD⟩ := IniD.get (P := PP) e c sc_Locked topS
  have E := T.err 4 (e := e_Locked)
  have De : De2 ⟨n1, i_Locked.qual, i_Locked.params, .stmts i_Locked.body, i_Locked.scope, mainGlobals, clo, dV, n9, n10, n11, n12, n13, n14, builtinsNs⟩ "ref" "ref" "locked" := ⟨⟨_, _, _, _, _, _, _, _, _, _, _, fun f L => _, rfl, fun f L => by rfl⟩, sc_Locked.ky, fun x hx => of_decide_eq_true (List.all_eq_true.mp sc_Locked.cell x hx), sc_Locked.hy, sc_Locked.hyd, sc_Locked.co, sc_Locked.gen⟩
  obtain ⟨b1, b2⟩ := bind2 (d := i_Locked) (y := "ref") (n1 := n1) (clo := clo) (n9 := n9) (n10 := n10) (n11 := n11) (n12 := n12) (n13 := n13) (n14 := n14) rfl hD (fun _ _ => by kernel_rfl) (fun _ _ => by kernel_rfl)
  exact ⟨ebV, fI K "Locked", _, E.c, E.ini, E.ty, ini2 S De r.s r.d r.b T.f_super (E.i2 (by decide)), b1, b2⟩
theorem sc_Stale : ScI i_Stale.scope i_Stale.params "ref" := ⟨by rfl, by rfl, by rfl, by rfl, by rfl, by rfl, by rfl, by decide +kernel, ⟨_, rfl, rfl⟩, by decide, by decide⟩
theorem mkr_Stale (T : Ctx K mg) : Mkr PP w K mg base (He.ga K "Stale") "ref" fun x => [("ref", x), ("why", .str "stale")] := by
  obtain ⟨fd, r⟩ := rootF (w := w) T
  obtain ⟨e, c⟩ := T.y.ini 2 (d := i_Stale) rfl
  obtain ⟨fd1, S, n1, clo, dV, n9, n10, n11, n12, n13, n14, rfl, hD⟩ := IniD.get (P := PP) e c sc_Stale topS
  have E := T.err 5 (e := e_Stale)
  have De : De2 ⟨n1, i_Stale.qual, i_Stale.params, .stmts i_Stale.body, i_Stale.scope, mainGlobals, clo, dV, n9, n10, n11, n12, n13, n14, builtinsNs⟩ "ref" "ref" "stale" := ⟨⟨_, _, _, _, _, _, _, _, _, _, _, fun f L => _, rfl, fun f L => by rfl⟩, sc_Stale.ky, fun x hx => of_decide_eq_true (List.all_eq_true.mp sc_Stale.cell x hx), sc_Stale.hy, sc_Stale.hyd, sc_Stale.co, sc_Stale.gen⟩
  obtain ⟨b1, b2⟩ := bind2 (d := i_Stale) (y := "ref") (n1 := n1) (clo := clo) (n9 := n9) (n10 := n10) (n11 := n11) (n12 := n12) (n13 := n13) (n14 := n14) rfl hD (fun _ _ => by kernel_rfl) (fun _ _ => by kernel_rfl)
  exact ⟨ebV, fI K "Stale", _, E.c, E.ini, E.ty, ini2 S De r.s r.d r.b T.f_super (E.i2 (by decide)), b1, b2⟩
theorem sc_NoRef : ScI i_NoRef.scope i_NoRef.params "name" := ⟨by rfl, by rfl, by rfl, by rfl, by rfl, by rfl, by rfl, by decide +kernel, ⟨_, rfl, rfl⟩, by decide, by decide⟩
theorem mkr_NoRef (T : Ctx K mg) : Mkr PP w K mg base (He.ga K "NoRef") "name" fun x => [("name", x)] := by
  obtain ⟨e, c⟩ := T.y.ini 3 (d := i_NoRef) rfl
  obtain ⟨fd1, S, n1, clo, dV, n9, n10, n11, n12, n13, n14, rfl, hD⟩ := IniD.get (P := PP) e c sc_NoRef topS
  have E := T.err 6 (e := e_NoRef)
  have De : De1 ⟨n1, i_NoRef.qual, i_NoRef.params, .stmts i_NoRef.body, i_NoRef.scope, mainGlobals, clo, dV, n9, n10, n11, n12, n13, n14, builtinsNs⟩ "name" "name" := ⟨⟨_, _, _, _, _, _, _, _, _, _, fun f L => _, rfl, fun f L => by rfl⟩, sc_NoRef.ky, fun x hx => of_decide_eq_true (List.all_eq_true.mp sc_NoRef.cell x hx), sc_NoRef.hy, sc_NoRef.hyd, sc_NoRef.co, sc_NoRef.gen⟩
  obtain ⟨b1, b2⟩ := bind2 (d := i_NoRef) (y := "name") (n1 := n1) (clo := clo) (n9 := n9) (n10 := n10) (n11 := n11) (n12 := n12) (n13 := n13) (n14 := n14) rfl hD (fun _ _ => by kernel_rfl) (fun _ _ => by kernel_rfl)
  exact ⟨ebK, fI K "NoRef", _, E.c, E.ini, E.ty, (ini1 S De T.f_super E.i1).mono (by decide), b1, b2⟩
theorem mkr_ForkError (T : Ctx K mg) : Mkr PP w K mg base (He.ga K "ForkError") "why" fun x => [("why", x)] := mkW T (T.err 0 (e := e_ForkError)) rfl rfl rfl
theorem rk_ForkError {K : PySem.W.Frag} {ι : Io} {H : Hp} {m : MV} {u : V} (r : RV K ι H m u) : RFs K ι H (mk_ForkError m) [("why", u)] := .cons r .nil
theorem mkr_BadName (T : Ctx K mg) : Mkr PP w K mg base (He.ga K "BadName") "why" fun x => [("why", x)] := mkW T (T.err 1 (e := e_BadName)) rfl rfl rfl
theorem rk_BadName {K : PySem.W.Frag} {ι : Io} {H : Hp} {m : MV} {u : V} (r : RV K ι H m u) : RFs K ι H (mk_BadName m) [("why", u)] := .cons r .nil
theorem mkr_BadRef (T : Ctx K mg) : Mkr PP w K mg base (He.ga K "BadRef") "why" fun x => [("why", x)] := mkW T (T.err 2 (e := e_BadRef)) rfl rfl rfl
theorem rk_BadRef {K : PySem.W.Frag} {ι : Io} {H : Hp} {m : MV} {u : V} (r : RV K ι H m u) : RFs K ι H (mk_BadRef m) [("why", u)] := .cons r .nil
theorem mkr_BadCommand (T : Ctx K mg) : Mkr PP w K mg base (He.ga K "BadCommand") "why" fun x => [("why", x)] := mkW T (T.err 3 (e := e_BadCommand)) rfl rfl rfl
theorem rk_BadCommand {K : PySem.W.Frag} {ι : Io} {H : Hp} {m : MV} {u : V} (r : RV K ι H m u) : RFs K ι H (mk_BadCommand m) [("why", u)] := .cons r .nil
theorem rk_Locked {K : PySem.W.Frag} {ι : Io} {H : Hp} {m : MV} {u : V} (r : RV K ι H m u) : RFs K ι H (mk_Locked m) [("ref", u), ("why", .str "locked")] := .cons r (.cons (.str _) .nil)
theorem rk_Stale {K : PySem.W.Frag} {ι : Io} {H : Hp} {m : MV} {u : V} (r : RV K ι H m u) : RFs K ι H (mk_Stale m) [("ref", u), ("why", .str "stale")] := .cons r (.cons (.str _) .nil)
theorem rk_NoRef {K : PySem.W.Frag} {ι : Io} {H : Hp} {m : MV} {u : V} (r : RV K ι H m u) : RFs K ι H (mk_NoRef m) [("name", u)] := .cons r .nil
theorem Ctx.exm (T : Ctx K mg) (i j : Nat) {e x : ErrD} (h : errs[i]? = some e := by rfl) (h' : errs[j]? = some x := by rfl) : PySem.W.exmOne K (.ref (He.ga K e.cls)) (.ref (He.ga K x.cls)) = some (subE x.cls e.cls) := by
  obtain ⟨_, h2⟩ := He.ba (show ((errs.all fun e => e.ok K) && _) = true from T.y.ex)
  obtain ⟨_, h3⟩ := He.ba h2
  obtain ⟨_, h4⟩ := He.ba h3
  obtain ⟨h4, _⟩ := He.ba h4
  exact of_decide_eq_true (List.all_eq_true.mp (List.all_eq_true.mp h4 e (List.mem_of_getElem? h)) x (List.mem_of_getElem? h'))
theorem mem_all {α : Type} {p : α → Prop} : ∀ {l : List α}, l.foldr (fun a r => p a ∧ r) True → ∀ c ∈ l, p c
  | [], _, _, h => by cases h
  | a :: l, ⟨h1, h2⟩, c, h => by
    cases h with
    | head => exact h1
    | tail _ h => exact mem_all h2 c h
theorem Ctx.xf (T : Ctx K mg) : ∀ c ∈ errNames, XfC K (He.ga K c) := mem_all ⟨(T.err 0 (e := e_ForkError)).xf, (T.err 1 (e := e_BadName)).xf, (T.err 2 (e := e_BadRef)).xf, (T.err 3 (e := e_BadCommand)).xf, (T.err 4 (e := e_Locked)).xf, (T.err 5 (e := e_Stale)).xf, (T.err 6 (e := e_NoRef)).xf, trivial⟩
theorem Ctx.exm_ForkError (T : Ctx K mg) : ∀ c ∈ errNames, PySem.W.exmOne K (.ref (He.ga K c)) (.ref (He.ga K "ForkError")) = some (subE "ForkError" c) := mem_all ⟨T.exm 0 0 (e := e_ForkError) (x := e_ForkError), T.exm 1 0 (e := e_BadName) (x := e_ForkError), T.exm 2 0 (e := e_BadRef) (x := e_ForkError), T.exm 3 0 (e := e_BadCommand) (x := e_ForkError), T.exm 4 0 (e := e_Locked) (x := e_ForkError), T.exm 5 0 (e := e_Stale) (x := e_ForkError), T.exm 6 0 (e := e_NoRef) (x := e_ForkError), trivial⟩
theorem Ctx.exm_BadName (T : Ctx K mg) : ∀ c ∈ errNames, PySem.W.exmOne K (.ref (He.ga K c)) (.ref (He.ga K "BadName")) = some (subE "BadName" c) := mem_all ⟨T.exm 0 1 (e := e_ForkError) (x := e_BadName), T.exm 1 1 (e := e_BadName) (x := e_BadName), T.exm 2 1 (e := e_BadRef) (x := e_BadName), T.exm 3 1 (e := e_BadCommand) (x := e_BadName), T.exm 4 1 (e := e_Locked) (x := e_BadName), T.exm 5 1 (e := e_Stale) (x := e_BadName), T.exm 6 1 (e := e_NoRef) (x := e_BadName), trivial⟩
theorem Ctx.exm_BadRef (T : Ctx K mg) : ∀ c ∈ errNames, PySem.W.exmOne K (.ref (He.ga K c)) (.ref (He.ga K "BadRef")) = some (subE "BadRef" c) := mem_all ⟨T.exm 0 2 (e := e_ForkError) (x := e_BadRef), T.exm 1 2 (e := e_BadName) (x := e_BadRef), T.exm 2 2 (e := e_BadRef) (x := e_BadRef), T.exm 3 2 (e := e_BadCommand) (x := e_BadRef), T.exm 4 2 (e := e_Locked) (x := e_BadRef), T.exm 5 2 (e := e_Stale) (x := e_BadRef), T.exm 6 2 (e := e_NoRef) (x := e_BadRef), trivial⟩
theorem Ctx.exm_BadCommand (T : Ctx K mg) : ∀ c ∈ errNames, PySem.W.exmOne K (.ref (He.ga K c)) (.ref (He.ga K "BadCommand")) = some (subE "BadCommand" c) := mem_all ⟨T.exm 0 3 (e := e_ForkError) (x := e_BadCommand), T.exm 1 3 (e := e_BadName) (x := e_BadCommand), T.exm 2 3 (e := e_BadRef) (x := e_BadCommand), T.exm 3 3 (e := e_BadCommand) (x := e_BadCommand), T.exm 4 3 (e := e_Locked) (x := e_BadCommand), T.exm 5 3 (e := e_Stale) (x := e_BadCommand), T.exm 6 3 (e := e_NoRef) (x := e_BadCommand), trivial⟩
theorem Ctx.exm_Locked (T : Ctx K mg) : ∀ c ∈ errNames, PySem.W.exmOne K (.ref (He.ga K c)) (.ref (He.ga K "Locked")) = some (subE "Locked" c) := mem_all ⟨T.exm 0 4 (e := e_ForkError) (x := e_Locked), T.exm 1 4 (e := e_BadName) (x := e_Locked), T.exm 2 4 (e := e_BadRef) (x := e_Locked), T.exm 3 4 (e := e_BadCommand) (x := e_Locked), T.exm 4 4 (e := e_Locked) (x := e_Locked), T.exm 5 4 (e := e_Stale) (x := e_Locked), T.exm 6 4 (e := e_NoRef) (x := e_Locked), trivial⟩
theorem Ctx.exm_Stale (T : Ctx K mg) : ∀ c ∈ errNames, PySem.W.exmOne K (.ref (He.ga K c)) (.ref (He.ga K "Stale")) = some (subE "Stale" c) := mem_all ⟨T.exm 0 5 (e := e_ForkError) (x := e_Stale), T.exm 1 5 (e := e_BadName) (x := e_Stale), T.exm 2 5 (e := e_BadRef) (x := e_Stale), T.exm 3 5 (e := e_BadCommand) (x := e_Stale), T.exm 4 5 (e := e_Locked) (x := e_Stale), T.exm 5 5 (e := e_Stale) (x := e_Stale), T.exm 6 5 (e := e_NoRef) (x := e_Stale), trivial⟩
theorem Ctx.exm_NoRef (T : Ctx K mg) : ∀ c ∈ errNames, PySem.W.exmOne K (.ref (He.ga K c)) (.ref (He.ga K "NoRef")) = some (subE "NoRef" c) := mem_all ⟨T.exm 0 6 (e := e_ForkError) (x := e_NoRef), T.exm 1 6 (e := e_BadName) (x := e_NoRef), T.exm 2 6 (e := e_BadRef) (x := e_NoRef), T.exm 3 6 (e := e_BadCommand) (x := e_NoRef), T.exm 4 6 (e := e_Locked) (x := e_NoRef), T.exm 5 6 (e := e_Stale) (x := e_NoRef), T.exm 6 6 (e := e_NoRef) (x := e_NoRef), trivial⟩
theorem Ctx.xn_Stale_ref (T : Ctx K mg) (c : Str) (h : subE "Stale" c = true) : PySem.W.findIn K (.ref (He.ga K c)) "ref" = some none := by
  have e : subE "Stale" c = (["Stale"] : List Str).contains c := rfl
  rw [e] at h
  have e2 : c = "Stale" := by simpa using h
  rw [e2]
  exact (T.err 5 (e := e_Stale)).no
theorem Ctx.xn_Locked_ref (T : Ctx K mg) (c : Str) (h : subE "Locked" c = true) : PySem.W.findIn K (.ref (He.ga K c)) "ref" = some none := by
  have e : subE "Locked" c = (["Locked"] : List Str).contains c := rfl
  rw [e] at h
  have e2 : c = "Locked" := by simpa using h
  rw [e2]
  exact (T.err 4 (e := e_Locked)).no
theorem Ctx.t_FIRST {X : Cx} {W : Wi} {pos : Pos} (T : Ctx X.K X.mg) (hg : Gl X "FIRST") : PE X (.Name "FIRST" pos) (tM X.K W (eC (.tup [.str "ref", .str "main"]))) := by
  obtain ⟨_, h2⟩ := He.ba (show ((errs.all fun e => e.ok X.K) && _) = true from T.y.ex)
  obtain ⟨_, h3⟩ := He.ba h2
  obtain ⟨h4, _⟩ := He.ba h3
  exact m_c (pe_glob (v := .ref (He.ga X.K "FIRST")) hg T.g_FIRST rfl) fun _ _ => .tup (.inr (He.tupB_ok h4 H0)) (.cons (.str _) (.cons (.str _) .nil))
theorem mem_of_lookup {a : Addr} {o : Obj} : ∀ {K : PySem.W.Frag}, K.lookup a = some o → (a, o) ∈ K
  | [], h => by cases h
  | p :: K, h => by
    rw [List.lookup_cons] at h
    split at h
    · rename_i e
      cases h
      have e2 : a = p.1 := by simpa using e
      rw [e2]
      exact List.mem_cons_self ..
    · exact List.mem_cons_of_mem _ (mem_of_lookup h)
theorem Ctx.noL (T : Ctx K mg) {a : Addr} {o : Obj} (h : K.lookup a = some o) : o.cls ≠ .type "list" := by
  obtain ⟨_, h2⟩ := He.ba (show ((errs.all fun e => e.ok K) && _) = true from T.y.ex)
  obtain ⟨_, h3⟩ := He.ba h2
  obtain ⟨_, h4⟩ := He.ba h3
  obtain ⟨_, h5⟩ := He.ba h4
  have := mem_of_lookup h
  have q := List.all_eq_true.mp h5 _ this
  exact fun z => by rw [z] at q; simp at q
end
end K31
namespace K31
open PySem PySem.Spec PyProof.Rows L2 Fk Mv Rf
section
variable {w : World} {K : PySem.W.Frag} {mg : Str → Option Value} {base : Heap}
abbrev N__law_cell_at : List Str := ["_law_script", "_law_k"]
theorem sc__law_cell_at : FnScope N__law_cell_at ["_law_script", "_law_k"] (defScope s__law_cell_at) := ⟨rfl, rfl, rfl, by decide +kernel, rfl, by decide +kernel, by decide +kernel⟩
theorem bn__law_cell_at {K : PySem.W.Frag} : BN K d__law_cell_at ["_law_script", "_law_k"] := fun fd F => FunD.bindsN F fun _ _ _ _ _ _ us hl => match us, hl with | [_, _], _ => rfl
theorem kb__law_cell_at_2 {K : PySem.W.Frag} : KB K d__law_cell_at ["_law_script", "_law_k"] 2 [] (fun ms _ => ms) := bn__law_cell_at.kb
theorem ok__law_cell_at (T : Ctx K mg) : OkM PP w K mg base 1 d__law_cell_at ["_law_script", "_law_k"] F__law_cell_at := ok_M (T.c.def_ 50 (d := d__law_cell_at) rfl) sc__law_cell_at fun cdv A outer s H E hr tk pp => by
  have nd := sc__law_cell_at.nd
  exact (mss_cons (ms_if (mt_cmp op_ltM (m_var 1) (m_len T.f_len (ma_cons (m_var 0) ma_nil)))
      (mss_one (ms_ret (m_ix (ix_M hr) (m_var 0) (m_var 1))))
      mss_nil)
    (mss_one (ms_ret m_int)))
abbrev N__law_source : List Str := ["_law_cell"]
theorem sc__law_source : FnScope N__law_source ["_law_cell"] (defScope s__law_source) := ⟨rfl, rfl, rfl, by decide +kernel, rfl, by decide +kernel, by decide +kernel⟩
theorem bn__law_source {K : PySem.W.Frag} : BN K d__law_source ["_law_cell"] := fun fd F => FunD.bindsN F fun _ _ _ _ _ _ us hl => match us, hl with | [_], _ => rfl
theorem kb__law_source_1 {K : PySem.W.Frag} : KB K d__law_source ["_law_cell"] 1 [] (fun ms _ => ms) := bn__law_source.kb
theorem ok__law_source (T : Ctx K mg) : OkM PP w K mg base 1 d__law_source ["_law_cell"] F__law_source := ok_M (T.c.def_ 51 (d := d__law_source) rfl) sc__law_source fun cdv A outer s H E hr tk pp => by
  have nd := sc__law_source.nd
  exact (mss_one (ms_ret (m_ref (ml_lst (ma_cons (m_op op_mulM (m_var 0) (m_int1 T.f_int (ma_cons (m_cmp op_geM (m_var 0) (m_op op_powM m_int m_int)) ma_nil))) (ma_cons (m_op op_modM (m_int1 T.f_int (ma_cons (m_var 0) ma_nil)) m_int) (ma_cons m_int ma_nil)))))))
abbrev N__law_new : List Str := []
theorem sc__law_new : FnScope N__law_new [] (defScope s__law_new) := ⟨rfl, rfl, rfl, by decide +kernel, rfl, by decide +kernel, by decide +kernel⟩
theorem bn__law_new {K : PySem.W.Frag} : BN K d__law_new [] := fun fd F => FunD.bindsN F fun _ _ _ _ _ _ us hl => match us, hl with | [], _ => rfl
theorem kb__law_new_0 {K : PySem.W.Frag} : KB K d__law_new [] 0 [] (fun ms _ => ms) := bn__law_new.kb
theorem ok__law_new (T : Ctx K mg) : OkM PP w K mg base 1 d__law_new [] F__law_new := ok_M (T.c.def_ 56 (d := d__law_new) rfl) sc__law_new fun cdv A outer s H E hr tk pp => by
  have nd := sc__law_new.nd
  exact (mss_one (ms_ret (m_disp (ps := [((eC (.str "table")), eDict0), ((eC (.str "head")), (eTup (aCons (eC (.str "ref")) (aCons (eC (.str "main")) aNil)))), ((eC (.str "logs")), eDict0)]) (pps_cons m_str m_dict0 (pps_cons m_str (m_tup (ma_cons m_str (ma_cons m_str ma_nil))) (pps_cons m_str m_dict0 pps_nil))))))
abbrev N_has_only : List Str := ["text", "signs", "sign"]
theorem sc_has_only : FnScope N_has_only ["text", "signs"] (defScope s_has_only) := ⟨rfl, rfl, rfl, by decide +kernel, rfl, by decide +kernel, by decide +kernel⟩
theorem bn_has_only {K : PySem.W.Frag} : BN K d_has_only ["text", "signs"] := fun fd F => FunD.bindsN F fun _ _ _ _ _ _ us hl => match us, hl with | [_, _], _ => rfl
theorem kb_has_only_2 {K : PySem.W.Frag} : KB K d_has_only ["text", "signs"] 2 [] (fun ms _ => ms) := bn_has_only.kb
theorem ok_has_only (T : Ctx K mg) : OkM PP w K mg base 1 d_has_only ["text", "signs"] F_has_only := ok_M (T.c.def_ 4 (d := d_has_only) rfl) sc_has_only fun cdv A outer s H E hr tk pp => by
  have nd := sc_has_only.nd
  exact (mss_one (ms_ret (m_all rfl T.f_all (ma_cons (m_frz (ml_lk (ml_lc (own := [("sign", 2)]) (is := [2]) (g := gNm) rfl nd (mi_any (m_var 0)) (blkOk_by (own := [("sign", 2)]) (N := N_has_only) (sc := defScope s_has_only) (by decide +kernel)) (by decide) (fun _ _ _ _ _ => (tg_name (i := 2) nd)) (fun _ _ _ _ _ => mts_nil) (fun _ _ _ _ _ => (m_cmp (op_inM hr) (m_var 2) (m_var 1)))))) ma_nil))))
abbrev N_is_id : List Str := ["thing"]
theorem sc_is_id : FnScope N_is_id ["thing"] (defScope s_is_id) := ⟨rfl, rfl, rfl, by decide +kernel, rfl, by decide +kernel, by decide +kernel⟩
theorem bn_is_id {K : PySem.W.Frag} : BN K d_is_id ["thing"] := fun fd F => FunD.bindsN F fun _ _ _ _ _ _ us hl => match us, hl with | [_], _ => rfl
theorem kb_is_id_1 {K : PySem.W.Frag} : KB K d_is_id ["thing"] 1 [] (fun ms _ => ms) := bn_is_id.kb
theorem ok_is_id (T : Ctx K mg) : OkM PP w K mg base 2 d_is_id ["thing"] F_is_id := ok_M (T.c.def_ 5 (d := d_is_id) rfl) sc_is_id fun cdv A outer s H E hr tk pp => by
  have nd := sc_is_id.nd
  exact (mss_one (ms_ret (m_and (m_isi T.f_isinstance (ma_cons (m_var 0) (ma_cons (m_ty T.f_str bt_str) ma_nil))) (m_and (m_cmp (op_eqM hr) (m_len T.f_len (ma_cons (m_var 0) ma_nil)) (m_c (T.c_ID_LENGTH rfl) fun _ _ => .int _)) (m_one (c_call (ok_has_only T) kb_has_only_2 (hr.mono (by decide)) T.g_has_only tk (am_p (ma_cons (m_var 0) (ma_cons (m_c (T.c_HEX rfl) fun _ _ => .str _) ma_nil)))))))))
abbrev N_is_ref_segment : List Str := ["thing"]
theorem sc_is_ref_segment : FnScope N_is_ref_segment ["thing"] (defScope s_is_ref_segment) := ⟨rfl, rfl, rfl, by decide +kernel, rfl, by decide +kernel, by decide +kernel⟩
theorem bn_is_ref_segment {K : PySem.W.Frag} : BN K d_is_ref_segment ["thing"] := fun fd F => FunD.bindsN F fun _ _ _ _ _ _ us hl => match us, hl with | [_], _ => rfl
theorem kb_is_ref_segment_1 {K : PySem.W.Frag} : KB K d_is_ref_segment ["thing"] 1 [] (fun ms _ => ms) := bn_is_ref_segment.kb
theorem ok_is_ref_segment (T : Ctx K mg) : OkM PP w K mg base 2 d_is_ref_segment ["thing"] F_is_ref_segment := ok_M (T.c.def_ 6 (d := d_is_ref_segment) rfl) sc_is_ref_segment fun cdv A outer s H E hr tk pp => by
  have nd := sc_is_ref_segment.nd
  exact (mss_one (ms_ret (m_and (m_chain op_leM op_leM m_int (m_len T.f_len (ma_cons (m_var 0) ma_nil)) (m_c (T.c_MOST_SEGMENT rfl) fun _ _ => .int _)) (m_one (c_call (ok_has_only T) kb_has_only_2 (hr.mono (by decide)) T.g_has_only tk (am_p (ma_cons (m_var 0) (ma_cons (m_op op_addM (m_op op_addM (m_c (T.c_SMALL rfl) fun _ _ => .str _) (m_c (T.c_DIGITS rfl) fun _ _ => .str _)) m_str) ma_nil))))))))
abbrev N_is_ref : List Str := ["thing", "segments", "most", "one"]
theorem sc_is_ref : FnScope N_is_ref ["thing"] (defScope s_is_ref) := ⟨rfl, rfl, rfl, by decide +kernel, rfl, by decide +kernel, by decide +kernel⟩
theorem bn_is_ref {K : PySem.W.Frag} : BN K d_is_ref ["thing"] := fun fd F => FunD.bindsN F fun _ _ _ _ _ _ us hl => match us, hl with | [_], _ => rfl
theorem kb_is_ref_1 {K : PySem.W.Frag} : KB K d_is_ref ["thing"] 1 [] (fun ms _ => ms) := bn_is_ref.kb
theorem ok_is_ref (T : Ctx K mg) : OkM PP w K mg base 3 d_is_ref ["thing"] F_is_ref := ok_M (T.c.def_ 7 (d := d_is_ref) rfl) sc_is_ref fun cdv A outer s H E hr tk pp => by
  have nd := sc_is_ref.nd
  exact (mss_cons (ms_if (mt_not (mt_val (m_isi T.f_isinstance (ma_cons (m_var 0) (ma_cons (m_ty T.f_str bt_str) ma_nil)))))
      (mss_one (ms_ret m_bl))
      mss_nil)
    (mss_cons (ms_set (i := 1) nd (m_frz (ml_split (m_var 0) m_str)))
    (mss_cons (ms_set (i := 2) nd (m_if (mt_cmp (op_eqM hr) (m_ix (ix_M hr) (m_var 1) m_int) (m_c (T.c_FAR rfl) fun _ _ => .str _)) (m_c (T.c_MOST_FAR_SEGMENTS rfl) fun _ _ => .int _) (m_c (T.c_MOST_REF_SEGMENTS rfl) fun _ _ => .int _)))
    (mss_one (ms_ret (m_and (m_cmp op_leM (m_len T.f_len (ma_cons (m_var 1) ma_nil)) (m_var 2)) (m_one (m_all rfl T.f_all (ma_cons (m_frz (ml_lc (own := [("one", 3)]) (is := [3]) (g := gNm) rfl nd (mi_frz (m_var 1)) (blkOk_by (own := [("one", 3)]) (N := N_is_ref) (sc := defScope s_is_ref) (by decide +kernel)) (by decide) (fun _ _ _ _ _ => (tg_name (i := 3) nd)) (fun _ _ _ _ _ => mts_nil) (fun _ _ _ _ _ => (c_call (ok_is_ref_segment T) kb_is_ref_segment_1 (hr.mono (by decide)) T.g_is_ref_segment tk0 (am_p (ma_cons (m_var 3) ma_nil)))))) ma_nil)))))))))
abbrev N_is_place : List Str := ["thing"]
theorem sc_is_place : FnScope N_is_place ["thing"] (defScope s_is_place) := ⟨rfl, rfl, rfl, by decide +kernel, rfl, by decide +kernel, by decide +kernel⟩
theorem bn_is_place {K : PySem.W.Frag} : BN K d_is_place ["thing"] := fun fd F => FunD.bindsN F fun _ _ _ _ _ _ us hl => match us, hl with | [_], _ => rfl
theorem kb_is_place_1 {K : PySem.W.Frag} : KB K d_is_place ["thing"] 1 [] (fun ms _ => ms) := bn_is_place.kb
theorem ok_is_place (T : Ctx K mg) : OkM PP w K mg base 4 d_is_place ["thing"] F_is_place := ok_M (T.c.def_ 25 (d := d_is_place) rfl) sc_is_place fun cdv A outer s H E hr tk pp => by
  have nd := sc_is_place.nd
  exact (mss_cons (ms_if (PW.pt (mw_or (mt_not (mt_val (m_isi T.f_isinstance (ma_cons (m_var 0) (ma_cons (m_ty T.f_tuple bt_tuple) ma_nil))))) (mw_or (mt_cmp (op_neM hr) (m_len T.f_len (ma_cons (m_var 0) ma_nil)) m_int) (mw_or1 (mt_not (mt_val (m_isi T.f_isinstance (ma_cons (m_ix (ix_M hr) (m_var 0) m_int) (ma_cons (m_ty T.f_str bt_str) ma_nil)))))))))
      (mss_one (ms_ret m_bl))
      mss_nil)
    (mss_one (ms_ret (m_or (m_and (m_cmp (op_eqM hr) (m_ix (ix_M hr) (m_var 0) m_int) m_str) (m_one (c_call (ok_is_ref T) kb_is_ref_1 (hr.mono (by decide)) T.g_is_ref tk (am_p (ma_cons (m_ix (ix_M hr) (m_var 0) m_int) ma_nil))))) (m_one (m_and (m_cmp (op_eqM hr) (m_ix (ix_M hr) (m_var 0) m_int) m_str) (m_one (c_call (ok_is_id T) kb_is_id_1 (hr.mono (by decide)) T.g_is_id tk (am_p (ma_cons (m_ix (ix_M hr) (m_var 0) m_int) ma_nil))))))))))
abbrev N_are_pairs : List Str := ["thing", "names", "pair", "name", "one", "other"]
theorem sc_are_pairs : FnScope N_are_pairs ["thing"] (defScope s_are_pairs) := ⟨rfl, rfl, rfl, by decide +kernel, rfl, by decide +kernel, by decide +kernel⟩
theorem bn_are_pairs {K : PySem.W.Frag} : BN K d_are_pairs ["thing"] := fun fd F => FunD.bindsN F fun _ _ _ _ _ _ us hl => match us, hl with | [_], _ => rfl
theorem kb_are_pairs_1 {K : PySem.W.Frag} : KB K d_are_pairs ["thing"] 1 [] (fun ms _ => ms) := bn_are_pairs.kb
theorem ok_are_pairs (T : Ctx K mg) : OkM PP w K mg base 1 d_are_pairs ["thing"] F_are_pairs := ok_M (T.c.def_ 30 (d := d_are_pairs) rfl) sc_are_pairs fun cdv A outer s H E hr tk pp => by
  have nd := sc_are_pairs.nd
  exact (mss_cons (ms_if (PW.pt (mw_or (mt_not (mt_val (m_isi T.f_isinstance (ma_cons (m_var 0) (ma_cons (m_ty T.f_tuple bt_tuple) ma_nil))))) (mw_or1 (mt_not (mt_val (m_all rfl T.f_all (ma_cons (m_frz (ml_lk (ml_lc (own := [("pair", 2)]) (is := [2]) (g := gNm) rfl nd (mi_any (m_var 0)) (blkOk_by (own := [("pair", 2)]) (N := N_are_pairs) (sc := defScope s_are_pairs) (by decide +kernel)) (by decide) (fun _ _ _ _ _ => (tg_name (i := 2) nd)) (fun _ _ _ _ _ => mts_nil) (fun _ _ _ _ _ => (m_and (m_isi T.f_isinstance (ma_cons (m_var 2) (ma_cons (m_ty T.f_tuple bt_tuple) ma_nil))) (m_one (m_cmp (op_eqM hr) (m_len T.f_len (ma_cons (m_var 2) ma_nil)) m_int))))))) ma_nil)))))))
      (mss_one (ms_ret m_bl))
      mss_nil)
    (mss_cons (ms_lk tk fun _ tk => (ms_setLc (i := 1) (own := [("pair", 2)]) (is := [2]) (g := gNm) rfl nd rfl rfl (sw_true rfl rfl rfl (by decide +kernel)) (mi_any (m_var 0)) (blkOk_by (own := [("pair", 2)]) (N := N_are_pairs) (sc := defScope s_are_pairs) (by decide +kernel)) (by decide) (fun _ _ _ _ _ => (tg_name (i := 2) nd)) (fun _ _ _ _ _ => mts_nil) (fun _ _ _ _ _ => (m_ix (ix_M hr) (m_var 2) m_int))))
    (mss_cons (ms_if (mt_not (mt_val (m_all rfl T.f_all (ma_cons (m_frz (ml_lc (own := [("name", 3)]) (is := [3]) (g := gNm) rfl nd (mi_frz (m_var 1)) (blkOk_by (own := [("name", 3)]) (N := N_are_pairs) (sc := defScope s_are_pairs) (by decide +kernel)) (by decide) (fun _ _ _ _ _ => (tg_name (i := 3) nd)) (fun _ _ _ _ _ => mts_nil) (fun _ _ _ _ _ => (m_isi T.f_isinstance (ma_cons (m_var 3) (ma_cons (m_ty T.f_str bt_str) ma_nil)))))) ma_nil))))
      (mss_one (ms_ret m_bl))
      mss_nil)
    (mss_one (ms_ret (m_all rfl T.f_all (ma_cons (m_frz (ml_lc (own := [("one", 4), ("other", 5)]) (is := [4, 5]) (g := (gTupM 2 (gConsM gNm (gConsM gNm gNilM)))) rfl nd (mi_zip T.f_zip (ma_cons (m_var 1) (ma_cons (m_frz (ml_slice (m_var 1) (mo_some m_int) mo_none)) ma_nil))) (blkOk_by (own := [("one", 4), ("other", 5)]) (N := N_are_pairs) (sc := defScope s_are_pairs) (by decide +kernel)) (by decide) (fun _ _ _ _ _ => (tg_tup rfl (tgs_cons (tg_name (i := 4) nd) (tgs_cons (tg_name (i := 5) nd) tgs_nil)))) (fun _ _ _ _ _ => mts_nil) (fun _ _ _ _ _ => (m_cmp op_ltM (m_var 4) (m_var 5))))) ma_nil)))))))
abbrev N_above : List Str := ["path", "segments", "count"]
theorem sc_above : FnScope N_above ["path"] (defScope s_above) := ⟨rfl, rfl, rfl, by decide +kernel, rfl, by decide +kernel, by decide +kernel⟩
theorem bn_above {K : PySem.W.Frag} : BN K d_above ["path"] := fun fd F => FunD.bindsN F fun _ _ _ _ _ _ us hl => match us, hl with | [_], _ => rfl
theorem kb_above_1 {K : PySem.W.Frag} : KB K d_above ["path"] 1 [] (fun ms _ => ms) := bn_above.kb
theorem ok_above (T : Ctx K mg) : OkM PP w K mg base 1 d_above ["path"] F_above := ok_M (T.c.def_ 9 (d := d_above) rfl) sc_above fun cdv A outer s H E hr tk pp => by
  have nd := sc_above.nd
  exact (mss_cons (ms_set (i := 1) nd (m_frz (ml_split (m_var 0) m_str)))
    (mss_one (ms_ret (m_frz (ml_lc (own := [("count", 2)]) (is := [2]) (g := gNm) rfl nd (mi_range2 T.f_range (ma_cons m_int (ma_cons (m_len T.f_len (ma_cons (m_var 1) ma_nil)) ma_nil))) (blkOk_by (own := [("count", 2)]) (N := N_above) (sc := defScope s_above) (by decide +kernel)) (by decide) (fun _ _ _ _ _ => (tg_name (i := 2) nd)) (fun _ _ _ _ _ => mts_nil) (fun _ _ _ _ _ => (m_join m_str (m_frz (ml_slice (m_var 1) mo_none (mo_some (m_var 2)))))))))))
abbrev N_are_apart : List Str := ["names", "name", "prefix"]
theorem sc_are_apart : FnScope N_are_apart ["names"] (defScope s_are_apart) := ⟨rfl, rfl, rfl, by decide +kernel, rfl, by decide +kernel, by decide +kernel⟩
theorem bn_are_apart {K : PySem.W.Frag} : BN K d_are_apart ["names"] := fun fd F => FunD.bindsN F fun _ _ _ _ _ _ us hl => match us, hl with | [_], _ => rfl
theorem kb_are_apart_1 {K : PySem.W.Frag} : KB K d_are_apart ["names"] 1 [] (fun ms _ => ms) := bn_are_apart.kb
theorem ok_are_apart (T : Ctx K mg) : OkM PP w K mg base 2 d_are_apart ["names"] F_are_apart := ok_M (T.c.def_ 31 (d := d_are_apart) rfl) sc_are_apart fun cdv A outer s H E hr tk pp => by
  have nd := sc_are_apart.nd
  exact (mss_one (ms_ret (m_not (m_any rfl T.f_any (ma_cons (m_frz (ml_lk (ml_lc2 (own := [("name", 1), ("prefix", 2)]) (vs1 := [2]) (is := [1]) (is1 := [2]) rfl nd (mi_any (m_var 0)) (blkOk_by (own := [("name", 1), ("prefix", 2)]) (N := N_are_apart) (sc := defScope s_are_apart) (by decide +kernel)) (by decide) (by decide) (by decide) (fun _ _ _ _ _ => (tg_name (i := 1) nd)) (fun _ _ _ _ _ => mts_nil) (fun _ _ _ _ _ => (mi_frz (c_call (ok_above T) kb_above_1 (hr.mono (by decide)) T.g_above tk0 (am_p (ma_cons (m_var 1) ma_nil))))) (fun _ _ _ _ _ => (tg_name (i := 2) nd)) (fun _ _ _ _ _ => mts_nil) (fun _ _ _ _ _ => (m_cmp (op_inM hr) (m_var 2) (m_var 0)))))) ma_nil)))))
abbrev N_is_value : List Str := ["thing"]
theorem sc_is_value : FnScope N_is_value ["thing"] (defScope s_is_value) := ⟨rfl, rfl, rfl, by decide +kernel, rfl, by decide +kernel, by decide +kernel⟩
theorem bn_is_value {K : PySem.W.Frag} : BN K d_is_value ["thing"] := fun fd F => FunD.bindsN F fun _ _ _ _ _ _ us hl => match us, hl with | [_], _ => rfl
theorem kb_is_value_1 {K : PySem.W.Frag} : KB K d_is_value ["thing"] 1 [] (fun ms _ => ms) := bn_is_value.kb
theorem ok_is_value (T : Ctx K mg) : OkM PP w K mg base 3 d_is_value ["thing"] F_is_value := ok_M (T.c.def_ 27 (d := d_is_value) rfl) sc_is_value fun cdv A outer s H E hr tk pp => by
  have nd := sc_is_value.nd
  exact (mss_one (ms_ret (m_or (m_cmp op_isNM (m_var 0) m_non) (m_one (c_call (ok_is_id T) kb_is_id_1 (hr.mono (by decide)) T.g_is_id tk (am_p (ma_cons (m_var 0) ma_nil)))))))
abbrev N_is_text : List Str := ["thing", "most", "sign"]
theorem sc_is_text : FnScope N_is_text ["thing", "most"] (defScope s_is_text) := ⟨rfl, rfl, rfl, by decide +kernel, rfl, by decide +kernel, by decide +kernel⟩
theorem kb_is_text_2 {K : PySem.W.Frag} : KB K d_is_text ["thing", "most"] 2 [] (fun ms _ => ms) := fun fd F => by
  obtain ⟨ds, r, B⟩ := FunD.binds1 (ps := ["thing", "most"]) F 2 1 (by intro h; cases h) rfl fun _ _ _ _ _ _ _ us its h1 h2 => match us, h1, its, h2 with | [_, _], _, [_], _ => ⟨_, rfl, rfl⟩
  cases r
  exact kbm_all B
theorem ok_is_text (T : Ctx K mg) : OkM PP w K mg base 1 d_is_text ["thing", "most"] F_is_text := ok_M (T.c.def_ 8 (d := d_is_text) rfl) sc_is_text fun cdv A outer s H E hr tk pp => by
  have nd := sc_is_text.nd
  exact (mss_cons (ms_if (PW.pt (mw_or (mt_not (mt_val (m_isi T.f_isinstance (ma_cons (m_var 0) (ma_cons (m_ty T.f_str bt_str) ma_nil))))) (mw_or1 (mt_cmp op_gtM (m_len T.f_len (ma_cons (m_var 0) ma_nil)) (m_var 1)))))
      (mss_one (ms_ret m_bl))
      mss_nil)
    (mss_one (ms_ret (m_all rfl T.f_all (ma_cons (m_frz (ml_lk (ml_lc (own := [("sign", 2)]) (is := [2]) (g := gNm) rfl nd (mi_any (m_var 0)) (blkOk_by (own := [("sign", 2)]) (N := N_is_text) (sc := defScope s_is_text) (by decide +kernel)) (by decide) (fun _ _ _ _ _ => (tg_name (i := 2) nd)) (fun _ _ _ _ _ => mts_nil) (fun _ _ _ _ _ => (m_or (m_chain op_leM op_leM m_str (m_var 2) m_str) (m_one (m_cmp (op_eqM hr) (m_var 2) m_str))))))) ma_nil)))))
abbrev N_is_whole : List Str := ["thing"]
theorem sc_is_whole : FnScope N_is_whole ["thing"] (defScope s_is_whole) := ⟨rfl, rfl, rfl, by decide +kernel, rfl, by decide +kernel, by decide +kernel⟩
theorem bn_is_whole {K : PySem.W.Frag} : BN K d_is_whole ["thing"] := fun fd F => FunD.bindsN F fun _ _ _ _ _ _ us hl => match us, hl with | [_], _ => rfl
theorem kb_is_whole_1 {K : PySem.W.Frag} : KB K d_is_whole ["thing"] 1 [] (fun ms _ => ms) := bn_is_whole.kb
theorem ok_is_whole (T : Ctx K mg) : OkM PP w K mg base 1 d_is_whole ["thing"] F_is_whole := ok_M (T.c.def_ 1 (d := d_is_whole) rfl) sc_is_whole fun cdv A outer s H E hr tk pp => by
  have nd := sc_is_whole.nd
  exact (mss_one (ms_ret (m_and (m_isi T.f_isinstance (ma_cons (m_var 0) (ma_cons (m_ty T.f_int bt_int) ma_nil))) (m_one (m_not (m_isi T.f_isinstance (ma_cons (m_var 0) (ma_cons (m_ty T.f_bool bt_bool) ma_nil))))))))
abbrev N_is_count : List Str := ["thing", "least"]
theorem sc_is_count : FnScope N_is_count ["thing", "least"] (defScope s_is_count) := ⟨rfl, rfl, rfl, by decide +kernel, rfl, by decide +kernel, by decide +kernel⟩
theorem kb_is_count_1 {K : PySem.W.Frag} : KB K d_is_count ["thing", "least"] 1 [] (fun ms _ => ms ++ [.int 0]) := fun fd F => kbm_dfl (FunD.binds1 (ps := ["thing", "least"]) F 1 0 (by intro h; cases h) rfl fun _ _ _ _ _ _ _ us its h1 h2 => match us, h1, its, h2 with | [_], _, [_], _ => ⟨_, rfl, rfl⟩) (fun _ _ => (.cons (.int _) .nil)) rfl
theorem ok_is_count (T : Ctx K mg) : OkM PP w K mg base 2 d_is_count ["thing", "least"] F_is_count := ok_M (T.c.def_ 2 (d := d_is_count) rfl) sc_is_count fun cdv A outer s H E hr tk pp => by
  have nd := sc_is_count.nd
  exact (mss_one (ms_ret (m_and (c_call (ok_is_whole T) kb_is_whole_1 (hr.mono (by decide)) T.g_is_whole tk (am_p (ma_cons (m_var 0) ma_nil))) (m_one (m_cmp op_geM (m_var 0) (m_var 1))))))
abbrev N_is_time : List Str := ["thing"]
theorem sc_is_time : FnScope N_is_time ["thing"] (defScope s_is_time) := ⟨rfl, rfl, rfl, by decide +kernel, rfl, by decide +kernel, by decide +kernel⟩
theorem bn_is_time {K : PySem.W.Frag} : BN K d_is_time ["thing"] := fun fd F => FunD.bindsN F fun _ _ _ _ _ _ us hl => match us, hl with | [_], _ => rfl
theorem kb_is_time_1 {K : PySem.W.Frag} : KB K d_is_time ["thing"] 1 [] (fun ms _ => ms) := bn_is_time.kb
theorem ok_is_time (T : Ctx K mg) : OkM PP w K mg base 3 d_is_time ["thing"] F_is_time := ok_M (T.c.def_ 3 (d := d_is_time) rfl) sc_is_time fun cdv A outer s H E hr tk pp => by
  have nd := sc_is_time.nd
  exact (mss_one (ms_ret (m_and (c_call (ok_is_count T) kb_is_count_1 (hr.mono (by decide)) T.g_is_count tk (am_p (ma_cons (m_var 0) ma_nil))) (m_one (m_cmp op_leM (m_var 0) (m_c (T.c_MOST_TIME rfl) fun _ _ => .int _))))))
abbrev N_is_who : List Str := ["thing"]
theorem sc_is_who : FnScope N_is_who ["thing"] (defScope s_is_who) := ⟨rfl, rfl, rfl, by decide +kernel, rfl, by decide +kernel, by decide +kernel⟩
theorem bn_is_who {K : PySem.W.Frag} : BN K d_is_who ["thing"] := fun fd F => FunD.bindsN F fun _ _ _ _ _ _ us hl => match us, hl with | [_], _ => rfl
theorem kb_is_who_1 {K : PySem.W.Frag} : KB K d_is_who ["thing"] 1 [] (fun ms _ => ms) := bn_is_who.kb
theorem ok_is_who (T : Ctx K mg) : OkM PP w K mg base 4 d_is_who ["thing"] F_is_who := ok_M (T.c.def_ 29 (d := d_is_who) rfl) sc_is_who fun cdv A outer s H E hr tk pp => by
  have nd := sc_is_who.nd
  exact (mss_one (ms_ret (m_and (c_call (ok_is_ref T) kb_is_ref_1 (hr.mono (by decide)) T.g_is_ref tk (am_p (ma_cons (m_var 0) ma_nil))) (m_one (m_cmp (op_notInM hr) m_str (m_var 0))))))
abbrev N_is_entry : List Str := ["thing"]
theorem sc_is_entry : FnScope N_is_entry ["thing"] (defScope s_is_entry) := ⟨rfl, rfl, rfl, by decide +kernel, rfl, by decide +kernel, by decide +kernel⟩
theorem bn_is_entry {K : PySem.W.Frag} : BN K d_is_entry ["thing"] := fun fd F => FunD.bindsN F fun _ _ _ _ _ _ us hl => match us, hl with | [_], _ => rfl
theorem kb_is_entry_1 {K : PySem.W.Frag} : KB K d_is_entry ["thing"] 1 [] (fun ms _ => ms) := bn_is_entry.kb
theorem ok_is_entry (T : Ctx K mg) : OkM PP w K mg base 5 d_is_entry ["thing"] F_is_entry := ok_M (T.c.def_ 28 (d := d_is_entry) rfl) sc_is_entry fun cdv A outer s H E hr tk pp => by
  have nd := sc_is_entry.nd
  exact (mss_cons (ms_if (PW.pt (mw_or (mt_not (mt_val (m_isi T.f_isinstance (ma_cons (m_var 0) (ma_cons (m_ty T.f_tuple bt_tuple) ma_nil))))) (mw_or (mt_cmp (op_neM hr) (m_len T.f_len (ma_cons (m_var 0) ma_nil)) m_int) (mw_or (mt_not (mt_val (c_call (ok_is_value T) kb_is_value_1 (hr.mono (by decide)) T.g_is_value tk (am_p (ma_cons (m_ix (ix_M hr) (m_var 0) m_int) ma_nil))))) (mw_or1 (mt_not (mt_val (c_call (ok_is_value T) kb_is_value_1 (hr.mono (by decide)) T.g_is_value tk (am_p (ma_cons (m_ix (ix_M hr) (m_var 0) m_int) ma_nil))))))))))
      (mss_one (ms_ret m_bl))
      mss_nil)
    (mss_one (ms_ret (m_and (c_call (ok_is_who T) kb_is_who_1 (hr.mono (by decide)) T.g_is_who tk (am_p (ma_cons (m_ix (ix_M hr) (m_var 0) m_int) ma_nil))) (m_and (c_call (ok_is_time T) kb_is_time_1 (hr.mono (by decide)) T.g_is_time tk (am_p (ma_cons (m_ix (ix_M hr) (m_var 0) m_int) ma_nil))) (m_one (c_call (ok_is_text T) kb_is_text_2 (hr.mono (by decide)) T.g_is_text tk (am_p (ma_cons (m_ix (ix_M hr) (m_var 0) m_int) (ma_cons (m_c (T.c_MOST_MESSAGE rfl) fun _ _ => .int _) ma_nil))))))))))
abbrev N_is_past : List Str := ["thing", "entry"]
theorem sc_is_past : FnScope N_is_past ["thing"] (defScope s_is_past) := ⟨rfl, rfl, rfl, by decide +kernel, rfl, by decide +kernel, by decide +kernel⟩
theorem bn_is_past {K : PySem.W.Frag} : BN K d_is_past ["thing"] := fun fd F => FunD.bindsN F fun _ _ _ _ _ _ us hl => match us, hl with | [_], _ => rfl
theorem kb_is_past_1 {K : PySem.W.Frag} : KB K d_is_past ["thing"] 1 [] (fun ms _ => ms) := bn_is_past.kb
theorem ok_is_past (T : Ctx K mg) : OkM PP w K mg base 6 d_is_past ["thing"] F_is_past := ok_M (T.c.def_ 32 (d := d_is_past) rfl) sc_is_past fun cdv A outer s H E hr tk pp => by
  have nd := sc_is_past.nd
  exact (mss_one (ms_ret (m_and (m_isi T.f_isinstance (ma_cons (m_var 0) (ma_cons (m_ty T.f_tuple bt_tuple) ma_nil))) (m_and (m_cmp (op_neM hr) (m_var 0) m_tup0) (m_one (m_all rfl T.f_all (ma_cons (m_frz (ml_lk (ml_lc (own := [("entry", 1)]) (is := [1]) (g := gNm) rfl nd (mi_any (m_var 0)) (blkOk_by (own := [("entry", 1)]) (N := N_is_past) (sc := defScope s_is_past) (by decide +kernel)) (by decide) (fun _ _ _ _ _ => (tg_name (i := 1) nd)) (fun _ _ _ _ _ => mts_nil) (fun _ _ _ _ _ => (c_call (ok_is_entry T) kb_is_entry_1 (hr.mono (by decide)) T.g_is_entry tk0 (am_p (ma_cons (m_var 1) ma_nil))))))) ma_nil)))))))
abbrev N_is_named : List Str := ["thing"]
theorem sc_is_named : FnScope N_is_named ["thing"] (defScope s_is_named) := ⟨rfl, rfl, rfl, by decide +kernel, rfl, by decide +kernel, by decide +kernel⟩
theorem bn_is_named {K : PySem.W.Frag} : BN K d_is_named ["thing"] := fun fd F => FunD.bindsN F fun _ _ _ _ _ _ us hl => match us, hl with | [_], _ => rfl
theorem kb_is_named_1 {K : PySem.W.Frag} : KB K d_is_named ["thing"] 1 [] (fun ms _ => ms) := bn_is_named.kb
theorem ok_is_named (T : Ctx K mg) : OkM PP w K mg base 4 d_is_named ["thing"] F_is_named := ok_M (T.c.def_ 26 (d := d_is_named) rfl) sc_is_named fun cdv A outer s H E hr tk pp => by
  have nd := sc_is_named.nd
  exact (mss_one (ms_ret (m_or (c_call (ok_is_ref T) kb_is_ref_1 (hr.mono (by decide)) T.g_is_ref tk (am_p (ma_cons (m_var 0) ma_nil))) (m_one (m_and (m_isi T.f_isinstance (ma_cons (m_var 0) (ma_cons (m_ty T.f_str bt_str) ma_nil))) (m_one (m_cmp (op_eqM hr) (m_var 0) (m_c (T.c_HEAD rfl) fun _ _ => .str _))))))))
abbrev N_is_state : List Str := ["thing", "ref", "name", "past"]
theorem sc_is_state : FnScope N_is_state ["thing"] (defScope s_is_state) := ⟨rfl, rfl, rfl, by decide +kernel, rfl, by decide +kernel, by decide +kernel⟩
theorem bn_is_state {K : PySem.W.Frag} : BN K d_is_state ["thing"] := fun fd F => FunD.bindsN F fun _ _ _ _ _ _ us hl => match us, hl with | [_], _ => rfl
theorem kb_is_state_1 {K : PySem.W.Frag} : KB K d_is_state ["thing"] 1 [] (fun ms _ => ms) := bn_is_state.kb
theorem ok_is_state (T : Ctx K mg) : OkM PP w K mg base 7 d_is_state ["thing"] F_is_state := ok_M (T.c.def_ 33 (d := d_is_state) rfl) sc_is_state fun cdv A outer s H E hr tk pp => by
  have nd := sc_is_state.nd
  exact (mss_cons (ms_if (PW.pt (mw_or (mt_not (mt_val (m_isi T.f_isinstance (ma_cons (m_var 0) (ma_cons (m_ty T.f_tuple bt_tuple) ma_nil))))) (mw_or (mt_cmp (op_neM hr) (m_len T.f_len (ma_cons (m_var 0) ma_nil)) m_int) (mw_or1 (mt_not (mt_val (c_call (ok_is_place T) kb_is_place_1 (hr.mono (by decide)) T.g_is_place tk (am_p (ma_cons (m_ix (ix_M hr) (m_var 0) m_int) ma_nil)))))))))
      (mss_one (ms_ret m_bl))
      mss_nil)
    (mss_cons (ms_if (PW.pt (mw_or (mt_not (mt_val (c_call (ok_are_pairs T) kb_are_pairs_1 (hr.mono (by decide)) T.g_are_pairs tk (am_p (ma_cons (m_ix (ix_M hr) (m_var 0) m_int) ma_nil))))) (mw_or1 (mt_not (mt_val (c_call (ok_are_pairs T) kb_are_pairs_1 (hr.mono (by decide)) T.g_are_pairs tk (am_p (ma_cons (m_ix (ix_M hr) (m_var 0) m_int) ma_nil))))))))
      (mss_one (ms_ret m_bl))
      mss_nil)
    (mss_cons (ms_if (mt_not (mt_val (m_all rfl T.f_all (ma_cons (m_frz (ml_lk (ml_lc (own := [("ref", 1), ("name", 2)]) (is := [1, 2]) (g := (gTupM 2 (gConsM gNm (gConsM gNm gNilM)))) rfl nd (mi_any (m_ix (ix_M hr) (m_var 0) m_int)) (blkOk_by (own := [("ref", 1), ("name", 2)]) (N := N_is_state) (sc := defScope s_is_state) (by decide +kernel)) (by decide) (fun _ _ _ _ _ => (tg_tup rfl (tgs_cons (tg_name (i := 1) nd) (tgs_cons (tg_name (i := 2) nd) tgs_nil)))) (fun _ _ _ _ _ => mts_nil) (fun _ _ _ _ _ => (m_and (c_call (ok_is_ref T) kb_is_ref_1 (hr.mono (by decide)) T.g_is_ref tk0 (am_p (ma_cons (m_var 1) ma_nil))) (m_one (c_call (ok_is_id T) kb_is_id_1 (hr.mono (by decide)) T.g_is_id tk0 (am_p (ma_cons (m_var 2) ma_nil))))))))) ma_nil))))
      (mss_one (ms_ret m_bl))
      mss_nil)
    (mss_cons (ms_if (mt_not (mt_val (c_call (ok_are_apart T) kb_are_apart_1 (hr.mono (by decide)) T.g_are_apart tk (am_p (ma_cons (m_frz (ml_lk (ml_lc (own := [("ref", 1), ("name", 2)]) (is := [1, 2]) (g := (gTupM 2 (gConsM gNm (gConsM gNm gNilM)))) rfl nd (mi_any (m_ix (ix_M hr) (m_var 0) m_int)) (blkOk_by (own := [("ref", 1), ("name", 2)]) (N := N_is_state) (sc := defScope s_is_state) (by decide +kernel)) (by decide) (fun _ _ _ _ _ => (tg_tup rfl (tgs_cons (tg_name (i := 1) nd) (tgs_cons (tg_name (i := 2) nd) tgs_nil)))) (fun _ _ _ _ _ => mts_nil) (fun _ _ _ _ _ => (m_var 1))))) ma_nil)))))
      (mss_one (ms_ret m_bl))
      mss_nil)
    (mss_one (ms_ret (m_all rfl T.f_all (ma_cons (m_frz (ml_lk (ml_lc (own := [("name", 2), ("past", 3)]) (is := [2, 3]) (g := (gTupM 2 (gConsM gNm (gConsM gNm gNilM)))) rfl nd (mi_any (m_ix (ix_M hr) (m_var 0) m_int)) (blkOk_by (own := [("name", 2), ("past", 3)]) (N := N_is_state) (sc := defScope s_is_state) (by decide +kernel)) (by decide) (fun _ _ _ _ _ => (tg_tup rfl (tgs_cons (tg_name (i := 2) nd) (tgs_cons (tg_name (i := 3) nd) tgs_nil)))) (fun _ _ _ _ _ => mts_nil) (fun _ _ _ _ _ => (m_and (c_call (ok_is_named T) kb_is_named_1 (hr.mono (by decide)) T.g_is_named tk0 (am_p (ma_cons (m_var 2) ma_nil))) (m_one (c_call (ok_is_past T) kb_is_past_1 (hr.mono (by decide)) T.g_is_past tk0 (am_p (ma_cons (m_var 3) ma_nil))))))))) ma_nil))))))))
abbrev N_Refs_take : List Str := ["self", "state", "name", "past"]
theorem sc_Refs_take : FnScope N_Refs_take ["self", "state"] (defScope s_Refs_take) := ⟨rfl, rfl, rfl, by decide +kernel, rfl, by decide +kernel, by decide +kernel⟩
theorem bn_Refs_take {K : PySem.W.Frag} : BN K d_Refs_take ["self", "state"] := fun fd F => FunD.bindsN F fun _ _ _ _ _ _ us hl => match us, hl with | [_, _], _ => rfl
theorem kb_Refs_take_2 {K : PySem.W.Frag} : KB K d_Refs_take ["self", "state"] 2 [] (fun ms _ => ms) := bn_Refs_take.kb
theorem ok_Refs_take (T : Ctx K mg) : OkM PP w K mg base 1 d_Refs_take ["self", "state"] F_Refs_take := ok_M (T.c.def_ 35 (d := d_Refs_take) rfl) sc_Refs_take fun cdv A outer s H E hr tk pp => by
  have nd := sc_Refs_take.nd
  exact (mss_cons (ms_fld (m_var 0) (m_dict rfl T.f_dict (ma_cons (m_ix (ix_M hr) (m_var 1) m_int) ma_nil)) T.k_Refs T.n_Refs_table)
    (mss_cons (ms_fld (m_var 0) (m_ix (ix_M hr) (m_var 1) m_int) T.k_Refs T.n_Refs_spot)
    (mss_one (ms_fld (m_var 0) (m_lk (m_dc (own := [("name", 2), ("past", 3)]) (is := [2, 3]) rfl nd (mi_any (m_ix (ix_M hr) (m_var 1) m_int)) (blkOk_by (own := [("name", 2), ("past", 3)]) (N := N_Refs_take) (sc := defScope s_Refs_take) (by decide +kernel)) (by decide) (fun _ _ _ _ _ => (tg_tup rfl (tgs_cons (tg_name (i := 2) nd) (tgs_cons (tg_name (i := 3) nd) tgs_nil)))) (fun _ _ _ _ _ => mts_nil) (fun _ _ _ _ _ => (m_var 2)) (fun _ _ _ _ _ => (m_frz (ml_list T.f_list (ma_cons (m_var 3) ma_nil)))))) T.k_Refs T.n_Refs_logs))))
abbrev N_Refs___init__ : List Str := ["self", "state"]
theorem sc_Refs___init__ : FnScope N_Refs___init__ ["self", "state"] (defScope s_Refs___init__) := ⟨rfl, rfl, rfl, by decide +kernel, rfl, by decide +kernel, by decide +kernel⟩
theorem kb_Refs___init___1 {K : PySem.W.Frag} : KB K d_Refs___init__ ["self", "state"] 1 [] (fun ms _ => ms ++ [.non]) := fun fd F => kbm_dfl (FunD.binds1 (ps := ["self", "state"]) F 1 0 (by intro h; cases h) rfl fun _ _ _ _ _ _ _ us its h1 h2 => match us, h1, its, h2 with | [_], _, [_], _ => ⟨_, rfl, rfl⟩) (fun _ _ => (.cons .non .nil)) rfl
theorem kb_Refs___init___2 {K : PySem.W.Frag} : KB K d_Refs___init__ ["self", "state"] 2 [] (fun ms _ => ms) := fun fd F => by
  obtain ⟨ds, r, B⟩ := FunD.binds1 (ps := ["self", "state"]) F 2 1 (by intro h; cases h) rfl fun _ _ _ _ _ _ _ us its h1 h2 => match us, h1, its, h2 with | [_, _], _, [_], _ => ⟨_, rfl, rfl⟩
  cases r
  exact kbm_all B
theorem ok_Refs___init__ (T : Ctx K mg) : OkM PP w K mg base 8 d_Refs___init__ ["self", "state"] F_Refs___init__ := ok_M (T.c.def_ 34 (d := d_Refs___init__) rfl) sc_Refs___init__ fun cdv A outer s H E hr tk pp => by
  have nd := sc_Refs___init__.nd
  exact (mss_cons (ms_if (mt_cmp op_isNM (m_var 1) m_non)
      (mss_one (ms_set (i := 1) nd (m_tup (ma_cons m_tup0 (ma_cons (T.t_FIRST rfl) (ma_cons m_tup0 ma_nil))))))
      mss_nil)
    (mss_cons (ms_if (mt_not (mt_val (c_call (ok_is_state T) kb_is_state_1 (hr.mono (by decide)) T.g_is_state tk (am_p (ma_cons (m_var 1) ma_nil)))))
      (mss_one (ms_raise (c := "BadName") rfl tk (mkr_BadName T) (hr.mono (by decide)) T.g_BadName m_str rk_BadName))
      mss_nil)
    (mss_cons (ms_fld (m_var 0) (m_ref (ml_lst ma_nil)) T.k_Refs T.n_Refs_edits)
    (mss_one (ms_expr (c_meth (C := "Refs") (ok_Refs_take T) kb_Refs_take_2 (hr.mono (by decide)) T.k_Refs T.m_Refs_take tk (m_var 0) (am_p (ma_cons (m_var 1) ma_nil))))))))
abbrev N_Refs___len__ : List Str := ["self"]
theorem sc_Refs___len__ : FnScope N_Refs___len__ ["self"] (defScope s_Refs___len__) := ⟨rfl, rfl, rfl, by decide +kernel, rfl, by decide +kernel, by decide +kernel⟩
theorem bn_Refs___len__ {K : PySem.W.Frag} : BN K d_Refs___len__ ["self"] := fun fd F => FunD.bindsN F fun _ _ _ _ _ _ us hl => match us, hl with | [_], _ => rfl
theorem ok_Refs___len__ (T : Ctx K mg) : OkM PP w K mg base 1 d_Refs___len__ ["self"] F_Refs___len__ := ok_M (T.c.def_ 38 (d := d_Refs___len__) rfl) sc_Refs___len__ fun cdv A outer s H E hr tk pp => by
  have nd := sc_Refs___len__.nd
  exact (mss_one (ms_ret (m_len T.f_len (ma_cons (m_fld (m_var 0) T.k_Refs T.n_Refs_table) ma_nil))))
abbrev N_Refs_names : List Str := ["self"]
theorem sc_Refs_names : FnScope N_Refs_names ["self"] (defScope s_Refs_names) := ⟨rfl, rfl, rfl, by decide +kernel, rfl, by decide +kernel, by decide +kernel⟩
theorem bn_Refs_names {K : PySem.W.Frag} : BN K d_Refs_names ["self"] := fun fd F => FunD.bindsN F fun _ _ _ _ _ _ us hl => match us, hl with | [_], _ => rfl
theorem kb_Refs_names_1 {K : PySem.W.Frag} : KB K d_Refs_names ["self"] 1 [] (fun ms _ => ms) := bn_Refs_names.kb
theorem ok_Refs_names (T : Ctx K mg) : OkM PP w K mg base 1 d_Refs_names ["self"] F_Refs_names := ok_M (T.c.def_ 40 (d := d_Refs_names) rfl) sc_Refs_names fun cdv A outer s H E hr tk pp => by
  have nd := sc_Refs_names.nd
  exact (mss_one (ms_ret (m_tuple T.f_tuple (ma_cons (m_frz (ml_sorted rfl T.f_sorted (ma_cons (m_fld (m_var 0) T.k_Refs T.n_Refs_table) ma_nil))) ma_nil))))
abbrev N_Refs___contains__ : List Str := ["self", "ref"]
theorem sc_Refs___contains__ : FnScope N_Refs___contains__ ["self", "ref"] (defScope s_Refs___contains__) := ⟨rfl, rfl, rfl, by decide +kernel, rfl, by decide +kernel, by decide +kernel⟩
theorem bn_Refs___contains__ {K : PySem.W.Frag} : BN K d_Refs___contains__ ["self", "ref"] := fun fd F => FunD.bindsN F fun _ _ _ _ _ _ us hl => match us, hl with | [_, _], _ => rfl
theorem ok_Refs___contains__ (T : Ctx K mg) : OkM PP w K mg base 4 d_Refs___contains__ ["self", "ref"] F_Refs___contains__ := ok_M (T.c.def_ 37 (d := d_Refs___contains__) rfl) sc_Refs___contains__ fun cdv A outer s H E hr tk pp => by
  have nd := sc_Refs___contains__.nd
  exact (mss_one (ms_ret (m_and (c_call (ok_is_ref T) kb_is_ref_1 (hr.mono (by decide)) T.g_is_ref tk (am_p (ma_cons (m_var 1) ma_nil))) (m_one (m_cmp (op_inM hr) (m_var 1) (m_fld (m_var 0) T.k_Refs T.n_Refs_table))))))
abbrev N_Refs___getitem__ : List Str := ["self", "ref"]
theorem sc_Refs___getitem__ : FnScope N_Refs___getitem__ ["self", "ref"] (defScope s_Refs___getitem__) := ⟨rfl, rfl, rfl, by decide +kernel, rfl, by decide +kernel, by decide +kernel⟩
theorem bn_Refs___getitem__ {K : PySem.W.Frag} : BN K d_Refs___getitem__ ["self", "ref"] := fun fd F => FunD.bindsN F fun _ _ _ _ _ _ us hl => match us, hl with | [_, _], _ => rfl
theorem ok_Refs___getitem__ (T : Ctx K mg) : OkM PP w K mg base 4 d_Refs___getitem__ ["self", "ref"] F_Refs___getitem__ := ok_M (T.c.def_ 36 (d := d_Refs___getitem__) rfl) sc_Refs___getitem__ fun cdv A outer s H E hr tk pp => by
  have nd := sc_Refs___getitem__.nd
  exact (mss_cons (ms_if (PW.pt (mw_or (mt_not (mt_val (c_call (ok_is_ref T) kb_is_ref_1 (hr.mono (by decide)) T.g_is_ref tk (am_p (ma_cons (m_var 1) ma_nil))))) (mw_or1 (mt_cmp (op_notInM hr) (m_var 1) (m_fld (m_var 0) T.k_Refs T.n_Refs_table)))))
      (mss_one (ms_raise (c := "NoRef") rfl tk (mkr_NoRef T) (hr.mono (by decide)) T.g_NoRef (m_var 1) rk_NoRef))
      mss_nil)
    (mss_one (ms_ret (m_ix (ix_M hr) (m_fld (m_var 0) T.k_Refs T.n_Refs_table) (m_var 1)))))
abbrev N_Refs_at_head : List Str := ["self", "word", "name"]
theorem sc_Refs_at_head : FnScope N_Refs_at_head ["self"] (defScope s_Refs_at_head) := ⟨rfl, rfl, rfl, by decide +kernel, rfl, by decide +kernel, by decide +kernel⟩
theorem bn_Refs_at_head {K : PySem.W.Frag} : BN K d_Refs_at_head ["self"] := fun fd F => FunD.bindsN F fun _ _ _ _ _ _ us hl => match us, hl with | [_], _ => rfl
theorem kb_Refs_at_head_1 {K : PySem.W.Frag} : KB K d_Refs_at_head ["self"] 1 [] (fun ms _ => ms) := bn_Refs_at_head.kb
theorem ok_Refs_at_head (T : Ctx K mg) : OkM PP w K mg base 1 d_Refs_at_head ["self"] F_Refs_at_head := ok_M (T.c.def_ 42 (d := d_Refs_at_head) rfl) sc_Refs_at_head fun cdv A outer s H E hr tk pp => by
  have nd := sc_Refs_at_head.nd
  exact (mss_cons (ms_asg (is := [1, 2]) (m_fld (m_var 0) T.k_Refs T.n_Refs_spot) (tg_tup rfl (tgs_cons (tg_name (i := 1) nd) (tgs_cons (tg_name (i := 2) nd) tgs_nil))))
    (mss_one (ms_ret (m_if (mt_cmp (op_eqM hr) (m_var 1) m_str) (m_var 2) (m_get1 hr (m_fld (m_var 0) T.k_Refs T.n_Refs_table) (m_var 2))))))
abbrev N__law_at_head : List Str := ["_law_m"]
theorem sc__law_at_head : FnScope N__law_at_head ["_law_m"] (defScope s__law_at_head) := ⟨rfl, rfl, rfl, by decide +kernel, rfl, by decide +kernel, by decide +kernel⟩
theorem bn__law_at_head {K : PySem.W.Frag} : BN K d__law_at_head ["_law_m"] := fun fd F => FunD.bindsN F fun _ _ _ _ _ _ us hl => match us, hl with | [_], _ => rfl
theorem kb__law_at_head_1 {K : PySem.W.Frag} : KB K d__law_at_head ["_law_m"] 1 [] (fun ms _ => ms) := bn__law_at_head.kb
theorem ok__law_at_head (T : Ctx K mg) : OkM PP w K mg base 1 d__law_at_head ["_law_m"] F__law_at_head := ok_M (T.c.def_ 57 (d := d__law_at_head) rfl) sc__law_at_head fun cdv A outer s H E hr tk pp => by
  have nd := sc__law_at_head.nd
  exact (mss_one (ms_ret (m_if (mt_cmp (op_eqM hr) (m_ix (ix_M hr) (m_ix (ix_M hr) (m_var 0) m_str) m_int) m_str) (m_ix (ix_M hr) (m_ix (ix_M hr) (m_var 0) m_str) m_int) (m_get1 hr (m_ix (ix_M hr) (m_var 0) m_str) (m_ix (ix_M hr) (m_ix (ix_M hr) (m_var 0) m_str) m_int)))))
abbrev N_Refs_head : List Str := ["self"]
theorem sc_Refs_head : FnScope N_Refs_head ["self"] (defScope s_Refs_head) := ⟨rfl, rfl, rfl, by decide +kernel, rfl, by decide +kernel, by decide +kernel⟩
theorem bn_Refs_head {K : PySem.W.Frag} : BN K d_Refs_head ["self"] := fun fd F => FunD.bindsN F fun _ _ _ _ _ _ us hl => match us, hl with | [_], _ => rfl
theorem kb_Refs_head_1 {K : PySem.W.Frag} : KB K d_Refs_head ["self"] 1 [] (fun ms _ => ms) := bn_Refs_head.kb
theorem ok_Refs_head (T : Ctx K mg) : OkM PP w K mg base 1 d_Refs_head ["self"] F_Refs_head := ok_M (T.c.def_ 41 (d := d_Refs_head) rfl) sc_Refs_head fun cdv A outer s H E hr tk pp => by
  have nd := sc_Refs_head.nd
  exact (mss_one (ms_ret (m_fld (m_var 0) T.k_Refs T.n_Refs_spot)))
abbrev N_Refs_log : List Str := ["self", "name"]
theorem sc_Refs_log : FnScope N_Refs_log ["self", "name"] (defScope s_Refs_log) := ⟨rfl, rfl, rfl, by decide +kernel, rfl, by decide +kernel, by decide +kernel⟩
theorem bn_Refs_log {K : PySem.W.Frag} : BN K d_Refs_log ["self", "name"] := fun fd F => FunD.bindsN F fun _ _ _ _ _ _ us hl => match us, hl with | [_, _], _ => rfl
theorem kb_Refs_log_2 {K : PySem.W.Frag} : KB K d_Refs_log ["self", "name"] 2 [] (fun ms _ => ms) := bn_Refs_log.kb
theorem ok_Refs_log (T : Ctx K mg) : OkM PP w K mg base 5 d_Refs_log ["self", "name"] F_Refs_log := ok_M (T.c.def_ 44 (d := d_Refs_log) rfl) sc_Refs_log fun cdv A outer s H E hr tk pp => by
  have nd := sc_Refs_log.nd
  exact (mss_cons (ms_if (mt_not (mt_val (c_call (ok_is_named T) kb_is_named_1 (hr.mono (by decide)) T.g_is_named tk (am_p (ma_cons (m_var 1) ma_nil)))))
      (mss_one (ms_raise (c := "BadRef") rfl tk (mkr_BadRef T) (hr.mono (by decide)) T.g_BadRef m_str rk_BadRef))
      mss_nil)
    (mss_one (ms_ret (m_frz (ml_list T.f_list (ma_cons (m_get2 hr (m_fld (m_var 0) T.k_Refs T.n_Refs_logs) (m_var 1) (m_frz (ml_lst ma_nil))) ma_nil))))))
abbrev N__law_stands : List Str := ["_law_refs", "_law_m", "_law_ref_here", "_law_name"]
theorem sc__law_stands : FnScope N__law_stands ["_law_refs", "_law_m"] (defScope s__law_stands) := ⟨rfl, rfl, rfl, by decide +kernel, rfl, by decide +kernel, by decide +kernel⟩
theorem bn__law_stands {K : PySem.W.Frag} : BN K d__law_stands ["_law_refs", "_law_m"] := fun fd F => FunD.bindsN F fun _ _ _ _ _ _ us hl => match us, hl with | [_, _], _ => rfl
theorem kb__law_stands_2 {K : PySem.W.Frag} : KB K d__law_stands ["_law_refs", "_law_m"] 2 [] (fun ms _ => ms) := bn__law_stands.kb
theorem ok__law_stands (T : Ctx K mg) : OkM PP w K mg base 6 d__law_stands ["_law_refs", "_law_m"] F__law_stands := ok_M (T.c.def_ 60 (d := d__law_stands) rfl) sc__law_stands fun cdv A outer s H E hr tk pp => by
  have nd := sc__law_stands.nd
  exact (mss_cons (ms_if (PW.pt (mw_or (mt_cmp (op_neM hr) (c_meth (C := "Refs") (ok_Refs_names T) kb_Refs_names_1 (hr.mono (by decide)) T.k_Refs T.m_Refs_names tk (m_var 0) am_n) (m_tuple T.f_tuple (ma_cons (m_frz (ml_sorted rfl T.f_sorted (ma_cons (m_ix (ix_M hr) (m_var 1) m_str) ma_nil))) ma_nil))) (mw_or1 (mt_cmp (op_neM hr) (c_lenO (C := "Refs") (ok_Refs___len__ T) (bn_Refs___len__) rfl (hr.mono (by decide)) T.m_Refs___len__ tk T.f_len (ma_cons (m_var 0) ma_nil)) (m_len T.f_len (ma_cons (m_ix (ix_M hr) (m_var 1) m_str) ma_nil))))))
      (mss_one (ms_ret m_bl))
      mss_nil)
    (mss_cons (ms_lk tk fun _ tk => (ms_for (is := [2]) pp rfl (mi_any (m_ix (ix_M hr) (m_var 1) m_str)) (tg_name (i := 2) nd)
      (mss_one (ms_if (PW.pt (mw_or (mt_cmp (op_neM hr) (c_getitem (C := "Refs") (ok_Refs___getitem__ T) (bn_Refs___getitem__) rfl (hr.mono (by decide)) T.m_Refs___getitem__ tk (m_var 0) (m_var 2)) (m_ix (ix_M hr) (m_ix (ix_M hr) (m_var 1) m_str) (m_var 2))) (mw_or1 (mt_pc (c_notInO (C := "Refs") (ok_Refs___contains__ T) (bn_Refs___contains__) rfl (hr.mono (by decide)) T.m_Refs___contains__ tk (m_var 2) (m_var 0))))))
        (mss_one (ms_ret m_bl))
        mss_nil))))
    (mss_cons (ms_if (PW.pt (mw_or (mt_cmp (op_neM hr) (c_meth (C := "Refs") (ok_Refs_head T) kb_Refs_head_1 (hr.mono (by decide)) T.k_Refs T.m_Refs_head tk (m_var 0) am_n) (m_ix (ix_M hr) (m_var 1) m_str)) (mw_or1 (mt_cmp (op_neM hr) (c_meth (C := "Refs") (ok_Refs_at_head T) kb_Refs_at_head_1 (hr.mono (by decide)) T.k_Refs T.m_Refs_at_head tk (m_var 0) am_n) (c_call (ok__law_at_head T) kb__law_at_head_1 (hr.mono (by decide)) T.g__law_at_head tk (am_p (ma_cons (m_var 1) ma_nil)))))))
      (mss_one (ms_ret m_bl))
      mss_nil)
    (mss_cons (ms_for (is := [3]) pp rfl (mi_frz (m_frz (ml_cat (m_frz (ml_sorted rfl T.f_sorted (ma_cons (m_ix (ix_M hr) (m_var 1) m_str) ma_nil))) (m_frz (ml_lst (ma_cons m_str (ma_cons m_str ma_nil))))))) (tg_name (i := 3) nd)
      (mss_one (ms_if (mt_cmp (op_neM hr) (c_meth (C := "Refs") (ok_Refs_log T) kb_Refs_log_2 (hr.mono (by decide)) T.k_Refs T.m_Refs_log tk (m_var 0) (am_p (ma_cons (m_var 3) ma_nil))) (m_get2 hr (m_ix (ix_M hr) (m_var 1) m_str) (m_var 3) (m_frz (ml_lst ma_nil))))
        (mss_one (ms_ret m_bl))
        mss_nil)))
    (mss_one (ms_ret m_bl))))))
abbrev N__law_draw : List Str := ["_law_source_here", "_law_size", "_law_digit", "_law_number"]
theorem sc__law_draw : FnScope N__law_draw ["_law_source_here", "_law_size"] (defScope s__law_draw) := ⟨rfl, rfl, rfl, by decide +kernel, rfl, by decide +kernel, by decide +kernel⟩
theorem bn__law_draw {K : PySem.W.Frag} : BN K d__law_draw ["_law_source_here", "_law_size"] := fun fd F => FunD.bindsN F fun _ _ _ _ _ _ us hl => match us, hl with | [_, _], _ => rfl
theorem kb__law_draw_2 {K : PySem.W.Frag} : KB K d__law_draw ["_law_source_here", "_law_size"] 2 [] (fun ms _ => ms) := bn__law_draw.kb
theorem ok__law_draw (T : Ctx K mg) : OkM PP w K mg base 1 d__law_draw ["_law_source_here", "_law_size"] F__law_draw := ok_M (T.c.def_ 52 (d := d__law_draw) rfl) sc__law_draw fun cdv A outer s H E hr tk pp => by
  have nd := sc__law_draw.nd
  exact (mss_cons (ms_if (mt_cmp op_gtM (m_ix (ix_M hr) (m_var 0) m_int) m_int)
      (mss_cons (ms_set (i := 2) nd (m_op op_modM (m_int1 T.f_int (ma_cons (m_ix (ix_M hr) (m_var 0) m_int) ma_nil)) (m_var 1)))
      (mss_cons (ms_sub hr (m_op op_fdivM (m_ix (ix_M hr) (m_var 0) m_int) (m_var 1)) (m_var 0) m_int)
      (mss_one (ms_ret (m_var 2)))))
      mss_nil)
    (mss_cons (ms_sub hr (m_op op_addM (m_ix (ix_M hr) (m_var 0) m_int) m_int) (m_var 0) m_int)
    (mss_cons (ms_set (i := 3) nd (m_op op_modM (m_int1 T.f_int (ma_cons (m_op op_powM (m_op op_addM (m_op op_addM (m_ix (ix_M hr) (m_var 0) m_int) (m_op op_mulM m_int (m_ix (ix_M hr) (m_var 0) m_int))) m_int) m_int) ma_nil)) m_int))
    (mss_cons (ms_set (i := 3) nd (m_op op_modM (m_int1 T.f_int (ma_cons (m_op op_mulM (m_var 3) (m_op op_addM (m_op op_addM (m_op op_fdivM (m_var 3) m_int) m_int) (m_ix (ix_M hr) (m_var 0) m_int))) ma_nil)) m_int))
    (mss_one (ms_ret (m_op op_modM (m_int1 T.f_int (ma_cons (m_op op_fdivM (m_op op_modM (m_int1 T.f_int (ma_cons (m_op op_mulM (m_var 3) (m_op op_addM (m_op op_fdivM (m_var 3) m_int) m_int)) ma_nil)) m_int) m_int) ma_nil)) (m_var 1))))))))
abbrev N__law_pick : List Str := ["_law_source_here", "_law_items"]
theorem sc__law_pick : FnScope N__law_pick ["_law_source_here", "_law_items"] (defScope s__law_pick) := ⟨rfl, rfl, rfl, by decide +kernel, rfl, by decide +kernel, by decide +kernel⟩
theorem bn__law_pick {K : PySem.W.Frag} : BN K d__law_pick ["_law_source_here", "_law_items"] := fun fd F => FunD.bindsN F fun _ _ _ _ _ _ us hl => match us, hl with | [_, _], _ => rfl
theorem kb__law_pick_2 {K : PySem.W.Frag} : KB K d__law_pick ["_law_source_here", "_law_items"] 2 [] (fun ms _ => ms) := bn__law_pick.kb
theorem ok__law_pick (T : Ctx K mg) : OkM PP w K mg base 2 d__law_pick ["_law_source_here", "_law_items"] F__law_pick := ok_M (T.c.def_ 53 (d := d__law_pick) rfl) sc__law_pick fun cdv A outer s H E hr tk pp => by
  have nd := sc__law_pick.nd
  exact (mss_one (ms_ret (m_ix (ix_M hr) (m_var 1) (c_call (ok__law_draw T) kb__law_draw_2 (hr.mono (by decide)) T.g__law_draw tk (am_p (ma_cons (m_var 0) (ma_cons (m_len T.f_len (ma_cons (m_var 1) ma_nil)) ma_nil)))))))
abbrev N_Refs_opened : List Str := ["self", "edit"]
theorem sc_Refs_opened : FnScope N_Refs_opened ["self", "edit"] (defScope s_Refs_opened) := ⟨rfl, rfl, rfl, by decide +kernel, rfl, by decide +kernel, by decide +kernel⟩
theorem bn_Refs_opened {K : PySem.W.Frag} : BN K d_Refs_opened ["self", "edit"] := fun fd F => FunD.bindsN F fun _ _ _ _ _ _ us hl => match us, hl with | [_, _], _ => rfl
theorem kb_Refs_opened_2 {K : PySem.W.Frag} : KB K d_Refs_opened ["self", "edit"] 2 [] (fun ms _ => ms) := bn_Refs_opened.kb
theorem ok_Refs_opened (T : Ctx K mg) : OkM PP w K mg base 1 d_Refs_opened ["self", "edit"] F_Refs_opened := ok_M (T.c.def_ 47 (d := d_Refs_opened) rfl) sc_Refs_opened fun cdv A outer s H E hr tk pp => by
  have nd := sc_Refs_opened.nd
  exact (mss_cons (ms_expr (m_append (m_fld (m_var 0) T.k_Refs T.n_Refs_edits) (m_var 1)))
    (mss_one (ms_ret (m_len T.f_len (ma_cons (m_fld (m_var 0) T.k_Refs T.n_Refs_edits) ma_nil)))))
abbrev N_Edit___init__ : List Str := ["self", "home", "signed"]
theorem sc_Edit___init__ : FnScope N_Edit___init__ ["self", "home", "signed"] (defScope s_Edit___init__) := ⟨rfl, rfl, rfl, by decide +kernel, rfl, by decide +kernel, by decide +kernel⟩
theorem bn_Edit___init__ {K : PySem.W.Frag} : BN K d_Edit___init__ ["self", "home", "signed"] := fun fd F => FunD.bindsN F fun _ _ _ _ _ _ us hl => match us, hl with | [_, _, _], _ => rfl
theorem kb_Edit___init___3 {K : PySem.W.Frag} : KB K d_Edit___init__ ["self", "home", "signed"] 3 [] (fun ms _ => ms) := bn_Edit___init__.kb
theorem ok_Edit___init__ (T : Ctx K mg) : OkM PP w K mg base 2 d_Edit___init__ ["self", "home", "signed"] F_Edit___init__ := ok_M (T.c.def_ 11 (d := d_Edit___init__) rfl) sc_Edit___init__ fun cdv A outer s H E hr tk pp => by
  have nd := sc_Edit___init__.nd
  exact (mss_cons (ms_fld (m_var 0) (m_var 1) T.k_Edit T.n_Edit_home)
    (mss_cons (ms_fld (m_var 0) (c_meth (C := "Refs") (ok_Refs_opened T) kb_Refs_opened_2 (hr.mono (by decide)) T.k_Refs T.m_Refs_opened tk (m_var 1) (am_p (ma_cons (m_var 0) ma_nil))) T.k_Edit T.n_Edit_turn)
    (mss_cons (ms_fld (m_var 0) (m_var 2) T.k_Edit T.n_Edit_signed)
    (mss_cons (ms_fld (m_var 0) m_dict0 T.k_Edit T.n_Edit_calls)
    (mss_cons (ms_fld (m_var 0) (m_ref (ml_lst ma_nil)) T.k_Edit T.n_Edit_grips)
    (mss_cons (ms_fld (m_var 0) m_non T.k_Edit T.n_Edit_stands)
    (mss_cons (ms_fld (m_var 0) m_bl T.k_Edit T.n_Edit_is_open)
    (mss_one (ms_fld (m_var 0) m_non T.k_Edit T.n_Edit_keeper)))))))))
abbrev N_Refs_edit : List Str := ["self", "who", "time", "message"]
theorem sc_Refs_edit : FnScope N_Refs_edit ["self", "who", "time", "message"] (defScope s_Refs_edit) := ⟨rfl, rfl, rfl, by decide +kernel, rfl, by decide +kernel, by decide +kernel⟩
theorem bn_Refs_edit {K : PySem.W.Frag} : BN K d_Refs_edit ["self", "who", "time", "message"] := fun fd F => FunD.bindsN F fun _ _ _ _ _ _ us hl => match us, hl with | [_, _, _, _], _ => rfl
theorem kb_Refs_edit_4 {K : PySem.W.Frag} : KB K d_Refs_edit ["self", "who", "time", "message"] 4 [] (fun ms _ => ms) := bn_Refs_edit.kb
theorem ok_Refs_edit (T : Ctx K mg) : OkM PP w K mg base 5 d_Refs_edit ["self", "who", "time", "message"] F_Refs_edit := ok_M (T.c.def_ 49 (d := d_Refs_edit) rfl) sc_Refs_edit fun cdv A outer s H E hr tk pp => by
  have nd := sc_Refs_edit.nd
  exact (mss_cons (ms_if (PW.pt (mw_or (mt_not (mt_val (c_call (ok_is_who T) kb_is_who_1 (hr.mono (by decide)) T.g_is_who tk (am_p (ma_cons (m_var 1) ma_nil))))) (mw_or (mt_not (mt_val (c_call (ok_is_time T) kb_is_time_1 (hr.mono (by decide)) T.g_is_time tk (am_p (ma_cons (m_var 2) ma_nil))))) (mw_or1 (mt_not (mt_val (c_call (ok_is_text T) kb_is_text_2 (hr.mono (by decide)) T.g_is_text tk (am_p (ma_cons (m_var 3) (ma_cons (m_c (T.c_MOST_MESSAGE rfl) fun _ _ => .int _) ma_nil))))))))))
      (mss_one (ms_raise (c := "BadName") rfl tk (mkr_BadName T) (hr.mono (by decide)) T.g_BadName m_str rk_BadName))
      mss_nil)
    (mss_one (ms_ret (c_make (C := "Edit") (ok_Edit___init__ T) kb_Edit___init___3 (hr.mono (by decide)) T.mk_Edit T.g_Edit tk (am_p (ma_cons (m_var 0) (ma_cons (m_tup (ma_cons (m_var 1) (ma_cons (m_var 2) (ma_cons (m_var 3) ma_nil)))) ma_nil)))))))
abbrev N__law_ref : List Str := ["_law_source_here", "_law_some"]
theorem sc__law_ref : FnScope N__law_ref ["_law_source_here"] (defScope s__law_ref) := ⟨rfl, rfl, rfl, by decide +kernel, rfl, by decide +kernel, by decide +kernel⟩
theorem bn__law_ref {K : PySem.W.Frag} : BN K d__law_ref ["_law_source_here"] := fun fd F => FunD.bindsN F fun _ _ _ _ _ _ us hl => match us, hl with | [_], _ => rfl
theorem kb__law_ref_1 {K : PySem.W.Frag} : KB K d__law_ref ["_law_source_here"] 1 [] (fun ms _ => ms) := bn__law_ref.kb
theorem ok__law_ref (T : Ctx K mg) : OkM PP w K mg base 3 d__law_ref ["_law_source_here"] F__law_ref := ok_M (T.c.def_ 54 (d := d__law_ref) rfl) sc__law_ref fun cdv A outer s H E hr tk pp => by
  have nd := sc__law_ref.nd
  exact (mss_cons (ms_set (i := 1) nd (m_frz (ml_lst (ma_cons m_str (ma_cons m_str (ma_cons m_str (ma_cons m_str (ma_cons m_str (ma_cons m_str (ma_cons m_str (ma_cons m_str (ma_cons m_str (ma_cons m_str (ma_cons m_str (ma_cons m_str ma_nil)))))))))))))))
    (mss_one (ms_ret (c_call (ok__law_pick T) kb__law_pick_2 (hr.mono (by decide)) T.g__law_pick tk (am_p (ma_cons (m_var 0) (ma_cons (m_var 1) ma_nil)))))))
abbrev N__law_id : List Str := ["_law_source_here"]
theorem sc__law_id : FnScope N__law_id ["_law_source_here"] (defScope s__law_id) := ⟨rfl, rfl, rfl, by decide +kernel, rfl, by decide +kernel, by decide +kernel⟩
theorem bn__law_id {K : PySem.W.Frag} : BN K d__law_id ["_law_source_here"] := fun fd F => FunD.bindsN F fun _ _ _ _ _ _ us hl => match us, hl with | [_], _ => rfl
theorem kb__law_id_1 {K : PySem.W.Frag} : KB K d__law_id ["_law_source_here"] 1 [] (fun ms _ => ms) := bn__law_id.kb
theorem ok__law_id (T : Ctx K mg) : OkM PP w K mg base 3 d__law_id ["_law_source_here"] F__law_id := ok_M (T.c.def_ 55 (d := d__law_id) rfl) sc__law_id fun cdv A outer s H E hr tk pp => by
  have nd := sc__law_id.nd
  exact (mss_one (ms_ret (c_call (ok__law_pick T) kb__law_pick_2 (hr.mono (by decide)) T.g__law_pick tk (am_p (ma_cons (m_var 0) (ma_cons (m_frz (ml_lst (ma_cons (m_op op_mulM m_str m_int) (ma_cons (m_op op_mulM m_str m_int) (ma_cons m_str (ma_cons m_str ma_nil)))))) ma_nil))))))
abbrev N_Edit_check_open : List Str := ["self"]
theorem sc_Edit_check_open : FnScope N_Edit_check_open ["self"] (defScope s_Edit_check_open) := ⟨rfl, rfl, rfl, by decide +kernel, rfl, by decide +kernel, by decide +kernel⟩
theorem bn_Edit_check_open {K : PySem.W.Frag} : BN K d_Edit_check_open ["self"] := fun fd F => FunD.bindsN F fun _ _ _ _ _ _ us hl => match us, hl with | [_], _ => rfl
theorem kb_Edit_check_open_1 {K : PySem.W.Frag} : KB K d_Edit_check_open ["self"] 1 [] (fun ms _ => ms) := bn_Edit_check_open.kb
theorem ok_Edit_check_open (T : Ctx K mg) : OkM PP w K mg base 4 d_Edit_check_open ["self"] F_Edit_check_open := ok_M (T.c.def_ 15 (d := d_Edit_check_open) rfl) sc_Edit_check_open fun cdv A outer s H E hr tk pp => by
  have nd := sc_Edit_check_open.nd
  exact (mss_one (ms_if (mt_not (mt_val (m_fld (m_var 0) T.k_Edit T.n_Edit_is_open)))
      (mss_one (ms_raise (c := "BadCommand") rfl tk (mkr_BadCommand T) (hr.mono (by decide)) T.g_BadCommand m_str rk_BadCommand))
      mss_nil))
abbrev N_Refs_locked_by_others : List Str := ["self", "number", "others", "edit", "name"]
theorem sc_Refs_locked_by_others : FnScope N_Refs_locked_by_others ["self", "number"] (defScope s_Refs_locked_by_others) := ⟨rfl, rfl, rfl, by decide +kernel, rfl, by decide +kernel, by decide +kernel⟩
theorem bn_Refs_locked_by_others {K : PySem.W.Frag} : BN K d_Refs_locked_by_others ["self", "number"] := fun fd F => FunD.bindsN F fun _ _ _ _ _ _ us hl => match us, hl with | [_, _], _ => rfl
theorem kb_Refs_locked_by_others_2 {K : PySem.W.Frag} : KB K d_Refs_locked_by_others ["self", "number"] 2 [] (fun ms _ => ms) := bn_Refs_locked_by_others.kb
theorem ok_Refs_locked_by_others (T : Ctx K mg) : OkM PP w K mg base 1 d_Refs_locked_by_others ["self", "number"] F_Refs_locked_by_others := ok_M (T.c.def_ 48 (d := d_Refs_locked_by_others) rfl) sc_Refs_locked_by_others fun cdv A outer s H E hr tk pp => by
  have nd := sc_Refs_locked_by_others.nd
  exact (mss_cons (ms_lk tk fun _ tk => (ms_setLc (i := 2) (own := [("edit", 3)]) (is := [3]) (g := gNm) rfl nd rfl rfl (sw_true rfl rfl rfl (by decide +kernel)) (mi_any (m_fld (m_var 0) T.k_Refs T.n_Refs_edits)) (blkOk_by (own := [("edit", 3)]) (N := N_Refs_locked_by_others) (sc := defScope s_Refs_locked_by_others) (by decide +kernel)) (by decide) (fun _ _ _ _ _ => (tg_name (i := 3) nd)) (fun _ _ _ _ _ => (mts_one (PW.pt (mw_and (mt_val (m_fld (m_var 3) T.k_Edit T.n_Edit_is_open)) (mw_and1 (mt_cmp (op_neM hr) (m_fld (m_var 3) T.k_Edit T.n_Edit_turn) (m_var 1))))))) (fun _ _ _ _ _ => (m_var 3))))
    (mss_one (ms_ret (m_frz (ml_lkd (ml_lc2 (own := [("edit", 3), ("name", 4)]) (vs1 := [4]) (is := [3]) (is1 := [4]) rfl nd (mi_frz (m_var 2)) (blkOk_by (own := [("edit", 3), ("name", 4)]) (N := N_Refs_locked_by_others) (sc := defScope s_Refs_locked_by_others) (by decide +kernel)) (by decide) (by decide) (by decide) (fun _ _ _ _ _ => (tg_name (i := 3) nd)) (fun _ _ _ _ _ => mts_nil) (fun _ _ _ _ _ => (mi_any (m_fld (m_var 3) T.k_Edit T.n_Edit_grips))) (fun _ _ _ _ _ => (tg_name (i := 4) nd)) (fun _ _ _ _ _ => mts_nil) (fun _ _ _ _ _ => (m_var 4))))))))
abbrev N_are_near : List Str := ["one", "other"]
theorem sc_are_near : FnScope N_are_near ["one", "other"] (defScope s_are_near) := ⟨rfl, rfl, rfl, by decide +kernel, rfl, by decide +kernel, by decide +kernel⟩
theorem bn_are_near {K : PySem.W.Frag} : BN K d_are_near ["one", "other"] := fun fd F => FunD.bindsN F fun _ _ _ _ _ _ us hl => match us, hl with | [_, _], _ => rfl
theorem kb_are_near_2 {K : PySem.W.Frag} : KB K d_are_near ["one", "other"] 2 [] (fun ms _ => ms) := bn_are_near.kb
theorem ok_are_near (T : Ctx K mg) : OkM PP w K mg base 2 d_are_near ["one", "other"] F_are_near := ok_M (T.c.def_ 10 (d := d_are_near) rfl) sc_are_near fun cdv A outer s H E hr tk pp => by
  have nd := sc_are_near.nd
  exact (mss_one (ms_ret (m_or (m_cmp (op_eqM hr) (m_var 0) (m_var 1)) (m_or (m_cmp (op_inM hr) (m_var 0) (c_call (ok_above T) kb_above_1 (hr.mono (by decide)) T.g_above tk (am_p (ma_cons (m_var 1) ma_nil)))) (m_one (m_cmp (op_inM hr) (m_var 1) (c_call (ok_above T) kb_above_1 (hr.mono (by decide)) T.g_above tk (am_p (ma_cons (m_var 0) ma_nil)))))))))
abbrev N_Edit_lock : List Str := ["self", "name", "other"]
theorem sc_Edit_lock : FnScope N_Edit_lock ["self", "name"] (defScope s_Edit_lock) := ⟨rfl, rfl, rfl, by decide +kernel, rfl, by decide +kernel, by decide +kernel⟩
theorem bn_Edit_lock {K : PySem.W.Frag} : BN K d_Edit_lock ["self", "name"] := fun fd F => FunD.bindsN F fun _ _ _ _ _ _ us hl => match us, hl with | [_, _], _ => rfl
theorem kb_Edit_lock_2 {K : PySem.W.Frag} : KB K d_Edit_lock ["self", "name"] 2 [] (fun ms _ => ms) := bn_Edit_lock.kb
theorem ok_Edit_lock (T : Ctx K mg) : OkM PP w K mg base 4 d_Edit_lock ["self", "name"] F_Edit_lock := ok_M (T.c.def_ 16 (d := d_Edit_lock) rfl) sc_Edit_lock fun cdv A outer s H E hr tk pp => by
  have nd := sc_Edit_lock.nd
  exact (mss_cons (ms_for (is := [2]) pp rfl (mi_frz (m_frz (ml_sorted rfl T.f_sorted (ma_cons (c_meth (C := "Refs") (ok_Refs_locked_by_others T) kb_Refs_locked_by_others_2 (hr.mono (by decide)) T.k_Refs T.m_Refs_locked_by_others tk (m_fld (m_var 0) T.k_Edit T.n_Edit_home) (am_p (ma_cons (m_fld (m_var 0) T.k_Edit T.n_Edit_turn) ma_nil))) ma_nil)))) (tg_name (i := 2) nd)
      (mss_one (ms_if (mt_if (mt_cmp (op_inM hr) (m_c (T.c_HEAD rfl) fun _ _ => .str _) (m_tup (ma_cons (m_var 1) (ma_cons (m_var 2) ma_nil)))) (mt_cmp (op_eqM hr) (m_var 1) (m_var 2)) (mt_val (c_call (ok_are_near T) kb_are_near_2 (hr.mono (by decide)) T.g_are_near tk (am_p (ma_cons (m_var 1) (ma_cons (m_var 2) ma_nil))))))
        (mss_one (ms_raise (c := "Locked") rfl tk (mkr_Locked T) (hr.mono (by decide)) T.g_Locked (m_var 2) rk_Locked))
        mss_nil)))
    (mss_one (ms_expr (m_append (m_fld (m_var 0) T.k_Edit T.n_Edit_grips) (m_var 1)))))
abbrev N_Edit_call : List Str := ["self", "ref", "new", "old"]
theorem sc_Edit_call : FnScope N_Edit_call ["self", "ref", "new", "old"] (defScope s_Edit_call) := ⟨rfl, rfl, rfl, by decide +kernel, rfl, by decide +kernel, by decide +kernel⟩
theorem bn_Edit_call {K : PySem.W.Frag} : BN K d_Edit_call ["self", "ref", "new", "old"] := fun fd F => FunD.bindsN F fun _ _ _ _ _ _ us hl => match us, hl with | [_, _, _, _], _ => rfl
theorem kb_Edit_call_4 {K : PySem.W.Frag} : KB K d_Edit_call ["self", "ref", "new", "old"] 4 [] (fun ms _ => ms) := bn_Edit_call.kb
theorem ok_Edit_call (T : Ctx K mg) : OkM PP w K mg base 5 d_Edit_call ["self", "ref", "new", "old"] F_Edit_call := ok_M (T.c.def_ 17 (d := d_Edit_call) rfl) sc_Edit_call fun cdv A outer s H E hr tk pp => by
  have nd := sc_Edit_call.nd
  exact (mss_cons (ms_if (PW.pt (mw_and (mt_cmp op_notNM (m_var 3) m_non) (mw_and (mt_cmp (op_neM hr) (m_var 3) m_str) (mw_and1 (mt_not (mt_val (c_call (ok_is_id T) kb_is_id_1 (hr.mono (by decide)) T.g_is_id tk (am_p (ma_cons (m_var 3) ma_nil)))))))))
      (mss_one (ms_raise (c := "BadName") rfl tk (mkr_BadName T) (hr.mono (by decide)) T.g_BadName m_str rk_BadName))
      mss_nil)
    (mss_cons (ms_expr (c_meth (C := "Edit") (ok_Edit_lock T) kb_Edit_lock_2 (hr.mono (by decide)) T.k_Edit T.m_Edit_lock tk (m_var 0) (am_p (ma_cons (m_var 1) ma_nil))))
    (mss_cons (ms_expr (m_pop2 (m_fld (m_var 0) T.k_Edit T.n_Edit_calls) (m_var 1) m_non))
    (mss_one (ms_sub hr (m_tup (ma_cons (m_var 2) (ma_cons (m_var 3) ma_nil))) (m_fld (m_var 0) T.k_Edit T.n_Edit_calls) (m_var 1))))))
abbrev N_Edit_point : List Str := ["self", "ref", "new", "old"]
theorem sc_Edit_point : FnScope N_Edit_point ["self", "ref", "new", "old"] (defScope s_Edit_point) := ⟨rfl, rfl, rfl, by decide +kernel, rfl, by decide +kernel, by decide +kernel⟩
theorem kb_Edit_point_3_old {K : PySem.W.Frag} : KB K d_Edit_point ["self", "ref", "new", "old"] 3 ["old"] (gkw [none] [0]) := fun fd F => by
  obtain ⟨mv, B⟩ := FunD.kbinds0 (ps := ["self", "ref", "new", "old"]) F 3 ["old"] [] (fun us _ ws => us ++ ws) (by intro h; cases h) (by intro q h; cases h) (fun r _ r2 => r.append r2) fun _ _ _ _ _ _ us mv ws h1 h2 h3 => match us, h1, mv, h2, ws, h3 with | [_, _, _], _, [], _, [_], _ => rfl
  refine kbm_kw ⟨_, B⟩ fun {ι H ms zs vs ws} h1 h2 r1 r2 => ?_
  match zs, h2, r2 with
  | [_], _, .cons a .nil => exact ⟨r1.append (.cons a .nil), by rw [List.length_append, ← r1.length, h1]; rfl⟩
theorem ok_Edit_point (T : Ctx K mg) : OkM PP w K mg base 6 d_Edit_point ["self", "ref", "new", "old"] F_Edit_point := ok_M (T.c.def_ 18 (d := d_Edit_point) rfl) sc_Edit_point fun cdv A outer s H E hr tk pp => by
  have nd := sc_Edit_point.nd
  exact (mss_cons (ms_expr (c_meth (C := "Edit") (ok_Edit_check_open T) kb_Edit_check_open_1 (hr.mono (by decide)) T.k_Edit T.m_Edit_check_open tk (m_var 0) am_n))
    (mss_cons (ms_if (mt_not (mt_val (c_call (ok_is_ref T) kb_is_ref_1 (hr.mono (by decide)) T.g_is_ref tk (am_p (ma_cons (m_var 1) ma_nil)))))
      (mss_one (ms_raise (c := "BadRef") rfl tk (mkr_BadRef T) (hr.mono (by decide)) T.g_BadRef m_str rk_BadRef))
      mss_nil)
    (mss_cons (ms_if (mt_not (mt_val (c_call (ok_is_id T) kb_is_id_1 (hr.mono (by decide)) T.g_is_id tk (am_p (ma_cons (m_var 2) ma_nil)))))
      (mss_one (ms_raise (c := "BadName") rfl tk (mkr_BadName T) (hr.mono (by decide)) T.g_BadName m_str rk_BadName))
      mss_nil)
    (mss_one (ms_expr (c_meth (C := "Edit") (ok_Edit_call T) kb_Edit_call_4 (hr.mono (by decide)) T.k_Edit T.m_Edit_call tk (m_var 0) (am_p (ma_cons (m_var 1) (ma_cons (m_var 2) (ma_cons (m_var 3) ma_nil))))))))))
abbrev N_Edit_delete : List Str := ["self", "ref", "old"]
theorem sc_Edit_delete : FnScope N_Edit_delete ["self", "ref", "old"] (defScope s_Edit_delete) := ⟨rfl, rfl, rfl, by decide +kernel, rfl, by decide +kernel, by decide +kernel⟩
theorem kb_Edit_delete_2_old {K : PySem.W.Frag} : KB K d_Edit_delete ["self", "ref", "old"] 2 ["old"] (gkw [none] [0]) := fun fd F => by
  obtain ⟨mv, B⟩ := FunD.kbinds0 (ps := ["self", "ref", "old"]) F 2 ["old"] [] (fun us _ ws => us ++ ws) (by intro h; cases h) (by intro q h; cases h) (fun r _ r2 => r.append r2) fun _ _ _ _ _ _ us mv ws h1 h2 h3 => match us, h1, mv, h2, ws, h3 with | [_, _], _, [], _, [_], _ => rfl
  refine kbm_kw ⟨_, B⟩ fun {ι H ms zs vs ws} h1 h2 r1 r2 => ?_
  match zs, h2, r2 with
  | [_], _, .cons a .nil => exact ⟨r1.append (.cons a .nil), by rw [List.length_append, ← r1.length, h1]; rfl⟩
theorem ok_Edit_delete (T : Ctx K mg) : OkM PP w K mg base 6 d_Edit_delete ["self", "ref", "old"] F_Edit_delete := ok_M (T.c.def_ 19 (d := d_Edit_delete) rfl) sc_Edit_delete fun cdv A outer s H E hr tk pp => by
  have nd := sc_Edit_delete.nd
  exact (mss_cons (ms_expr (c_meth (C := "Edit") (ok_Edit_check_open T) kb_Edit_check_open_1 (hr.mono (by decide)) T.k_Edit T.m_Edit_check_open tk (m_var 0) am_n))
    (mss_cons (ms_if (mt_not (mt_val (c_call (ok_is_ref T) kb_is_ref_1 (hr.mono (by decide)) T.g_is_ref tk (am_p (ma_cons (m_var 1) ma_nil)))))
      (mss_one (ms_raise (c := "BadRef") rfl tk (mkr_BadRef T) (hr.mono (by decide)) T.g_BadRef m_str rk_BadRef))
      mss_nil)
    (mss_one (ms_expr (c_meth (C := "Edit") (ok_Edit_call T) kb_Edit_call_4 (hr.mono (by decide)) T.k_Edit T.m_Edit_call tk (m_var 0) (am_p (ma_cons (m_var 1) (ma_cons m_non (ma_cons (m_var 2) ma_nil)))))))))
abbrev N_Edit_stand : List Str := ["self", "word", "name"]
theorem sc_Edit_stand : FnScope N_Edit_stand ["self", "word", "name"] (defScope s_Edit_stand) := ⟨rfl, rfl, rfl, by decide +kernel, rfl, by decide +kernel, by decide +kernel⟩
theorem bn_Edit_stand {K : PySem.W.Frag} : BN K d_Edit_stand ["self", "word", "name"] := fun fd F => FunD.bindsN F fun _ _ _ _ _ _ us hl => match us, hl with | [_, _, _], _ => rfl
theorem kb_Edit_stand_3 {K : PySem.W.Frag} : KB K d_Edit_stand ["self", "word", "name"] 3 [] (fun ms _ => ms) := bn_Edit_stand.kb
theorem ok_Edit_stand (T : Ctx K mg) : OkM PP w K mg base 5 d_Edit_stand ["self", "word", "name"] F_Edit_stand := ok_M (T.c.def_ 20 (d := d_Edit_stand) rfl) sc_Edit_stand fun cdv A outer s H E hr tk pp => by
  have nd := sc_Edit_stand.nd
  exact (mss_cons (ms_expr (c_meth (C := "Edit") (ok_Edit_check_open T) kb_Edit_check_open_1 (hr.mono (by decide)) T.k_Edit T.m_Edit_check_open tk (m_var 0) am_n))
    (mss_cons (ms_if (PW.pt (mw_or (mt_not (mt_val (m_isi T.f_isinstance (ma_cons (m_var 1) (ma_cons (m_ty T.f_str bt_str) ma_nil))))) (mw_or1 (mt_cmp (op_notInM hr) (m_var 1) (m_tup (ma_cons m_str (ma_cons m_str ma_nil)))))))
      (mss_one (ms_raise (c := "BadName") rfl tk (mkr_BadName T) (hr.mono (by decide)) T.g_BadName m_str rk_BadName))
      mss_nil)
    (mss_cons (ms_if (PW.pt (mw_and (mt_cmp (op_eqM hr) (m_var 1) m_str) (mw_and1 (mt_not (mt_val (c_call (ok_is_ref T) kb_is_ref_1 (hr.mono (by decide)) T.g_is_ref tk (am_p (ma_cons (m_var 2) ma_nil))))))))
      (mss_one (ms_raise (c := "BadRef") rfl tk (mkr_BadRef T) (hr.mono (by decide)) T.g_BadRef m_str rk_BadRef))
      mss_nil)
    (mss_cons (ms_if (PW.pt (mw_and (mt_cmp (op_eqM hr) (m_var 1) m_str) (mw_and1 (mt_not (mt_val (c_call (ok_is_id T) kb_is_id_1 (hr.mono (by decide)) T.g_is_id tk (am_p (ma_cons (m_var 2) ma_nil))))))))
      (mss_one (ms_raise (c := "BadName") rfl tk (mkr_BadName T) (hr.mono (by decide)) T.g_BadName m_str rk_BadName))
      mss_nil)
    (mss_cons (ms_expr (c_meth (C := "Edit") (ok_Edit_lock T) kb_Edit_lock_2 (hr.mono (by decide)) T.k_Edit T.m_Edit_lock tk (m_var 0) (am_p (ma_cons (m_c (T.c_HEAD rfl) fun _ _ => .str _) ma_nil))))
    (mss_one (ms_fld (m_var 0) (m_tup (ma_cons (m_var 1) (ma_cons (m_var 2) ma_nil))) T.k_Edit T.n_Edit_stands)))))))
abbrev N__law_noted : List Str := ["_law_source_here", "_law_edit", "_law_m", "_law_calls", "_law_stands_here", "_law_k", "_law_way", "_law_ref_here", "_law_had", "_law_call"]
theorem sc__law_noted : FnScope N__law_noted ["_law_source_here", "_law_edit", "_law_m"] (defScope s__law_noted) := ⟨rfl, rfl, rfl, by decide +kernel, rfl, by decide +kernel, by decide +kernel⟩
theorem bn__law_noted {K : PySem.W.Frag} : BN K d__law_noted ["_law_source_here", "_law_edit", "_law_m"] := fun fd F => FunD.bindsN F fun _ _ _ _ _ _ us hl => match us, hl with | [_, _, _], _ => rfl
theorem kb__law_noted_3 {K : PySem.W.Frag} : KB K d__law_noted ["_law_source_here", "_law_edit", "_law_m"] 3 [] (fun ms _ => ms) := bn__law_noted.kb
theorem ok__law_noted (T : Ctx K mg) : OkM PP w K mg base 7 d__law_noted ["_law_source_here", "_law_edit", "_law_m"] F__law_noted := ok_M (T.c.def_ 61 (d := d__law_noted) rfl) sc__law_noted fun cdv A outer s H E hr tk pp => by
  have nd := sc__law_noted.nd
  exact (mss_cons (ms_par (i := 3) (j := 4) rfl nd (ma_cons (m_ref (ml_lst ma_nil)) (ma_cons m_non ma_nil)))
    (mss_cons (ms_for (is := [5]) pp rfl (mi_range1 T.f_range (ma_cons (c_call (ok__law_draw T) kb__law_draw_2 (hr.mono (by decide)) T.g__law_draw tk (am_p (ma_cons (m_var 0) (ma_cons m_int ma_nil)))) ma_nil)) (tg_name (i := 5) nd)
      (mss_cons (ms_asg (is := [6, 7]) (m_tup (ma_cons (c_call (ok__law_draw T) kb__law_draw_2 (hr.mono (by decide)) T.g__law_draw tk (am_p (ma_cons (m_var 0) (ma_cons m_int ma_nil)))) (ma_cons (c_call (ok__law_ref T) kb__law_ref_1 (hr.mono (by decide)) T.g__law_ref tk (am_p (ma_cons (m_var 0) ma_nil))) ma_nil))) (tg_tup rfl (tgs_cons (tg_name (i := 6) nd) (tgs_cons (tg_name (i := 7) nd) tgs_nil))))
      (mss_cons (ms_set (i := 8) nd (c_call (ok__law_pick T) kb__law_pick_2 (hr.mono (by decide)) T.g__law_pick tk (am_p (ma_cons (m_var 0) (ma_cons (m_frz (ml_lst (ma_cons m_str (ma_cons m_str (ma_cons m_str (ma_cons (m_get1 hr (m_ix (ix_M hr) (m_var 2) m_str) (m_var 7)) (ma_cons m_non (ma_cons (c_call (ok__law_id T) kb__law_id_1 (hr.mono (by decide)) T.g__law_id tk (am_p (ma_cons (m_var 0) ma_nil))) ma_nil)))))))) ma_nil)))))
      (mss_cons (ms_lk tk fun _ tk => (ms_setLcR (i := 3) (own := [("_law_call", 9)]) (is := [9]) (g := gNm) rfl nd rfl rfl (sw_true rfl rfl rfl (by decide +kernel)) (mi_any (m_var 3)) (blkOk_by (own := [("_law_call", 9)]) (N := N__law_noted) (sc := defScope s__law_noted) (by decide +kernel)) (by decide) (fun _ _ _ _ _ => (tg_name (i := 9) nd)) (fun _ _ _ _ _ => (mts_one (PW.pt (mw_or (mt_cmp (op_neM hr) (m_ix (ix_M hr) (m_var 9) m_int) (m_var 7)) (mw_or1 (mt_cmp (op_eqM hr) (m_var 6) m_int)))))) (fun _ _ _ _ _ => (m_var 9))))
      (mss_one (ms_if (mt_cmp op_ltM (m_var 6) m_int)
        (mss_cons (ms_expr (m_append (m_var 3) (m_tup (ma_cons (m_var 7) (ma_cons (c_call (ok__law_id T) kb__law_id_1 (hr.mono (by decide)) T.g__law_id tk (am_p (ma_cons (m_var 0) ma_nil))) (ma_cons (m_var 8) ma_nil))))))
        (mss_one (ms_expr (c_meth (C := "Edit") (ok_Edit_point T) kb_Edit_point_3_old (hr.mono (by decide)) T.k_Edit T.m_Edit_point tk (m_var 1) (am_pk (ma_cons (m_var 7) (ma_cons (m_ix (ix_M hr) (m_ix (ix_M hr) (m_var 3) (m_neg m_int)) m_int) ma_nil)) (mk_cons (m_var 8) mk_nil))))))
        (mss_one (ms_if (mt_cmp (op_eqM hr) (m_var 6) m_int)
          (mss_cons (ms_expr (m_append (m_var 3) (m_tup (ma_cons (m_var 7) (ma_cons m_non (ma_cons (m_var 8) ma_nil))))))
          (mss_one (ms_expr (c_meth (C := "Edit") (ok_Edit_delete T) kb_Edit_delete_2_old (hr.mono (by decide)) T.k_Edit T.m_Edit_delete tk (m_var 1) (am_pk (ma_cons (m_var 7) ma_nil) (mk_cons (m_var 8) mk_nil))))))
          (mss_cons (ms_set (i := 4) nd (c_call (ok__law_pick T) kb__law_pick_2 (hr.mono (by decide)) T.g__law_pick tk (am_p (ma_cons (m_var 0) (ma_cons (m_frz (ml_lst (ma_cons (m_tup (ma_cons m_str (ma_cons (m_var 7) ma_nil))) (ma_cons (m_tup (ma_cons m_str (ma_cons (c_call (ok__law_id T) kb__law_id_1 (hr.mono (by decide)) T.g__law_id tk (am_p (ma_cons (m_var 0) ma_nil))) ma_nil))) ma_nil)))) ma_nil)))))
          (mss_one (ms_expr (c_meth (C := "Edit") (ok_Edit_stand T) kb_Edit_stand_3 (hr.mono (by decide)) T.k_Edit T.m_Edit_stand tk (m_var 1) (am_p (ma_cons (m_ix (ix_M hr) (m_var 4) m_int) (ma_cons (m_ix (ix_M hr) (m_var 4) m_int) ma_nil)))))))))))))))
    (mss_one (ms_ret (m_tup (ma_cons (m_var 3) (ma_cons (m_var 4) ma_nil)))))))
abbrev N_Edit_drop : List Str := ["self"]
theorem sc_Edit_drop : FnScope N_Edit_drop ["self"] (defScope s_Edit_drop) := ⟨rfl, rfl, rfl, by decide +kernel, rfl, by decide +kernel, by decide +kernel⟩
theorem bn_Edit_drop {K : PySem.W.Frag} : BN K d_Edit_drop ["self"] := fun fd F => FunD.bindsN F fun _ _ _ _ _ _ us hl => match us, hl with | [_], _ => rfl
theorem kb_Edit_drop_1 {K : PySem.W.Frag} : KB K d_Edit_drop ["self"] 1 [] (fun ms _ => ms) := bn_Edit_drop.kb
theorem ok_Edit_drop (T : Ctx K mg) : OkM PP w K mg base 5 d_Edit_drop ["self"] F_Edit_drop := ok_M (T.c.def_ 14 (d := d_Edit_drop) rfl) sc_Edit_drop fun cdv A outer s H E hr tk pp => by
  have nd := sc_Edit_drop.nd
  exact (mss_cons (ms_expr (c_meth (C := "Edit") (ok_Edit_check_open T) kb_Edit_check_open_1 (hr.mono (by decide)) T.k_Edit T.m_Edit_check_open tk (m_var 0) am_n))
    (mss_one (ms_fld (m_var 0) m_bl T.k_Edit T.n_Edit_is_open)))
abbrev N_Edit_check : List Str := ["self", "values", "ref", "new", "old", "prefix"]
theorem sc_Edit_check : FnScope N_Edit_check ["self"] (defScope s_Edit_check) := ⟨rfl, rfl, rfl, by decide +kernel, rfl, by decide +kernel, by decide +kernel⟩
theorem bn_Edit_check {K : PySem.W.Frag} : BN K d_Edit_check ["self"] := fun fd F => FunD.bindsN F fun _ _ _ _ _ _ us hl => match us, hl with | [_], _ => rfl
theorem kb_Edit_check_1 {K : PySem.W.Frag} : KB K d_Edit_check ["self"] 1 [] (fun ms _ => ms) := bn_Edit_check.kb
theorem ok_Edit_check (T : Ctx K mg) : OkM PP w K mg base 5 d_Edit_check ["self"] F_Edit_check := ok_M (T.c.def_ 21 (d := d_Edit_check) rfl) sc_Edit_check fun cdv A outer s H E hr tk pp => by
  have nd := sc_Edit_check.nd
  exact (mss_cons (ms_expr (c_meth (C := "Edit") (ok_Edit_check_open T) kb_Edit_check_open_1 (hr.mono (by decide)) T.k_Edit T.m_Edit_check_open tk (m_var 0) am_n))
    (mss_cons (ms_set (i := 1) nd (m_dict rfl T.f_dict (ma_cons (m_fld (m_fld (m_var 0) T.k_Edit T.n_Edit_home) T.k_Refs T.n_Refs_table) ma_nil)))
    (mss_cons (ms_lk tk fun _ tk => (ms_for (is := [2, 3, 4]) pp rfl (mi_items (m_fld (m_var 0) T.k_Edit T.n_Edit_calls)) (tg_tup rfl (tgs_cons (tg_name (i := 2) nd) (tgs_cons (tg_tup rfl (tgs_cons (tg_name (i := 3) nd) (tgs_cons (tg_name (i := 4) nd) tgs_nil))) tgs_nil)))
      (mss_one (ms_if (PW.pt (mw_and (mt_cmp (op_neM hr) (m_var 4) m_str) (mw_and1 (mt_cmp (op_neM hr) (m_get1 hr (m_fld (m_fld (m_var 0) T.k_Edit T.n_Edit_home) T.k_Refs T.n_Refs_table) (m_var 2)) (m_var 4)))))
        (mss_one (ms_raise (c := "Stale") rfl tk (mkr_Stale T) (hr.mono (by decide)) T.g_Stale (m_var 2) rk_Stale))
        mss_nil))))
    (mss_cons (ms_lk tk fun _ tk => (ms_for (is := [2, 3, 4]) pp rfl (mi_items (m_fld (m_var 0) T.k_Edit T.n_Edit_calls)) (tg_tup rfl (tgs_cons (tg_name (i := 2) nd) (tgs_cons (tg_tup rfl (tgs_cons (tg_name (i := 3) nd) (tgs_cons (tg_name (i := 4) nd) tgs_nil))) tgs_nil)))
      (mss_cons (ms_expr (m_pop2 (m_var 1) (m_var 2) m_non))
      (mss_one (ms_if (mt_cmp op_notNM (m_var 3) m_non)
        (mss_one (ms_sub hr (m_var 3) (m_var 1) (m_var 2)))
        mss_nil)))))
    (mss_cons (ms_if (mt_val (m_any rfl T.f_any (ma_cons (m_frz (ml_lk (ml_lc2 (own := [("ref", 2), ("prefix", 5)]) (vs1 := [5]) (is := [2]) (is1 := [5]) rfl nd (mi_any (m_var 1)) (blkOk_by (own := [("ref", 2), ("prefix", 5)]) (N := N_Edit_check) (sc := defScope s_Edit_check) (by decide +kernel)) (by decide) (by decide) (by decide) (fun _ _ _ _ _ => (tg_name (i := 2) nd)) (fun _ _ _ _ _ => mts_nil) (fun _ _ _ _ _ => (mi_frz (c_call (ok_above T) kb_above_1 (hr.mono (by decide)) T.g_above tk0 (am_p (ma_cons (m_var 2) ma_nil))))) (fun _ _ _ _ _ => (tg_name (i := 5) nd)) (fun _ _ _ _ _ => mts_nil) (fun _ _ _ _ _ => (m_cmp (op_inM hr) (m_var 5) (m_var 1)))))) ma_nil)))
      (mss_one (ms_raise (c := "BadRef") rfl tk (mkr_BadRef T) (hr.mono (by decide)) T.g_BadRef m_str rk_BadRef))
      mss_nil)
    (mss_one (ms_ret (m_var 1))))))))
abbrev N_Edit_moves : List Str := ["self", "values", "had", "names", "ref"]
theorem sc_Edit_moves : FnScope N_Edit_moves ["self"] (defScope s_Edit_moves) := ⟨rfl, rfl, rfl, by decide +kernel, rfl, by decide +kernel, by decide +kernel⟩
theorem bn_Edit_moves {K : PySem.W.Frag} : BN K d_Edit_moves ["self"] := fun fd F => FunD.bindsN F fun _ _ _ _ _ _ us hl => match us, hl with | [_], _ => rfl
theorem kb_Edit_moves_1 {K : PySem.W.Frag} : KB K d_Edit_moves ["self"] 1 [] (fun ms _ => ms) := bn_Edit_moves.kb
theorem ok_Edit_moves (T : Ctx K mg) : OkM PP w K mg base 6 d_Edit_moves ["self"] F_Edit_moves := ok_M (T.c.def_ 22 (d := d_Edit_moves) rfl) sc_Edit_moves fun cdv A outer s H E hr tk pp => by
  have nd := sc_Edit_moves.nd
  exact (mss_cons (ms_asg (is := [1, 2]) (m_tup (ma_cons (c_meth (C := "Edit") (ok_Edit_check T) kb_Edit_check_1 (hr.mono (by decide)) T.k_Edit T.m_Edit_check tk (m_var 0) am_n) (ma_cons (m_fld (m_fld (m_var 0) T.k_Edit T.n_Edit_home) T.k_Refs T.n_Refs_table) ma_nil))) (tg_tup rfl (tgs_cons (tg_name (i := 1) nd) (tgs_cons (tg_name (i := 2) nd) tgs_nil))))
    (mss_cons (ms_setLc (i := 3) (own := [("ref", 4)]) (is := [4]) (g := gNm) rfl nd rfl rfl (sw_true rfl rfl rfl (by decide +kernel)) (mi_frz (m_frz (ml_sorted rfl T.f_sorted (ma_cons (m_fld (m_var 0) T.k_Edit T.n_Edit_calls) ma_nil)))) (blkOk_by (own := [("ref", 4)]) (N := N_Edit_moves) (sc := defScope s_Edit_moves) (by decide +kernel)) (by decide) (fun _ _ _ _ _ => (tg_name (i := 4) nd)) (fun _ _ _ _ _ => (mts_one (mt_cmp (op_neM hr) (m_get1 hr (m_var 2) (m_var 4)) (m_get1 hr (m_var 1) (m_var 4))))) (fun _ _ _ _ _ => (m_var 4)))
    (mss_one (ms_ret (m_tuple T.f_tuple (ma_cons (m_frz (ml_lc (own := [("ref", 4)]) (is := [4]) (g := gNm) rfl nd (mi_frz (m_var 3)) (blkOk_by (own := [("ref", 4)]) (N := N_Edit_moves) (sc := defScope s_Edit_moves) (by decide +kernel)) (by decide) (fun _ _ _ _ _ => (tg_name (i := 4) nd)) (fun _ _ _ _ _ => mts_nil) (fun _ _ _ _ _ => (m_tup (ma_cons (m_var 4) (ma_cons (m_get1 hr (m_var 2) (m_var 4)) (ma_cons (m_get1 hr (m_var 1) (m_var 4)) ma_nil))))))) ma_nil))))))
abbrev N_Refs_state : List Str := ["self", "values", "logs", "ref", "name"]
theorem sc_Refs_state : FnScope N_Refs_state ["self"] (defScope s_Refs_state) := ⟨rfl, rfl, rfl, by decide +kernel, rfl, by decide +kernel, by decide +kernel⟩
theorem bn_Refs_state {K : PySem.W.Frag} : BN K d_Refs_state ["self"] := fun fd F => FunD.bindsN F fun _ _ _ _ _ _ us hl => match us, hl with | [_], _ => rfl
theorem kb_Refs_state_1 {K : PySem.W.Frag} : KB K d_Refs_state ["self"] 1 [] (fun ms _ => ms) := bn_Refs_state.kb
theorem ok_Refs_state (T : Ctx K mg) : OkM PP w K mg base 1 d_Refs_state ["self"] F_Refs_state := ok_M (T.c.def_ 43 (d := d_Refs_state) rfl) sc_Refs_state fun cdv A outer s H E hr tk pp => by
  have nd := sc_Refs_state.nd
  exact (mss_cons (ms_set (i := 1) nd (m_tupleP T.f_tuple (ma_cons (m_frz (ml_lc (own := [("ref", 3)]) (is := [3]) (g := gNm) rfl nd (mi_frz (m_frz (ml_sorted rfl T.f_sorted (ma_cons (m_fld (m_var 0) T.k_Refs T.n_Refs_table) ma_nil)))) (blkOk_by (own := [("ref", 3)]) (N := N_Refs_state) (sc := defScope s_Refs_state) (by decide +kernel)) (by decide) (fun _ _ _ _ _ => (tg_name (i := 3) nd)) (fun _ _ _ _ _ => mts_nil) (fun _ _ _ _ _ => (m_tup (ma_cons (m_var 3) (ma_cons (m_ix (ix_M hr) (m_fld (m_var 0) T.k_Refs T.n_Refs_table) (m_var 3)) ma_nil)))))) ma_nil)))
    (mss_cons (ms_set (i := 2) nd (m_tuple T.f_tuple (ma_cons (m_frz (ml_lc (own := [("name", 4)]) (is := [4]) (g := gNm) rfl nd (mi_frz (m_frz (ml_sorted rfl T.f_sorted (ma_cons (m_fld (m_var 0) T.k_Refs T.n_Refs_logs) ma_nil)))) (blkOk_by (own := [("name", 4)]) (N := N_Refs_state) (sc := defScope s_Refs_state) (by decide +kernel)) (by decide) (fun _ _ _ _ _ => (tg_name (i := 4) nd)) (fun _ _ _ _ _ => (mts_one (mt_cmp (op_neM hr) (m_ix (ix_M hr) (m_fld (m_var 0) T.k_Refs T.n_Refs_logs) (m_var 4)) (m_frz (ml_lst ma_nil))))) (fun _ _ _ _ _ => (m_tup (ma_cons (m_var 4) (ma_cons (m_tuple T.f_tuple (ma_cons (m_ix (ix_M hr) (m_fld (m_var 0) T.k_Refs T.n_Refs_logs) (m_var 4)) ma_nil)) ma_nil)))))) ma_nil)))
    (mss_one (ms_ret (m_tup (ma_cons (m_var 1) (ma_cons (m_fld (m_var 0) T.k_Refs T.n_Refs_spot) (ma_cons (m_var 2) ma_nil))))))))
abbrev N_Refs_copied : List Str := ["self"]
theorem sc_Refs_copied : FnScope N_Refs_copied ["self"] (defScope s_Refs_copied) := ⟨rfl, rfl, rfl, by decide +kernel, rfl, by decide +kernel, by decide +kernel⟩
theorem bn_Refs_copied {K : PySem.W.Frag} : BN K d_Refs_copied ["self"] := fun fd F => FunD.bindsN F fun _ _ _ _ _ _ us hl => match us, hl with | [_], _ => rfl
theorem kb_Refs_copied_1 {K : PySem.W.Frag} : KB K d_Refs_copied ["self"] 1 [] (fun ms _ => ms) := bn_Refs_copied.kb
theorem ok_Refs_copied (T : Ctx K mg) : OkM PP w K mg base 10 d_Refs_copied ["self"] F_Refs_copied := ok_M (T.c.def_ 45 (d := d_Refs_copied) rfl) sc_Refs_copied fun cdv A outer s H E hr tk pp => by
  have nd := sc_Refs_copied.nd
  exact (mss_one (ms_ret (c_make (C := "Refs") (ok_Refs___init__ T) kb_Refs___init___2 (hr.mono (by decide)) T.mk_Refs T.g_Refs tk (am_p (ma_cons (c_meth (C := "Refs") (ok_Refs_state T) kb_Refs_state_1 (hr.mono (by decide)) T.k_Refs T.m_Refs_state tk (m_var 0) am_n) ma_nil)))))
abbrev N_Refs_note : List Str := ["self", "name", "entry"]
theorem sc_Refs_note : FnScope N_Refs_note ["self", "name", "entry"] (defScope s_Refs_note) := ⟨rfl, rfl, rfl, by decide +kernel, rfl, by decide +kernel, by decide +kernel⟩
theorem bn_Refs_note {K : PySem.W.Frag} : BN K d_Refs_note ["self", "name", "entry"] := fun fd F => FunD.bindsN F fun _ _ _ _ _ _ us hl => match us, hl with | [_, _, _], _ => rfl
theorem kb_Refs_note_3 {K : PySem.W.Frag} : KB K d_Refs_note ["self", "name", "entry"] 3 [] (fun ms _ => ms) := bn_Refs_note.kb
theorem ok_Refs_note (T : Ctx K mg) : OkM PP w K mg base 1 d_Refs_note ["self", "name", "entry"] F_Refs_note := ok_M (T.c.def_ 46 (d := d_Refs_note) rfl) sc_Refs_note fun cdv A outer s H E hr tk pp => by
  have nd := sc_Refs_note.nd
  exact (mss_one (ms_sub hr (m_frz (ml_cat (m_get2 hr (m_fld (m_var 0) T.k_Refs T.n_Refs_logs) (m_var 1) (m_frz (ml_lst ma_nil))) (m_frz (ml_lst (ma_cons (m_var 2) ma_nil))))) (m_fld (m_var 0) T.k_Refs T.n_Refs_logs) (m_var 1)))
abbrev N_Edit_behind : List Str := ["self", "moves", "other", "was", "ref", "old", "new"]
theorem sc_Edit_behind : FnScope N_Edit_behind ["self"] (defScope s_Edit_behind) := ⟨rfl, rfl, rfl, by decide +kernel, rfl, by decide +kernel, by decide +kernel⟩
theorem bn_Edit_behind {K : PySem.W.Frag} : BN K d_Edit_behind ["self"] := fun fd F => FunD.bindsN F fun _ _ _ _ _ _ us hl => match us, hl with | [_], _ => rfl
theorem kb_Edit_behind_1 {K : PySem.W.Frag} : KB K d_Edit_behind ["self"] 1 [] (fun ms _ => ms) := bn_Edit_behind.kb
theorem ok_Edit_behind (T : Ctx K mg) : OkM PP w K mg base 11 d_Edit_behind ["self"] F_Edit_behind := ok_M (T.c.def_ 23 (d := d_Edit_behind) rfl) sc_Edit_behind fun cdv A outer s H E hr tk pp => by
  have nd := sc_Edit_behind.nd
  exact (mss_cons (ms_set (i := 1) nd (c_meth (C := "Edit") (ok_Edit_moves T) kb_Edit_moves_1 (hr.mono (by decide)) T.k_Edit T.m_Edit_moves tk (m_var 0) am_n))
    (mss_cons (ms_set (i := 2) nd (c_meth (C := "Refs") (ok_Refs_copied T) kb_Refs_copied_1 (hr.mono (by decide)) T.k_Refs T.m_Refs_copied tk (m_fld (m_var 0) T.k_Edit T.n_Edit_home) am_n))
    (mss_cons (ms_set (i := 3) nd (c_meth (C := "Refs") (ok_Refs_at_head T) kb_Refs_at_head_1 (hr.mono (by decide)) T.k_Refs T.m_Refs_at_head tk (m_var 2) am_n))
    (mss_cons (ms_fld (m_var 2) (c_meth (C := "Edit") (ok_Edit_check T) kb_Edit_check_1 (hr.mono (by decide)) T.k_Edit T.m_Edit_check tk (m_var 0) am_n) T.k_Refs T.n_Refs_table)
    (mss_cons (ms_fld (m_var 2) (m_if (mt_cmp op_isNM (m_fld (m_var 0) T.k_Edit T.n_Edit_stands) m_non) (m_fld (m_var 2) T.k_Refs T.n_Refs_spot) (m_fld (m_var 0) T.k_Edit T.n_Edit_stands)) T.k_Refs T.n_Refs_spot)
    (mss_cons (ms_lk tk fun _ tk => (ms_for (is := [4, 5, 6]) pp rfl (mi_any (m_var 1)) (tg_tup rfl (tgs_cons (tg_name (i := 4) nd) (tgs_cons (tg_name (i := 5) nd) (tgs_cons (tg_name (i := 6) nd) tgs_nil))))
      (mss_one (ms_expr (c_meth (C := "Refs") (ok_Refs_note T) kb_Refs_note_3 (hr.mono (by decide)) T.k_Refs T.m_Refs_note tk (m_var 2) (am_p (ma_cons (m_var 4) (ma_cons (m_op op_addM (m_tup (ma_cons (m_var 5) (ma_cons (m_var 6) ma_nil))) (m_fld (m_var 0) T.k_Edit T.n_Edit_signed)) ma_nil))))))))
    (mss_cons (ms_if (PW.pt (mw_or (mt_cmp (op_neM hr) (m_fld (m_var 2) T.k_Refs T.n_Refs_spot) (m_fld (m_fld (m_var 0) T.k_Edit T.n_Edit_home) T.k_Refs T.n_Refs_spot)) (mw_or1 (mt_cmp (op_neM hr) (c_meth (C := "Refs") (ok_Refs_at_head T) kb_Refs_at_head_1 (hr.mono (by decide)) T.k_Refs T.m_Refs_at_head tk (m_var 2) am_n) (m_var 3)))))
      (mss_one (ms_expr (c_meth (C := "Refs") (ok_Refs_note T) kb_Refs_note_3 (hr.mono (by decide)) T.k_Refs T.m_Refs_note tk (m_var 2) (am_p (ma_cons (m_c (T.c_HEAD rfl) fun _ _ => .str _) (ma_cons (m_op op_addM (m_tup (ma_cons (m_var 3) (ma_cons (c_meth (C := "Refs") (ok_Refs_at_head T) kb_Refs_at_head_1 (hr.mono (by decide)) T.k_Refs T.m_Refs_at_head tk (m_var 2) am_n) ma_nil))) (m_fld (m_var 0) T.k_Edit T.n_Edit_signed)) ma_nil))))))
      mss_nil)
    (mss_one (ms_ret (c_meth (C := "Refs") (ok_Refs_state T) kb_Refs_state_1 (hr.mono (by decide)) T.k_Refs T.m_Refs_state tk (m_var 2) am_n))))))))))
abbrev N_Edit_finish : List Str := ["self", "state", "names", "ref", "old", "new"]
theorem sc_Edit_finish : FnScope N_Edit_finish ["self"] (defScope s_Edit_finish) := ⟨rfl, rfl, rfl, by decide +kernel, rfl, by decide +kernel, by decide +kernel⟩
theorem bn_Edit_finish {K : PySem.W.Frag} : BN K d_Edit_finish ["self"] := fun fd F => FunD.bindsN F fun _ _ _ _ _ _ us hl => match us, hl with | [_], _ => rfl
theorem kb_Edit_finish_1 {K : PySem.W.Frag} : KB K d_Edit_finish ["self"] 1 [] (fun ms _ => ms) := bn_Edit_finish.kb
theorem ok_Edit_finish (T : Ctx K mg) : OkM PP w K mg base 12 d_Edit_finish ["self"] F_Edit_finish := ok_M (T.c.def_ 24 (d := d_Edit_finish) rfl) sc_Edit_finish fun cdv A outer s H E hr tk pp => by
  have nd := sc_Edit_finish.nd
  exact (mss_cons (ms_set (i := 1) nd (c_meth (C := "Edit") (ok_Edit_behind T) kb_Edit_behind_1 (hr.mono (by decide)) T.k_Edit T.m_Edit_behind tk (m_var 0) am_n))
    (mss_cons (ms_lk tk fun _ tk => (ms_setLcR (i := 2) (own := [("ref", 3), ("old", 4), ("new", 5)]) (is := [3, 4, 5]) (g := (gTupM 3 (gConsM gNm (gConsM gNm (gConsM gNm gNilM))))) rfl nd rfl rfl (sw_true rfl rfl rfl (by decide +kernel)) (mi_any (c_meth (C := "Edit") (ok_Edit_moves T) kb_Edit_moves_1 (hr.mono (by decide)) T.k_Edit T.m_Edit_moves tk (m_var 0) am_n)) (blkOk_by (own := [("ref", 3), ("old", 4), ("new", 5)]) (N := N_Edit_finish) (sc := defScope s_Edit_finish) (by decide +kernel)) (by decide) (fun _ _ _ _ _ => (tg_tup rfl (tgs_cons (tg_name (i := 3) nd) (tgs_cons (tg_name (i := 4) nd) (tgs_cons (tg_name (i := 5) nd) tgs_nil))))) (fun _ _ _ _ _ => (mts_one (mt_cmp op_notNM (m_var 5) m_non))) (fun _ _ _ _ _ => (m_var 5))))
    (mss_cons (ms_if (PW.pt (mw_and (mt_cmp op_notNM (m_fld (m_var 0) T.k_Edit T.n_Edit_stands) m_non) (mw_and1 (mt_cmp (op_eqM hr) (m_ix (ix_M hr) (m_fld (m_var 0) T.k_Edit T.n_Edit_stands) m_int) m_str))))
      (mss_one (ms_expr (m_append (m_var 2) (m_ix (ix_M hr) (m_fld (m_var 0) T.k_Edit T.n_Edit_stands) m_int))))
      mss_nil)
    (mss_cons (ms_if (mt_cmp op_notNM (m_fld (m_var 0) T.k_Edit T.n_Edit_keeper) m_non)
      (mss_one ms_bad)
      mss_nil)
    (mss_cons (ms_expr (c_meth (C := "Refs") (ok_Refs_take T) kb_Refs_take_2 (hr.mono (by decide)) T.k_Refs T.m_Refs_take tk (m_fld (m_var 0) T.k_Edit T.n_Edit_home) (am_p (ma_cons (m_var 1) ma_nil))))
    (mss_one (ms_fld (m_var 0) m_bl T.k_Edit T.n_Edit_is_open)))))))
abbrev N__law_finished : List Str := ["_law_edit", "e"]
theorem sc__law_finished : FnScope N__law_finished ["_law_edit"] (defScope s__law_finished) := ⟨rfl, rfl, rfl, by decide +kernel, rfl, by decide +kernel, by decide +kernel⟩
theorem bn__law_finished {K : PySem.W.Frag} : BN K d__law_finished ["_law_edit"] := fun fd F => FunD.bindsN F fun _ _ _ _ _ _ us hl => match us, hl with | [_], _ => rfl
theorem kb__law_finished_1 {K : PySem.W.Frag} : KB K d__law_finished ["_law_edit"] 1 [] (fun ms _ => ms) := bn__law_finished.kb
theorem ok__law_finished (T : Ctx K mg) : OkM PP w K mg base 13 d__law_finished ["_law_edit"] F__law_finished := ok_M (T.c.def_ 62 (d := d__law_finished) rfl) sc__law_finished fun cdv A outer s H E hr tk pp => by
  have nd := sc__law_finished.nd
  exact (mss_cons (ms_try rfl rfl nd tk (fun _ pn xe tk pp =>
      (mss_one (ms_expr (c_meth (C := "Edit") (ok_Edit_finish T) kb_Edit_finish_1 (hr.mono (by decide)) T.k_Edit T.m_Edit_finish tk (m_var 0) am_n))))
      (.as (i := 1) ⟨rfl, by decide, .inl T.g_Stale⟩ (T.exm_Stale) rfl rfl rfl (fun a oe c d fs pn hz hf hc hs => (mss_one (ms_ret (m_tup (ma_cons m_str (ma_cons (m_exf hz hf (T.xf c hc) (T.xn_Stale_ref c hs)) ma_nil)))))) (.one ⟨rfl, by decide, .inl T.g_BadRef⟩ (T.exm_BadRef) rfl (fun a oe c d fs pn hz hf hc hs => (mss_one (ms_ret (m_tup (ma_cons m_str (ma_cons m_non ma_nil)))))) .nil)) (fun _ _ => trivial) rfl)
    (mss_one (ms_ret m_non)))
abbrev N__law_above : List Str := ["_law_ref_here", "_law_parts", "_law_k"]
theorem sc__law_above : FnScope N__law_above ["_law_ref_here"] (defScope s__law_above) := ⟨rfl, rfl, rfl, by decide +kernel, rfl, by decide +kernel, by decide +kernel⟩
theorem bn__law_above {K : PySem.W.Frag} : BN K d__law_above ["_law_ref_here"] := fun fd F => FunD.bindsN F fun _ _ _ _ _ _ us hl => match us, hl with | [_], _ => rfl
theorem kb__law_above_1 {K : PySem.W.Frag} : KB K d__law_above ["_law_ref_here"] 1 [] (fun ms _ => ms) := bn__law_above.kb
theorem ok__law_above (T : Ctx K mg) : OkM PP w K mg base 1 d__law_above ["_law_ref_here"] F__law_above := ok_M (T.c.def_ 58 (d := d__law_above) rfl) sc__law_above fun cdv A outer s H E hr tk pp => by
  have nd := sc__law_above.nd
  exact (mss_cons (ms_set (i := 1) nd (m_frz (ml_split (m_var 0) m_str)))
    (mss_one (ms_ret (m_frz (ml_lc (own := [("_law_k", 2)]) (is := [2]) (g := gNm) rfl nd (mi_range2 T.f_range (ma_cons m_int (ma_cons (m_len T.f_len (ma_cons (m_var 1) ma_nil)) ma_nil))) (blkOk_by (own := [("_law_k", 2)]) (N := N__law_above) (sc := defScope s__law_above) (by decide +kernel)) (by decide) (fun _ _ _ _ _ => (tg_name (i := 2) nd)) (fun _ _ _ _ _ => mts_nil) (fun _ _ _ _ _ => (m_join m_str (m_frz (ml_slice (m_var 1) mo_none (mo_some (m_var 2)))))))))))
abbrev N__law_behind : List Str := ["_law_m", "_law_calls", "_law_stands_here", "_law_signed", "_law_ref_here", "_law_value", "_law_had", "_law_new_here", "_law_entry", "_law_prefix", "_law_call"]
theorem sc__law_behind : FnScope N__law_behind ["_law_m", "_law_calls", "_law_stands_here", "_law_signed"] (defScope s__law_behind) := ⟨rfl, rfl, rfl, by decide +kernel, rfl, by decide +kernel, by decide +kernel⟩
theorem bn__law_behind {K : PySem.W.Frag} : BN K d__law_behind ["_law_m", "_law_calls", "_law_stands_here", "_law_signed"] := fun fd F => FunD.bindsN F fun _ _ _ _ _ _ us hl => match us, hl with | [_, _, _, _], _ => rfl
theorem kb__law_behind_4 {K : PySem.W.Frag} : KB K d__law_behind ["_law_m", "_law_calls", "_law_stands_here", "_law_signed"] 4 [] (fun ms _ => ms) := bn__law_behind.kb
theorem ok__law_behind (T : Ctx K mg) : OkM PP w K mg base 2 d__law_behind ["_law_m", "_law_calls", "_law_stands_here", "_law_signed"] F__law_behind := ok_M (T.c.def_ 59 (d := d__law_behind) rfl) sc__law_behind fun cdv A outer s H E hr tk pp => by
  have nd := sc__law_behind.nd
  exact (mss_cons (ms_lk tk fun _ tk => (ms_for (is := [4, 5, 6]) pp rfl (mi_any (m_var 1)) (tg_tup rfl (tgs_cons (tg_name (i := 4) nd) (tgs_cons (tg_name (i := 5) nd) (tgs_cons (tg_name (i := 6) nd) tgs_nil))))
      (mss_one (ms_if (PW.pt (mw_and (mt_cmp (op_neM hr) (m_var 6) m_str) (mw_and1 (mt_cmp (op_neM hr) (m_get1 hr (m_ix (ix_M hr) (m_var 0) m_str) (m_var 4)) (m_var 6)))))
        (mss_one (ms_ret (m_tup (ma_cons m_str (ma_cons (m_var 4) ma_nil)))))
        mss_nil))))
    (mss_cons (ms_set (i := 7) nd (m_disp (ps := [((eC (.str "table")), (fun ρ A => ((aCons (eBin ixM (eVar 0) (eC (.str "table"))) aNil) ρ A).bind dictM)), ((eC (.str "head")), (eBin ixM (eVar 0) (eC (.str "head")))), ((eC (.str "logs")), (fun ρ A => ((aCons (eBin ixM (eVar 0) (eC (.str "logs"))) aNil) ρ A).bind dictM))]) (pps_cons m_str (m_dict rfl T.f_dict (ma_cons (m_ix (ix_M hr) (m_var 0) m_str) ma_nil)) (pps_cons m_str (m_ix (ix_M hr) (m_var 0) m_str) (pps_cons m_str (m_dict rfl T.f_dict (ma_cons (m_ix (ix_M hr) (m_var 0) m_str) ma_nil)) pps_nil)))))
    (mss_cons (ms_lk tk fun _ tk => (ms_for (is := [4, 5, 6]) pp rfl (mi_any (m_var 1)) (tg_tup rfl (tgs_cons (tg_name (i := 4) nd) (tgs_cons (tg_name (i := 5) nd) (tgs_cons (tg_name (i := 6) nd) tgs_nil))))
      (mss_cons (ms_expr (m_pop2 (m_ix (ix_M hr) (m_var 7) m_str) (m_var 4) m_non))
      (mss_one (ms_if (mt_cmp op_notNM (m_var 5) m_non)
        (mss_one (ms_sub hr (m_var 5) (m_ix (ix_M hr) (m_var 7) m_str) (m_var 4)))
        mss_nil)))))
    (mss_cons (ms_lk tk fun _ tk => (ms_for (is := [4]) pp rfl (mi_any (m_ix (ix_M hr) (m_var 7) m_str)) (tg_name (i := 4) nd)
      (mss_one (ms_if (mt_cmp (op_neM hr) (m_frz (ml_lc (own := [("_law_prefix", 9)]) (is := [9]) (g := gNm) rfl nd (mi_frz (c_call (ok__law_above T) kb__law_above_1 (hr.mono (by decide)) T.g__law_above tk (am_p (ma_cons (m_var 4) ma_nil)))) (blkOk_by (own := [("_law_prefix", 9)]) (N := N__law_behind) (sc := defScope s__law_behind) (by decide +kernel)) (by decide) (fun _ _ _ _ _ => (tg_name (i := 9) nd)) (fun _ _ _ _ _ => (mts_one (mt_cmp (op_inM hr) (m_var 9) (m_ix (ix_M hr) (m_var 7) m_str)))) (fun _ _ _ _ _ => (m_var 9)))) (m_frz (ml_lst ma_nil)))
        (mss_one (ms_ret (m_tup (ma_cons m_str (ma_cons m_non ma_nil)))))
        mss_nil))))
    (mss_cons (ms_if (mt_cmp op_notNM (m_var 2) m_non)
      (mss_one (ms_sub hr (m_var 2) (m_var 7) m_str))
      mss_nil)
    (mss_cons (ms_for (is := [4]) pp rfl (mi_frz (m_frz (ml_sorted rfl T.f_sorted (ma_cons (m_frz (ml_lk (ml_lc (own := [("_law_call", 10)]) (is := [10]) (g := gNm) rfl nd (mi_any (m_var 1)) (blkOk_by (own := [("_law_call", 10)]) (N := N__law_behind) (sc := defScope s__law_behind) (by decide +kernel)) (by decide) (fun _ _ _ _ _ => (tg_name (i := 10) nd)) (fun _ _ _ _ _ => mts_nil) (fun _ _ _ _ _ => (m_ix (ix_M hr) (m_var 10) m_int))))) ma_nil)))) (tg_name (i := 4) nd)
      (mss_one (ms_if (mt_cmp (op_neM hr) (m_get1 hr (m_ix (ix_M hr) (m_var 0) m_str) (m_var 4)) (m_get1 hr (m_ix (ix_M hr) (m_var 7) m_str) (m_var 4)))
        (mss_cons (ms_set (i := 8) nd (m_op op_addM (m_tup (ma_cons (m_get1 hr (m_ix (ix_M hr) (m_var 0) m_str) (m_var 4)) (ma_cons (m_get1 hr (m_ix (ix_M hr) (m_var 7) m_str) (m_var 4)) ma_nil))) (m_var 3)))
        (mss_one (ms_sub hr (m_frz (ml_cat (m_get2 hr (m_ix (ix_M hr) (m_var 7) m_str) (m_var 4) (m_frz (ml_lst ma_nil))) (m_frz (ml_lst (ma_cons (m_var 8) ma_nil))))) (m_ix (ix_M hr) (m_var 7) m_str) (m_var 4))))
        mss_nil)))
    (mss_cons (ms_if (PW.pt (mw_or (mt_cmp (op_neM hr) (m_ix (ix_M hr) (m_var 7) m_str) (m_ix (ix_M hr) (m_var 0) m_str)) (mw_or1 (mt_cmp (op_neM hr) (c_call (ok__law_at_head T) kb__law_at_head_1 (hr.mono (by decide)) T.g__law_at_head tk (am_p (ma_cons (m_var 7) ma_nil))) (c_call (ok__law_at_head T) kb__law_at_head_1 (hr.mono (by decide)) T.g__law_at_head tk (am_p (ma_cons (m_var 0) ma_nil)))))))
      (mss_cons (ms_set (i := 8) nd (m_op op_addM (m_tup (ma_cons (c_call (ok__law_at_head T) kb__law_at_head_1 (hr.mono (by decide)) T.g__law_at_head tk (am_p (ma_cons (m_var 0) ma_nil))) (ma_cons (c_call (ok__law_at_head T) kb__law_at_head_1 (hr.mono (by decide)) T.g__law_at_head tk (am_p (ma_cons (m_var 7) ma_nil))) ma_nil))) (m_var 3)))
      (mss_one (ms_sub hr (m_frz (ml_cat (m_get2 hr (m_ix (ix_M hr) (m_var 7) m_str) m_str (m_frz (ml_lst ma_nil))) (m_frz (ml_lst (ma_cons (m_var 8) ma_nil))))) (m_ix (ix_M hr) (m_var 7) m_str) m_str)))
      mss_nil)
    (mss_one (ms_ret (m_var 7))))))))))
abbrev N__law_edited : List Str := ["_law_source_here", "_law_refs", "_law_m", "_law_signed", "_law_edit", "_law_calls", "_law_stands_here", "_law_due", "_law_told"]
theorem sc__law_edited : FnScope N__law_edited ["_law_source_here", "_law_refs", "_law_m"] (defScope s__law_edited) := ⟨rfl, rfl, rfl, by decide +kernel, rfl, by decide +kernel, by decide +kernel⟩
theorem bn__law_edited {K : PySem.W.Frag} : BN K d__law_edited ["_law_source_here", "_law_refs", "_law_m"] := fun fd F => FunD.bindsN F fun _ _ _ _ _ _ us hl => match us, hl with | [_, _, _], _ => rfl
theorem kb__law_edited_3 {K : PySem.W.Frag} : KB K d__law_edited ["_law_source_here", "_law_refs", "_law_m"] 3 [] (fun ms _ => ms) := bn__law_edited.kb
theorem ok__law_edited (T : Ctx K mg) : OkM PP w K mg base 14 d__law_edited ["_law_source_here", "_law_refs", "_law_m"] F__law_edited := ok_M (T.c.def_ 63 (d := d__law_edited) rfl) sc__law_edited fun cdv A outer s H E hr tk pp => by
  have nd := sc__law_edited.nd
  exact (mss_cons (ms_set (i := 3) nd (m_tup (ma_cons (c_call (ok__law_pick T) kb__law_pick_2 (hr.mono (by decide)) T.g__law_pick tk (am_p (ma_cons (m_var 0) (ma_cons (m_frz (ml_lst (ma_cons m_str (ma_cons m_str ma_nil)))) ma_nil)))) (ma_cons (c_call (ok__law_draw T) kb__law_draw_2 (hr.mono (by decide)) T.g__law_draw tk (am_p (ma_cons (m_var 0) (ma_cons m_int ma_nil)))) (ma_cons (c_call (ok__law_pick T) kb__law_pick_2 (hr.mono (by decide)) T.g__law_pick tk (am_p (ma_cons (m_var 0) (ma_cons (m_frz (ml_lst (ma_cons m_str (ma_cons m_str ma_nil)))) ma_nil)))) ma_nil)))))
    (mss_cons (ms_set (i := 4) nd (c_meth (C := "Refs") (ok_Refs_edit T) kb_Refs_edit_4 (hr.mono (by decide)) T.k_Refs T.m_Refs_edit tk (m_var 1) (am_p (ma_cons (m_ix (ix_M hr) (m_var 3) m_int) (ma_cons (m_ix (ix_M hr) (m_var 3) m_int) (ma_cons (m_ix (ix_M hr) (m_var 3) m_int) ma_nil))))))
    (mss_cons (ms_asg (is := [5, 6]) (c_call (ok__law_noted T) kb__law_noted_3 (hr.mono (by decide)) T.g__law_noted tk (am_p (ma_cons (m_var 0) (ma_cons (m_var 4) (ma_cons (m_var 2) ma_nil))))) (tg_tup rfl (tgs_cons (tg_name (i := 5) nd) (tgs_cons (tg_name (i := 6) nd) tgs_nil))))
    (mss_cons (ms_if (mt_cmp (op_eqM hr) (c_call (ok__law_draw T) kb__law_draw_2 (hr.mono (by decide)) T.g__law_draw tk (am_p (ma_cons (m_var 0) (ma_cons m_int ma_nil)))) m_int)
      (mss_cons (ms_expr (c_meth (C := "Edit") (ok_Edit_drop T) kb_Edit_drop_1 (hr.mono (by decide)) T.k_Edit T.m_Edit_drop tk (m_var 4) am_n))
      (mss_one (ms_ret (m_var 2))))
      mss_nil)
    (mss_cons (ms_par (i := 7) (j := 8) rfl nd (ma_cons (c_call (ok__law_behind T) kb__law_behind_4 (hr.mono (by decide)) T.g__law_behind tk (am_p (ma_cons (m_var 2) (ma_cons (m_var 5) (ma_cons (m_var 6) (ma_cons (m_var 3) ma_nil)))))) (ma_cons (c_call (ok__law_finished T) kb__law_finished_1 (hr.mono (by decide)) T.g__law_finished tk (am_p (ma_cons (m_var 4) ma_nil))) ma_nil)))
    (mss_cons (ms_if (mt_val (m_isi T.f_isinstance (ma_cons (m_var 7) (ma_cons (m_ty T.f_tuple bt_tuple) ma_nil))))
      (mss_cons (ms_expr (c_meth (C := "Edit") (ok_Edit_drop T) kb_Edit_drop_1 (hr.mono (by decide)) T.k_Edit T.m_Edit_drop tk (m_var 4) am_n))
      (mss_one (ms_ret (m_if (mt_cmp (op_eqM hr) (m_var 8) (m_var 7)) (m_var 2) m_non))))
      mss_nil)
    (mss_one (ms_ret (m_if (mt_cmp op_isNM (m_var 8) m_non) (m_var 7) m_non)))))))))
abbrev N_law : List Str := ["_law_script", "_law_cell", "_law_source_here", "_law_refs", "_law_m", "_law_turn"]
theorem sc_law : FnScope N_law ["_law_script"] (defScope s_law) := ⟨rfl, rfl, rfl, by decide +kernel, rfl, by decide +kernel, by decide +kernel⟩
theorem ok_law (T : Ctx K mg) : OkM PP w K mg base 15 d_law ["_law_script"] F_law := ok_M (T.c.def_ 64 (d := d_law) rfl) sc_law fun cdv A outer s H E hr tk pp => by
  have nd := sc_law.nd
  exact (mss_cons (ms_for (is := [1]) pp rfl (mi_frz (m_frz (ml_cat (m_frz (ml_lst (ma_cons (c_call (ok__law_cell_at T) kb__law_cell_at_2 (hr.mono (by decide)) T.g__law_cell_at tk (am_p (ma_cons (m_var 0) (ma_cons m_int ma_nil)))) ma_nil))) (m_frz (ml_slice (m_var 0) (mo_some m_int) (mo_some m_int)))))) (tg_name (i := 1) nd)
      (mss_cons (ms_set (i := 2) nd (c_call (ok__law_source T) kb__law_source_1 (hr.mono (by decide)) T.g__law_source tk (am_p (ma_cons (m_var 1) ma_nil))))
      (mss_cons (ms_par (i := 3) (j := 4) rfl nd (ma_cons (c_make (C := "Refs") (ok_Refs___init__ T) kb_Refs___init___1 (hr.mono (by decide)) T.mk_Refs T.g_Refs tk am_n) (ma_cons (c_call (ok__law_new T) kb__law_new_0 (hr.mono (by decide)) T.g__law_new tk am_n) ma_nil)))
      (mss_cons (ms_if (mt_not (mt_val (c_call (ok__law_stands T) kb__law_stands_2 (hr.mono (by decide)) T.g__law_stands tk (am_p (ma_cons (m_var 3) (ma_cons (m_var 4) ma_nil))))))
        (mss_one (ms_ret m_bl))
        mss_nil)
      (mss_one (ms_for (is := [5]) pp rfl (mi_range1 T.f_range (ma_cons (m_op op_addM m_int (c_call (ok__law_draw T) kb__law_draw_2 (hr.mono (by decide)) T.g__law_draw tk (am_p (ma_cons (m_var 2) (ma_cons m_int ma_nil))))) ma_nil)) (tg_name (i := 5) nd)
        (mss_cons (ms_set (i := 4) nd (c_call (ok__law_edited T) kb__law_edited_3 (hr.mono (by decide)) T.g__law_edited tk (am_p (ma_cons (m_var 2) (ma_cons (m_var 3) (ma_cons (m_var 4) ma_nil))))))
        (mss_one (ms_if (PW.pt (mw_or (mt_cmp op_isNM (m_var 4) m_non) (mw_or1 (mt_not (mt_val (c_call (ok__law_stands T) kb__law_stands_2 (hr.mono (by decide)) T.g__law_stands tk (am_p (ma_cons (m_var 3) (ma_cons (m_var 4) ma_nil)))))))))
          (mss_one (ms_ret m_bl))
          mss_nil)))))))))
    (mss_one (ms_ret m_bl)))
end
end K31
/-! Rp0: how the plain functions are evaluated; heaps; loops -/
namespace Rp
open PySem PySem.Spec PyProof.Rows Mv Rf
/-! ### heaps -/
theorem app_at {A l : AH} {n : Nat} {o : MO} (h : A[n]? = some o) : (A ++ l)[n]? = some o := by
  rw [List.getElem?_append_left (List.getElem?_eq_some_iff.mp h).1]
  exact h
theorem new_at {A : AH} {o : MO} : (A ++ [o])[A.length]? = some o := by simp
theorem set_at {A : AH} {n : Nat} {o o' : MO} (h : A[n]? = some o) : (A.set n o')[n]? = some o' := by
  rw [List.getElem?_set_self (List.getElem?_eq_some_iff.mp h).1]
theorem set_ne {A : AH} {n m : Nat} {o : MO} (h : n ≠ m) : (A.set n o)[m]? = A[m]? := List.getElem?_set_ne h
theorem at_lt {A : AH} {n : Nat} {o : MO} (h : A[n]? = some o) : n < A.length := (List.getElem?_eq_some_iff.mp h).1
theorem at_ne {A : AH} {n m : Nat} {o o' : MO} (h : A[n]? = some o) (h' : A[m]? = some o') (d : o ≠ o') : n ≠ m := fun e => by
  rw [e, h'] at h
  cases h
  exact d rfl
/-- A' holds all of A but what stands at S -/
structure Fr (S : Nat → Prop) (A A' : AH) : Prop where
  len : A.length ≤ A'.length
  same : ∀ n o, ¬ S n → A[n]? = some o → A'[n]? = some o
theorem Fr.refl {S : Nat → Prop} {A : AH} : Fr S A A := ⟨Nat.le_refl _, fun _ _ _ h => h⟩
theorem Fr.trans {S : Nat → Prop} {A B C : AH} (h : Fr S A B) (h' : Fr S B C) : Fr S A C := ⟨Nat.le_trans h.len h'.len, fun n o s e => h'.same n o s (h.same n o s e)⟩
theorem Fr.mono {S T : Nat → Prop} {A B : AH} (h : Fr S A B) (i : ∀ n, S n → T n) : Fr T A B := ⟨h.len, fun n o s e => h.same n o (fun z => s (i n z)) e⟩
theorem Fr.app {S : Nat → Prop} {A l : AH} : Fr S A (A ++ l) := ⟨by simp, fun _ _ _ h => app_at h⟩
theorem Fr.set {S : Nat → Prop} {A : AH} {n : Nat} {o : MO} (h : S n) : Fr S A (A.set n o) := ⟨by simp, fun m q s e => by rw [set_ne (fun z => s (by rw [← z]; exact h))]; exact e⟩
/-- what is new may change -/
theorem Fr.cut {S : Nat → Prop} {A B C : AH} (h : Fr S A B) (h' : Fr (fun n => S n ∨ A.length ≤ n) B C) : Fr S A C :=
  ⟨Nat.le_trans h.len h'.len, fun n o s e => h'.same n o (fun z => z.elim s fun z => Nat.lt_irrefl _ (Nat.lt_of_lt_of_le (at_lt e) z)) (h.same n o s e)⟩
/-! ### the source -/
structure Src (A : AH) (s : Nat) (n : Nat) : Prop where
  ex : ∃ a b c : Int, A[s]? = some (.lst [.int a, .int b, .int c]) ∧ 0 ≤ b ∧ b < 2147483647 ∧ 0 ≤ c ∧ c ≤ n
theorem bind_ok {α β : Type} {a : α} {A : AH} {k : α → AH → Rs β} : (Rs.ok a A).bind k = k a A := rfl
theorem bind_err {α β : Type} {c : Str} {fs : List (Str × MV)} {A : AH} {k : α → AH → Rs β} : (Rs.err c fs A : Rs α).bind k = .err c fs A := rfl
theorem bind_bad {α β : Type} {k : α → AH → Rs β} : (Rs.bad : Rs α).bind k = .bad := rfl
theorem fs_ok {α : Type} {a : α} {A : AH} {ρ : ME} {k : α → AH → Fs} : (Rs.ok a A).fs ρ k = k a A := rfl
theorem fs_err {α : Type} {c : Str} {fs : List (Str × MV)} {A : AH} {ρ : ME} {k : α → AH → Fs} : (Rs.err c fs A : Rs α).fs ρ k = .err c fs ρ A := rfl
theorem fs_bad {α : Type} {ρ : ME} {k : α → AH → Fs} : (Rs.bad : Rs α).fs ρ k = .bad := rfl
theorem sz0 : szL [] = true := rfl
theorem sz1 {a : MV} : szL [a] = true := rfl
theorem sz2 {a b : MV} : szL [a, b] = true := rfl
theorem sz3 {a b c : MV} : szL [a, b, c] = true := rfl
theorem sz4 {a b c d : MV} : szL [a, b, c, d] = true := rfl
theorem sz5 {a b c d e : MV} : szL [a, b, c, d, e] = true := rfl
/-! ### fields, methods -/
def fldM (C f : Str) (v : MV) (A : AH) : Rs MV := match insOf C A v with
  | some fs => (match fs.lookup f with
    | some x => .ok x A
    | none => .bad)
  | none => .bad
theorem eFld_def {C f : Str} {fo : FE} {ρ : ME} {A : AH} : eFld C f fo ρ A = (fo ρ A).bind (fldM C f) := rfl
def mthB (C m : Str) (v : MV) (A : AH) : Bool := match insOf C A v with
  | some fs => (fs.lookup m).isNone
  | none => false
theorem eMeth_def {C m : Str} {n k : Nat} {gm : List MV → List MV → List MV} {F : FF} {fo : FE} {fa : FP} {ρ : ME} {A : AH} : eMeth C m n k gm F fo fa ρ A = (fo ρ A).bind fun v A => if mthB C m v A = true then (fa ρ A).bind fun p A => if p.1.length + 1 = n ∧ p.2.length = k then F (gm (v :: p.1) p.2) A else .bad else .bad := by
  unfold eMeth mthB
  cases fo ρ A with
  | ok v B =>
    show (match insOf C B v with | some fs => _ | none => _) = if _ then _ else _
    cases insOf C B v with
    | none => rfl
    | some fs =>
      show (match fs.lookup m with | none => _ | some _ => _) = if (fs.lookup m).isNone = true then _ else _
      cases fs.lookup m <;> rfl
  | err c fs B => rfl
  | bad => rfl
theorem eMake_def {C : Str} {n m : Nat} {gm : List MV → List MV → List MV} {F : FF} {fa : FP} {ρ : ME} {A : AH} : eMake C n m gm F fa ρ A = (fa ρ A).bind fun p A => if p.1.length = n ∧ p.2.length = m then (F (gm (.ref A.length :: p.1) p.2) (A ++ [.ins C []])).bind fun v A' => (match v with
    | .non => .ok (.ref A.length) A'
    | _ => .bad) else .bad := rfl
def putFld (C f : Str) (v y : MV) (A : AH) : Option AH := match v with
  | .ref n => (match A[n]? with
    | some (.ins D fs) => if D = C ∧ fs.length < 900 then some (A.set n (.ins C (putFM f y fs))) else none
    | _ => none)
  | _ => none
theorem sFld_def {C f : Str} {fo fv : FE} {ρ : ME} {A : AH} : Mv.sFld C f fo fv ρ A = (fv ρ A).fs ρ fun y A => (fo ρ A).fs ρ fun v A => match putFld C f v y A with
  | some A' => .nx ρ A'
  | none => .bad := by
  unfold Mv.sFld
  congr 1
  funext y A
  congr 1
  funext v A
  unfold putFld
  cases v with
  | ref n =>
    dsimp only
    cases A[n]? with
    | none => rfl
    | some o => cases o with
      | ins D fs =>
        dsimp only
        by_cases h : D = C ∧ fs.length < 900
        · rw [if_pos h, if_pos h]
        · rw [if_neg h, if_neg h]
      | _ => rfl
  | _ => rfl
section
variable {A : AH} {n : Nat} {C f : Str} {fs : List (Str × MV)} {x y : MV}
theorem insOf_at (h : A[n]? = some (.ins C fs)) : insOf C A (.ref n) = some fs := by
  unfold insOf
  dsimp only
  rw [h]
  dsimp only
  rw [if_pos rfl]
theorem fld_at (h : A[n]? = some (.ins C fs)) (q : fs.lookup f = some x) : fldM C f (.ref n) A = .ok x A := by
  unfold fldM
  rw [insOf_at h]
  dsimp only
  rw [q]
theorem mth_at (h : A[n]? = some (.ins C fs)) (q : (fs.lookup f).isNone = true) : mthB C f (.ref n) A = true := by
  unfold mthB
  rw [insOf_at h]
  exact q
theorem putFld_at (h : A[n]? = some (.ins C fs)) (q : fs.length < 900) : putFld C f (.ref n) y A = some (A.set n (.ins C (putFM f y fs))) := by
  unfold putFld
  dsimp only
  rw [h]
  dsimp only
  rw [if_pos ⟨rfl, q⟩]
theorem dctV_at {kvs : List (L2.Key × MV)} (h : A[n]? = some (.dct kvs)) : dctV A (.ref n) = some kvs := by
  unfold dctV
  dsimp only
  rw [h]
theorem dctV_lk {kvs : List (L2.Key × MV)} (h : A[n]? = some (.lkd kvs)) : dctV A (.ref n) = some kvs := by
  unfold dctV
  dsimp only
  rw [h]
theorem lstV_at {xs : List MV} (h : A[n]? = some (.lst xs)) : lstV A (.ref n) = some xs := by
  unfold lstV
  dsimp only
  rw [h]
theorem ix_dct {kvs : List (L2.Key × MV)} {k : Str} (h : dctV A (.ref n) = some kvs) (q : valM kvs (.inr k) = some x) : ixM (.ref n) (.str k) A = .ok x A := by
  unfold ixM
  rw [h]
  dsimp only [keyOf]
  rw [q]
end
theorem ix_lst {A : AH} {s : Nat} {xs : List MV} {j : Int} {v : MV} (h : A[s]? = some (.lst xs)) (e : L2.atI xs j = some v) : ixM (.ref s) (.int j) A = .ok v A := by
  simp only [ixM, dctV, tupOf, lstV, h, e]
theorem ix_tup {A : AH} {xs : List MV} {j : Int} {v : MV} (e : L2.atI xs j = some v) : ixM (.tup xs) (.int j) A = .ok v A := by
  simp only [ixM, dctV, tupOf, e]
theorem set_src {A : AH} {s m : Nat} {xs : List MV} {j : Int} {v : MV} (h : A[s]? = some (.lst xs)) (e : L2.ixN xs.length j = some m) : setM (.ref s) (.int j) v A = some (A.set s (.lst (xs.set m v))) := by
  simp only [setM, dctW, lstW, h, e]
theorem emod_lt {x k : Int} (h : 0 < k) : 0 ≤ x % k ∧ x % k < k := ⟨Int.emod_nonneg _ (by omega), Int.emod_lt_of_pos _ h⟩
theorem src_set {A : AH} {s n : Nat} {a b c : Int} {o : MO} (h : A[s]? = some o) (b0 : 0 ≤ b) (b1 : b < 2147483647) (c0 : 0 ≤ c) (c1 : c ≤ n) : Src (A.set s (.lst [.int a, .int b, .int c])) s n := ⟨a, b, c, set_at h, b0, b1, c0, c1⟩
theorem draw_ok {A : AH} {s n : Nat} {k : Int} (h : Src A s n) (hn : n ≤ 1000000) (hk : 0 < k) (hk2 : k ≤ 1000) : ∃ (d : Int) (o : MO), F__law_draw [.ref s, .int k] A = .ok (.int d) (A.set s o) ∧ 0 ≤ d ∧ d < k ∧ Src (A.set s o) s (n + 1) := by
  obtain ⟨a, b, c, h, b0, b1, c0, c1⟩ := h
  have i0 : ixM (.ref s) (.int 0) A = .ok (.int a) A := ix_lst h rfl
  have i2 : ixM (.ref s) (.int 2) A = .ok (.int c) A := ix_lst h rfl
  have hk3 : 0 < k ∧ k < 2 ^ 64 := ⟨hk, by omega⟩
  by_cases ha : 0 < a
  · refine ⟨a % k, .lst [.int (a / k), .int b, .int c], ?_, (emod_lt hk).1, (emod_lt hk).2, src_set h b0 b1 c0 (by omega)⟩
    have st : setM (.ref s) (.int 0) (.int (a / k)) A = some (A.set s (.lst [.int (a / k), .int b, .int c])) := set_src (m := 0) h rfl
    unfold F__law_draw b__law_draw
    simp only [defM, sSeq, sIf, sSet, sRet, sRetN, sExpr, sNext, sFld_def, sSub, sRaise, eVar, eC, eBin, eUn, tB', eB, bNot, bAnd, bOr, bIf, eIf, eAnd, eOr, eNot, aNil, aCons, eTup, aLst, eFrz, eRef, pN, pA, pK, pAK, eCall, eMeth_def, eFld_def, eMake_def, bind_ok, bind_err, bind_bad, fs_ok, fs_err, fs_bad, List.map_cons, List.map_nil, List.length_cons, List.length_nil, List.replicate, List.cons_append, List.nil_append, List.getElem?_cons_zero, List.getElem?_cons_succ, List.set_cons_zero, List.set_cons_succ, sz0, sz1, sz2, sz3, sz4, sz5, if_true, and_self, Nat.reduceSub, Nat.reduceAdd, List.lookup_cons, List.lookup_nil, i0, gtM, decide_eq_true ha, intM, modM, if_pos hk, fdivM, if_pos hk3, st]
  · have h' : (A.set s (.lst [.int a, .int b, .int (c + 1)]))[s]? = some (.lst [.int a, .int b, .int (c + 1)]) := set_at h
    have j1 : ixM (.ref s) (.int 1) (A.set s (.lst [.int a, .int b, .int (c + 1)])) = .ok (.int b) (A.set s (.lst [.int a, .int b, .int (c + 1)])) := ix_lst h' rfl
    have j2 : ixM (.ref s) (.int 2) (A.set s (.lst [.int a, .int b, .int (c + 1)])) = .ok (.int (c + 1)) (A.set s (.lst [.int a, .int b, .int (c + 1)])) := ix_lst h' rfl
    have p1 : (0 : Int) ≤ 5 ∧ (5 : Int) ≤ 1000 ∧ (b + 7919 * (c + 1) + 1).natAbs < 2 ^ 64 := ⟨by omega, by omega, by omega⟩
    have sm : small 7919 = true := by decide
    generalize hx : (b + 7919 * (c + 1) + 1) ^ (5 : Int).toNat % 2147483629 = x
    have x1 : 0 ≤ x ∧ x < 2147483629 := by rw [← hx]; exact emod_lt (by omega)
    have s1 : (small x || small (x / 1009 + 69621 + (c + 1))) = true := by
      have : small x = true := by unfold small; simp only [Bool.and_eq_true, decide_eq_true_eq]; omega
      rw [this]; rfl
    generalize hy : x * (x / 1009 + 69621 + (c + 1)) % 2147483587 = y
    have y1 : 0 ≤ y ∧ y < 2147483587 := by rw [← hy]; exact emod_lt (by omega)
    have s2 : (small y || small (y / 2003 + 40692)) = true := by
      have : small y = true := by unfold small; simp only [Bool.and_eq_true, decide_eq_true_eq]; omega
      rw [this]; rfl
    refine ⟨y * (y / 2003 + 40692) % 2147483579 / 7 % k, .lst [.int a, .int b, .int (c + 1)], ?_, (emod_lt hk).1, (emod_lt hk).2, src_set h b0 b1 (by omega) (by omega)⟩
    have q1 : (0 : Int) < 2147483629 := by omega
    have q2 : (0 : Int) < 2147483587 := by omega
    have q3 : (0 : Int) < 2147483579 := by omega
    have q4 : (0 : Int) < 1009 ∧ (1009 : Int) < 2 ^ 64 := by omega
    have q5 : (0 : Int) < 2003 ∧ (2003 : Int) < 2 ^ 64 := by omega
    have q6 : (0 : Int) < 7 ∧ (7 : Int) < 2 ^ 64 := by omega
    have st : setM (.ref s) (.int 2) (.int (c + 1)) A = some (A.set s (.lst [.int a, .int b, .int (c + 1)])) := set_src (m := 2) h rfl
    unfold F__law_draw b__law_draw
    simp only [defM, sSeq, sIf, sSet, sRet, sRetN, sExpr, sNext, sFld_def, sSub, sRaise, eVar, eC, eBin, eUn, tB', eB, bNot, bAnd, bOr, bIf, eIf, eAnd, eOr, eNot, aNil, aCons, eTup, aLst, eFrz, eRef, pN, pA, pK, pAK, eCall, eMeth_def, eFld_def, eMake_def, bind_ok, bind_err, bind_bad, fs_ok, fs_err, fs_bad, List.map_cons, List.map_nil, List.length_cons, List.length_nil, List.replicate, List.cons_append, List.nil_append, List.getElem?_cons_zero, List.getElem?_cons_succ, List.set_cons_zero, List.set_cons_succ, sz0, sz1, sz2, sz3, sz4, sz5, if_true, and_self, Nat.reduceSub, Nat.reduceAdd, List.lookup_cons, List.lookup_nil, i0, i2, gtM, decide_eq_false ha, st, addM, j1, j2, mulM, sm, powM, if_pos p1, intM, modM, hx, if_pos q1, fdivM, if_pos q4, s1, hy, if_pos q2, if_pos q5, s2, if_pos q3, if_pos q6, if_pos hk, Bool.true_or, if_true]
end Rp
/-! Rp1: comparisons; picks -/
namespace Rp
open PySem PySem.Spec PyProof.Rows Mv Rf
def oV : Option Str → MV
  | none => .non
  | some x => .str x
def spV (p : Str × Str) : MV := .tup [.str p.1, .str p.2]
theorem beq_dec {α : Type} [BEq α] [LawfulBEq α] [DecidableEq α] (a b : α) : (a == b) = decide (a = b) := by
  by_cases h : a = b
  · rw [decide_eq_true h, h]; exact beq_self_eq_true b
  · rw [decide_eq_false h]; exact beq_false_of_ne h
theorem eq_str {a b : Str} {A : AH} : eqM (.str a) (.str b) A = .ok (.bl (decide (a = b))) A := by
  have : PyData.eqv (.str a) (.str b) = decide (a = b) := by simp only [PyData.eqv]; exact beq_dec a b
  show (if okD (.str a) && okD (.str b) then Rs.ok (MV.bl (PyData.eqv (.str a) (.str b))) A else Rs.bad) = _
  rw [this]
  rfl
theorem ne_str {a b : Str} {A : AH} : neM (.str a) (.str b) A = .ok (.bl (!decide (a = b))) A := by
  have : PyData.eqv (.str a) (.str b) = decide (a = b) := by simp only [PyData.eqv]; exact beq_dec a b
  show (if okD (.str a) && okD (.str b) then Rs.ok (MV.bl (!PyData.eqv (.str a) (.str b))) A else Rs.bad) = _
  rw [this]
  rfl
theorem eq_int {a b : Int} {A : AH} : eqM (.int a) (.int b) A = .ok (.bl (decide (a = b))) A := by
  have : PyData.eqv (.int a) (.int b) = decide (a = b) := by simp only [PyData.eqv]; exact beq_dec a b
  show (if okD (.int a) && okD (.int b) then Rs.ok (MV.bl (PyData.eqv (.int a) (.int b))) A else Rs.bad) = _
  rw [this]
  rfl
theorem ne_int {a b : Int} {A : AH} : neM (.int a) (.int b) A = .ok (.bl (!decide (a = b))) A := by
  have : PyData.eqv (.int a) (.int b) = decide (a = b) := by simp only [PyData.eqv]; exact beq_dec a b
  show (if okD (.int a) && okD (.int b) then Rs.ok (MV.bl (!PyData.eqv (.int a) (.int b))) A else Rs.bad) = _
  rw [this]
  rfl
theorem ne_o {a b : Option Str} {A : AH} : neM (oV a) (oV b) A = .ok (.bl (!decide (a = b))) A := by
  cases a with
  | none => cases b with
    | none => rfl
    | some b => rfl
  | some a => cases b with
    | none => rfl
    | some b =>
      rw [show decide (some a = some b) = decide (a = b) by simp]
      exact ne_str
theorem eqv_sp (p q : Str × Str) : PyData.eqv (.tuple [.str p.1, .str p.2]) (.tuple [.str q.1, .str q.2]) = decide (p = q) := by
  obtain ⟨a, b⟩ := p
  obtain ⟨c, d⟩ := q
  rw [show decide ((a, b) = (c, d)) = (decide (a = c) && decide (b = d)) by simp]
  rw [← beq_dec, ← beq_dec]
  simp [PyData.eqv, PyData.eqvAll]
theorem ne_sp {p q : Str × Str} {A : AH} : neM (spV p) (spV q) A = .ok (.bl (!decide (p = q))) A := by
  show (if okD (.tuple [.str p.1, .str p.2]) && okD (.tuple [.str q.1, .str q.2]) then Rs.ok (MV.bl (!PyData.eqv (.tuple [.str p.1, .str p.2]) (.tuple [.str q.1, .str q.2]))) A else Rs.bad) = _
  rw [eqv_sp]
  rfl
/-- a thing is equal to itself -/
def good (v : MV) : Bool := match datM v with
  | some d => okD d
  | none => false
theorem datA_of {v : MV} {d : PyData} {A : AH} (h : datM v = some d) : datA A v = some d := by
  cases v with
  | ref n => simp only [datM] at h; cases h
  | _ => exact h
theorem ne_self {v : MV} {A : AH} (h : good v = true) : neM v v A = .ok (.bl false) A := by
  unfold good at h
  split at h
  · rename_i d e
    have p : d.plain = true := by unfold okD at h; simp at h; exact h.1
    unfold neM
    rw [datA_of e]
    simp only [h, Bool.and_self, if_true, SeqAt.eqv_refl_plain d p, Bool.not_true]
  · cases h
theorem eq_self {v : MV} {A : AH} (h : good v = true) : eqM v v A = .ok (.bl true) A := by
  unfold good at h
  split at h
  · rename_i d e
    have p : d.plain = true := by unfold okD at h; simp at h; exact h.1
    unfold eqM
    rw [datA_of e]
    simp only [h, Bool.and_self, if_true, SeqAt.eqv_refl_plain d p]
  · cases h
/-! ### picks -/
theorem atI_mem {xs : List MV} {d : Int} (h0 : 0 ≤ d) (h1 : d < xs.length) : ∃ v ∈ xs, L2.atI xs d = some v := by
  have hl : d.toNat < xs.length := by omega
  refine ⟨xs[d.toNat], List.getElem_mem hl, ?_⟩
  unfold L2.atI L2.ixN
  rw [if_pos h0, if_pos h1]
  exact List.getElem?_eq_getElem hl
theorem pick_ok {A : AH} {s n : Nat} {xs : List MV} (h : Src A s n) (hn : n ≤ 1000000) (h1 : 0 < xs.length) (h2 : xs.length ≤ 1000) : ∃ (v : MV) (o : MO), v ∈ xs ∧ F__law_pick [.ref s, .lst xs] A = .ok v (A.set s o) ∧ Src (A.set s o) s (n + 1) := by
  obtain ⟨d, o, e, d0, d1, S⟩ := draw_ok (k := xs.length) h hn (by omega) (by omega)
  obtain ⟨v, hv, ev⟩ := atI_mem d0 d1
  refine ⟨v, o, hv, ?_, S⟩
  have i : ixM (.lst xs) (.int d) (A.set s o) = .ok v (A.set s o) := by simp only [ixM, dctV, tupOf, lstV, ev]
  unfold F__law_pick b__law_pick
  simp only [defM, sSeq, sIf, sSet, sRet, sRetN, sExpr, sNext, sFld_def, sSub, sRaise, eVar, eC, eBin, eUn, tB', eB, bNot, bAnd, bOr, bIf, eIf, eAnd, eOr, eNot, aNil, aCons, eTup, aLst, eFrz, eRef, pN, pA, pK, pAK, eCall, eMeth_def, eFld_def, eMake_def, bind_ok, bind_err, bind_bad, fs_ok, fs_err, fs_bad, List.map_cons, List.map_nil, List.length_cons, List.length_nil, List.replicate, List.cons_append, List.nil_append, List.getElem?_cons_zero, List.getElem?_cons_succ, List.set_cons_zero, List.set_cons_succ, sz0, sz1, sz2, sz3, sz4, sz5, if_true, and_self, Nat.reduceSub, Nat.reduceAdd, List.lookup_cons, List.lookup_nil, lenM, tupOf, lstV, and_self, if_true, e, i]
def refs : List Str := ["main", "a", "a/b", "a/b/c", "ab", "a/bc", "x-1/0", "main/sub", "a-", "a-b", "a0", "main-2"]
def ids : List Str := ["0000000000000000", "ffffffffffffffff", "0123456789abcdef", "00000000000000aa"]
theorem ref_ok {A : AH} {s n : Nat} (h : Src A s n) (hn : n ≤ 1000000) : ∃ (x : Str) (o : MO), x ∈ refs ∧ F__law_ref [.ref s] A = .ok (.str x) (A.set s o) ∧ Src (A.set s o) s (n + 1) := by
  obtain ⟨v, o, hv, e, S⟩ := pick_ok (xs := refs.map MV.str) h hn (by decide) (by decide)
  obtain ⟨x, hx, rfl⟩ := List.mem_map.mp hv
  refine ⟨x, o, hx, ?_, S⟩
  have e' : F__law_ref [.ref s] A = (match (F__law_pick [.ref s, .lst (refs.map MV.str)] A).fs [some (.ref s), some (.lst (refs.map MV.str))] (fun v A => Fs.rt v A) with
    | .nx _ A' => .ok .non A'
    | .rt v A' => .ok v A'
    | .err c fs _ A' => .err c fs A'
    | _ => .bad) := rfl
  rw [e', e]
  rfl
theorem id_ok {A : AH} {s n : Nat} (h : Src A s n) (hn : n ≤ 1000000) : ∃ (x : Str) (o : MO), x ∈ ids ∧ F__law_id [.ref s] A = .ok (.str x) (A.set s o) ∧ Src (A.set s o) s (n + 1) := by
  obtain ⟨v, o, hv, e, S⟩ := pick_ok (xs := ids.map MV.str) h hn (by decide) (by decide)
  obtain ⟨x, hx, rfl⟩ := List.mem_map.mp hv
  refine ⟨x, o, hx, ?_, S⟩
  have e' : F__law_id [.ref s] A = (match (F__law_pick [.ref s, .lst (ids.map MV.str)] A).fs [some (.ref s)] (fun v A => Fs.rt v A) with
    | .nx _ A' => .ok .non A'
    | .rt v A' => .ok v A'
    | .err c fs _ A' => .err c fs A'
    | _ => .bad) := rfl
  rw [e', e]
  rfl
theorem source_ok {A : AH} {c : Int} : ∃ o, F__law_source [.int c] A = .ok (.ref A.length) (A ++ [o]) ∧ Src (A ++ [o]) A.length 0 := by
  have p : (0 : Int) < 2147483647 := by omega
  have sm : (small c || small (if (decide ((10 : Int) ^ (18 : Int).toNat ≤ c)) then 1 else 0)) = true := by
    by_cases q : (decide ((10 : Int) ^ (18 : Int).toNat ≤ c)) = true
    · rw [if_pos q]; exact Bool.or_true _
    · rw [if_neg q]; exact Bool.or_true _
  have p1 : (0 : Int) ≤ 18 ∧ (18 : Int) ≤ 1000 ∧ (10 : Int).natAbs < 2 ^ 64 := ⟨by omega, by omega, by decide⟩
  refine ⟨.lst [.int (c * (if (decide ((10 : Int) ^ (18 : Int).toNat ≤ c)) then 1 else 0)), .int (c % 2147483647), .int 0], ?_, ⟨_, _, _, new_at, (emod_lt p).1, (emod_lt p).2, Int.le_refl _, Int.le_refl _⟩⟩
  unfold F__law_source b__law_source
  simp only [defM, sSeq, sIf, sSet, sRet, sRetN, sExpr, sNext, sFld_def, sSub, sRaise, eVar, eC, eBin, eUn, tB', eB, bNot, bAnd, bOr, bIf, eIf, eAnd, eOr, eNot, aNil, aCons, eTup, aLst, eFrz, eRef, pN, pA, pK, pAK, eCall, eMeth_def, eFld_def, eMake_def, bind_ok, bind_err, bind_bad, fs_ok, fs_err, fs_bad, List.map_cons, List.map_nil, List.length_cons, List.length_nil, List.replicate, List.cons_append, List.nil_append, List.getElem?_cons_zero, List.getElem?_cons_succ, List.set_cons_zero, List.set_cons_succ, sz0, sz1, sz2, sz3, sz4, sz5, if_true, and_self, Nat.reduceSub, Nat.reduceAdd, List.lookup_cons, List.lookup_nil, powM, if_pos p1, geM, intM, mulM, sm, modM, if_pos p]
end Rp
/-! Rp2: names, ids, entries: what the tests say of them -/
namespace Rp
open PySem PySem.Spec PyProof.Rows Mv Rf
theorem all_mem {α : Type} {p : α → Prop} : ∀ {l : List α}, l.foldr (fun a r => p a ∧ r) True → ∀ c ∈ l, p c
  | [], _, _, h => by cases h
  | a :: l, ⟨h1, h2⟩, c, h => by
    cases h with
    | head => exact h1
    | tail _ h => exact all_mem h2 c h
def more : List Str := ["main/x", "q"]
def nms : List Str := refs ++ more
theorem nms_of {x : Str} (h : x ∈ refs) : x ∈ nms := List.mem_append_left _ h
theorem is_ref_ok {A : AH} : ∀ x ∈ nms, F_is_ref [.str x] A = .ok (.bl true) A :=
  all_mem ⟨by kernel_rfl, by kernel_rfl, by kernel_rfl, by kernel_rfl, by kernel_rfl, by kernel_rfl, by kernel_rfl, by kernel_rfl, by kernel_rfl, by kernel_rfl, by kernel_rfl, by kernel_rfl, by kernel_rfl, by kernel_rfl, trivial⟩
theorem is_id_ok {A : AH} : ∀ x ∈ ids, F_is_id [.str x] A = .ok (.bl true) A :=
  all_mem ⟨by kernel_rfl, by kernel_rfl, by kernel_rfl, by kernel_rfl, trivial⟩
def abv (x : Str) : List Str := match F_above [.str x] [] with
  | .ok (.lst xs) _ => (strsOf xs).getD []
  | _ => []
theorem above_ok {A : AH} : ∀ x ∈ nms, F_above [.str x] A = .ok (.lst ((abv x).map MV.str)) A :=
  all_mem ⟨by kernel_rfl, by kernel_rfl, by kernel_rfl, by kernel_rfl, by kernel_rfl, by kernel_rfl, by kernel_rfl, by kernel_rfl, by kernel_rfl, by kernel_rfl, by kernel_rfl, by kernel_rfl, by kernel_rfl, by kernel_rfl, trivial⟩
theorem law_above_eq : F__law_above = F_above := rfl
def whos : List Str := ["ann", "b-1"]
def msgs : List Str := ["", "note 1", "m"]
theorem is_who_ok {A : AH} : ∀ x ∈ whos, F_is_who [.str x] A = .ok (.bl true) A := all_mem ⟨by kernel_rfl, by kernel_rfl, trivial⟩
theorem is_text_ok {A : AH} : ∀ x ∈ msgs, F_is_text [.str x, .int 200] A = .ok (.bl true) A := all_mem ⟨by kernel_rfl, by kernel_rfl, by kernel_rfl, trivial⟩
theorem is_time_ok {A : AH} {t : Int} (h0 : 0 ≤ t) (h1 : t ≤ 1000) : F_is_time [.int t] A = .ok (.bl true) A := by
  have h2 : t ≤ 1000000000000 := by omega
  unfold F_is_time b_is_time F_is_count b_is_count F_is_whole b_is_whole
  simp only [defM, sSeq, sIf, sSet, sRet, sRetN, sExpr, sNext, sFld_def, sSub, sRaise, eVar, eC, eBin, eUn, tB', eB, bNot, bAnd, bOr, bIf, eIf, eAnd, eOr, eNot, aNil, aCons, eTup, aLst, eFrz, eRef, pN, pA, pK, pAK, eCall, eMeth_def, eFld_def, eMake_def, bind_ok, bind_err, bind_bad, fs_ok, fs_err, fs_bad, List.map_cons, List.map_nil, List.length_cons, List.length_nil, List.replicate, List.cons_append, List.nil_append, List.getElem?_cons_zero, List.getElem?_cons_succ, List.set_cons_zero, List.set_cons_succ, sz0, sz1, sz2, sz3, sz4, sz5, if_true, and_self, Nat.reduceSub, Nat.reduceAdd, List.lookup_cons, List.lookup_nil, and_self, if_true, geM, leM, decide_eq_true h0, decide_eq_true h2, isiM, tyN]
  rfl
theorem is_value_ok {A : AH} {a : Option Str} (h : ∀ x, a = some x → x ∈ ids) : F_is_value [oV a] A = .ok (.bl true) A := by
  cases a with
  | none => kernel_rfl
  | some x =>
    unfold F_is_value b_is_value oV
    simp only [defM, sSeq, sIf, sSet, sRet, sRetN, sExpr, sNext, sFld_def, sSub, sRaise, eVar, eC, eBin, eUn, tB', eB, bNot, bAnd, bOr, bIf, eIf, eAnd, eOr, eNot, aNil, aCons, eTup, aLst, eFrz, eRef, pN, pA, pK, pAK, eCall, eMeth_def, eFld_def, eMake_def, bind_ok, bind_err, bind_bad, fs_ok, fs_err, fs_bad, List.map_cons, List.map_nil, List.length_cons, List.length_nil, List.replicate, List.cons_append, List.nil_append, List.getElem?_cons_zero, List.getElem?_cons_succ, List.set_cons_zero, List.set_cons_succ, sz0, sz1, sz2, sz3, sz4, sz5, if_true, and_self, Nat.reduceSub, Nat.reduceAdd, List.lookup_cons, List.lookup_nil, isNM, isN, and_self, if_true, is_id_ok x (h x rfl)]
theorem is_named_ok {A : AH} : ∀ x ∈ nms, F_is_named [.str x] A = .ok (.bl true) A := fun x hx => by
  unfold F_is_named b_is_named
  simp only [defM, sSeq, sIf, sSet, sRet, sRetN, sExpr, sNext, sFld_def, sSub, sRaise, eVar, eC, eBin, eUn, tB', eB, bNot, bAnd, bOr, bIf, eIf, eAnd, eOr, eNot, aNil, aCons, eTup, aLst, eFrz, eRef, pN, pA, pK, pAK, eCall, eMeth_def, eFld_def, eMake_def, bind_ok, bind_err, bind_bad, fs_ok, fs_err, fs_bad, List.map_cons, List.map_nil, List.length_cons, List.length_nil, List.replicate, List.cons_append, List.nil_append, List.getElem?_cons_zero, List.getElem?_cons_succ, List.set_cons_zero, List.set_cons_succ, sz0, sz1, sz2, sz3, sz4, sz5, if_true, and_self, Nat.reduceSub, Nat.reduceAdd, List.lookup_cons, List.lookup_nil, and_self, if_true, is_ref_ok x hx]
theorem is_named_head {A : AH} : F_is_named [.str "HEAD"] A = .ok (.bl true) A := by kernel_rfl
theorem is_named_never {A : AH} : F_is_named [.str "never"] A = .ok (.bl true) A := by kernel_rfl
/-- the entries of a log -/
structure Ent where
  a : Option Str
  b : Option Str
  who : Str
  time : Int
  msg : Str
def entV (e : Ent) : MV := .tup [oV e.a, oV e.b, .str e.who, .int e.time, .str e.msg]
structure EntOk (e : Ent) : Prop where
  a : ∀ x, e.a = some x → x ∈ ids
  b : ∀ x, e.b = some x → x ∈ ids
  who : e.who ∈ whos
  t0 : 0 ≤ e.time
  t1 : e.time ≤ 1000
  msg : e.msg ∈ msgs
theorem is_entry_ok {A : AH} {e : Ent} (h : EntOk e) : F_is_entry [entV e] A = .ok (.bl true) A := by
  have i0 : ixM (entV e) (.int 0) A = .ok (oV e.a) A := ix_tup rfl
  have i1 : ixM (entV e) (.int 1) A = .ok (oV e.b) A := ix_tup rfl
  have i2 : ixM (entV e) (.int 2) A = .ok (.str e.who) A := ix_tup rfl
  have i3 : ixM (entV e) (.int 3) A = .ok (.int e.time) A := ix_tup rfl
  have i4 : ixM (entV e) (.int 4) A = .ok (.str e.msg) A := ix_tup rfl
  have l : lenM [entV e] A = .ok (.int 5) A := rfl
  have t : isiM [entV e, .ty "tuple"] A = .ok (.bl true) A := rfl
  unfold F_is_entry b_is_entry
  simp only [defM, sSeq, sIf, sSet, sRet, sRetN, sExpr, sNext, sFld_def, sSub, sRaise, eVar, eC, eBin, eUn, tB', eB, bNot, bAnd, bOr, bIf, eIf, eAnd, eOr, eNot, aNil, aCons, eTup, aLst, eFrz, eRef, pN, pA, pK, pAK, eCall, eMeth_def, eFld_def, eMake_def, bind_ok, bind_err, bind_bad, fs_ok, fs_err, fs_bad, List.map_cons, List.map_nil, List.length_cons, List.length_nil, List.replicate, List.cons_append, List.nil_append, List.getElem?_cons_zero, List.getElem?_cons_succ, List.set_cons_zero, List.set_cons_succ, sz0, sz1, sz2, sz3, sz4, sz5, if_true, and_self, Nat.reduceSub, Nat.reduceAdd, List.lookup_cons, List.lookup_nil, t, l, ne_int, i0, i1, i2, i3, i4, and_self, if_true, is_value_ok h.a, is_value_ok h.b, is_who_ok _ h.who, is_time_ok h.t0 h.t1, is_text_ok _ h.msg, Bool.not_true, decide_true]
end Rp
/-! Rp3: dicts with texts as keys, as plain lists of pairs -/
namespace Rp
open PySem PySem.Spec PyProof.Rows Mv Rf
abbrev Tb (β : Type) := List (Str × β)
section
variable {β : Type}
def keys (T : Tb β) : List Str := T.map (·.1)
def get : Tb β → Str → Option β
  | [], _ => none
  | p :: r, k => if p.1 = k then some p.2 else get r k
def put (T : Tb β) (k : Str) (v : β) : Tb β := if k ∈ keys T then T.map (fun p => if p.1 = k then (p.1, v) else p) else T ++ [(k, v)]
def drop (T : Tb β) (k : Str) : Tb β := T.filter fun p => decide (p.1 ≠ k)
theorem get_cons {p : Str × β} {r : Tb β} {k : Str} : get (p :: r) k = if p.1 = k then some p.2 else get r k := rfl
theorem get_none {T : Tb β} {k : Str} : get T k = none ↔ k ∉ keys T := by
  induction T with
  | nil => simp [get, keys]
  | cons p r ih =>
    by_cases h : p.1 = k
    · simp [get, keys, h]
    · have h' : k ≠ p.1 := fun e => h e.symm
      simp only [get, h, if_false, ih, keys, List.map_cons, List.mem_cons, h', false_or]
theorem get_mem {T : Tb β} {k : Str} {v : β} (h : get T k = some v) : (k, v) ∈ T := by
  induction T with
  | nil => cases h
  | cons p r ih =>
    unfold get at h
    by_cases e : p.1 = k
    · rw [if_pos e] at h
      cases h
      rw [← e]
      exact List.mem_cons_self ..
    · rw [if_neg e] at h
      exact List.mem_cons_of_mem _ (ih h)
theorem get_isSome {T : Tb β} {k : Str} : (get T k).isSome = decide (k ∈ keys T) := by
  cases h : get T k with
  | none => rw [decide_eq_false (get_none.mp h)]; rfl
  | some v => rw [decide_eq_true]; rfl; exact Decidable.byContradiction fun z => by rw [get_none.mpr z] at h; cases h
theorem mem_get {T : Tb β} {k : Str} (h : k ∈ keys T) : ∃ v, get T k = some v := by
  cases e : get T k with
  | none => exact absurd h (get_none.mp e)
  | some v => exact ⟨v, rfl⟩
theorem get_of_mem {T : Tb β} (nd : (keys T).Nodup) {k : Str} {v : β} (h : (k, v) ∈ T) : get T k = some v := by
  induction T with
  | nil => cases h
  | cons p r ih =>
    rw [keys, List.map_cons, List.nodup_cons] at nd
    unfold get
    cases h with
    | head => rw [if_pos rfl]
    | tail _ h =>
      rw [if_neg (fun e => nd.1 (by rw [e]; exact List.mem_map_of_mem (f := (·.1)) h))]
      exact ih nd.2 h
theorem get_app {T U : Tb β} {k : Str} : get (T ++ U) k = (get T k).or (get U k) := by
  induction T with
  | nil => rfl
  | cons p r ih =>
    show (if p.1 = k then some p.2 else get (r ++ U) k) = (if p.1 = k then some p.2 else get r k).or (get U k)
    by_cases h : p.1 = k
    · rw [if_pos h, if_pos h]; rfl
    · rw [if_neg h, if_neg h]; exact ih
theorem get_put {T : Tb β} {k j : Str} {v : β} : get (put T k v) j = if j = k then some v else get T j := by
  unfold put
  by_cases h : k ∈ keys T
  · rw [if_pos h]
    induction T with
    | nil => cases h
    | cons p r ih =>
      rw [List.map_cons]
      unfold get
      by_cases e : p.1 = k
      · rw [if_pos e]
        by_cases ej : p.1 = j
        · rw [if_pos ej, if_pos (ej.symm.trans e)]
        · rw [if_neg ej]
          have hjk : j ≠ k := fun z => ej (e.trans z.symm)
          rw [if_neg hjk]
          rw [if_neg ej]
          clear ih h
          induction r with
          | nil => rfl
          | cons q r ih2 =>
            rw [List.map_cons]
            unfold get
            by_cases eq : q.1 = k
            · rw [if_pos eq]
              have : ¬ q.1 = j := fun z => hjk (z.symm.trans eq)
              dsimp only
              rw [if_neg this, if_neg this]
              exact ih2
            · rw [if_neg eq]
              by_cases z : q.1 = j
              · rw [if_pos z, if_pos z]
              · rw [if_neg z, if_neg z]
                exact ih2
      · rw [if_neg e]
        have hr : k ∈ keys r := by
          cases h with
          | head => exact absurd rfl e
          | tail _ h => exact h
        by_cases ej : p.1 = j
        · rw [if_pos ej, if_pos ej, if_neg (fun z => e (ej.trans z))]
        · rw [if_neg ej, if_neg ej]
          exact ih hr
  · rw [if_neg h, get_app]
    by_cases e : j = k
    · rw [if_pos e, e, get_none.mpr h]
      show get [(k, v)] k = some v
      unfold get
      rw [if_pos rfl]
    · rw [if_neg e]
      have : get [(k, v)] j = none := by
        unfold get
        rw [if_neg (fun z => e z.symm)]
        rfl
      rw [this, Option.or_none]
theorem get_drop {T : Tb β} {k j : Str} : get (drop T k) j = if j = k then none else get T j := by
  unfold drop
  induction T with
  | nil => simp [get]
  | cons p r ih =>
    rw [List.filter_cons]
    by_cases e : p.1 = k
    · rw [if_neg (by simp [e]), ih]
      by_cases ej : j = k
      · rw [if_pos ej, if_pos ej]
      · rw [if_neg ej, if_neg ej]
        show _ = (if p.1 = j then some p.2 else get r j)
        rw [if_neg (fun z => ej (z.symm.trans e))]
    · rw [if_pos (by simp [e])]
      show (if p.1 = j then some p.2 else get (r.filter _) j) = _
      rw [ih]
      by_cases ej : j = k
      · rw [if_pos ej, if_pos ej, if_neg (fun z => e (z.trans ej))]
      · rw [if_neg ej, if_neg ej]
        rfl
theorem keys_put {T : Tb β} {k : Str} {v : β} : keys (put T k v) = if k ∈ keys T then keys T else keys T ++ [k] := by
  unfold put
  by_cases h : k ∈ keys T
  · rw [if_pos h, if_pos h]
    unfold keys
    rw [List.map_map]
    apply List.map_congr_left
    intro p _
    show (if p.1 = k then (p.1, v) else p).1 = p.1
    split <;> rfl
  · rw [if_neg h, if_neg h]
    unfold keys
    rw [List.map_append]
    rfl
theorem nodup_put {T : Tb β} {k : Str} {v : β} (h : (keys T).Nodup) : (keys (put T k v)).Nodup := by
  rw [keys_put]
  split
  · exact h
  · rename_i q
    rw [List.nodup_append]
    refine ⟨h, by simp, fun a ha b hb => ?_⟩
    rw [List.mem_singleton] at hb
    exact fun z => q (by rw [← hb, ← z]; exact ha)
theorem keys_drop {T : Tb β} {k : Str} : keys (drop T k) = (keys T).filter fun x => decide (x ≠ k) := by
  unfold drop keys
  rw [List.filter_map]
  rfl
theorem nodup_drop {T : Tb β} {k : Str} (h : (keys T).Nodup) : (keys (drop T k)).Nodup := by
  rw [keys_drop]
  exact h.filter _
theorem all_put {P : Str → β → Prop} {T : Tb β} {k : Str} {v : β} (h : ∀ p ∈ T, P p.1 p.2) (hv : P k v) : ∀ p ∈ put T k v, P p.1 p.2 := by
  intro p hp
  unfold put at hp
  split at hp
  · obtain ⟨q, hq, rfl⟩ := List.mem_map.mp hp
    split
    · rename_i e; rw [← e] at hv; exact hv
    · exact h q hq
  · rcases List.mem_append.mp hp with hp | hp
    · exact h p hp
    · rw [List.mem_singleton] at hp
      rw [hp]
      exact hv
theorem all_drop {P : Str → β → Prop} {T : Tb β} {k : Str} (h : ∀ p ∈ T, P p.1 p.2) : ∀ p ∈ drop T k, P p.1 p.2 := fun p hp => h p (List.mem_filter.mp hp).1
/-! ### as dicts -/
def mapK (f : β → MV) (T : Tb β) : List (L2.Key × MV) := T.map fun p => (.inr p.1, f p.2)
variable {f : β → MV} {T : Tb β} {k : Str} {v : β}
theorem val_mapK : valM (mapK f T) (.inr k) = (get T k).map f := by
  unfold valM mapK
  induction T with
  | nil => rfl
  | cons p r ih =>
    rw [List.map_cons, List.find?_cons]
    by_cases h : p.1 = k
    · simp [get, h]
    · simp only [Sum.inr.injEq, h, decide_false, get, if_false]
      exact ih
theorem put_mapK : putM (mapK f T) (.inr k) (f v) = mapK f (put T k v) := by
  unfold putM put
  have a : ((mapK f T).any fun kv => decide (kv.1 = .inr k)) = decide (k ∈ keys T) := by
    unfold mapK keys
    rw [List.any_map]
    by_cases h : k ∈ T.map (·.1)
    · rw [decide_eq_true h]
      obtain ⟨p, hp, e⟩ := List.mem_map.mp h
      exact List.any_eq_true.mpr ⟨p, hp, by simp [e]⟩
    · rw [decide_eq_false h]
      refine List.any_eq_false.mpr fun p hp => ?_
      simp only [Function.comp, Sum.inr.injEq, decide_eq_true_eq]
      exact fun e => h (List.mem_map.mpr ⟨p, hp, e⟩)
  rw [a]
  by_cases h : k ∈ keys T
  · rw [decide_eq_true h, if_pos rfl, if_pos h]
    unfold mapK
    rw [List.map_map, List.map_map]
    apply List.map_congr_left
    intro p _
    simp only [Function.comp, Sum.inr.injEq]
    split <;> rfl
  · rw [decide_eq_false h, if_neg Bool.false_ne_true, if_neg h]
    unfold mapK
    rw [List.map_append]
    rfl
theorem drop_mapK : dropM (mapK f T) (.inr k) = mapK f (drop T k) := by
  unfold dropM mapK drop
  rw [List.filter_map]
  congr 1
  apply List.filter_congr
  intro p _
  simp [Function.comp]
theorem keyStrs_mapK : keyStrs (mapK f T) = some (keys T) := by
  induction T with
  | nil => rfl
  | cons p r ih =>
    show (keyStrs (mapK f r)).map (p.1 :: ·) = some (keys (p :: r))
    rw [ih]
    rfl
theorem len_mapK : (mapK f T).length = T.length := List.length_map ..
theorem mapK_nil : mapK f [] = [] := rfl
/-! ### in order -/
def skeys (T : Tb β) : List Str := sortS (keys T)
theorem mem_skeys {k : Str} : k ∈ skeys T ↔ k ∈ keys T := (sortS_perm _).mem_iff
theorem nodup_skeys (h : (keys T).Nodup) : (skeys T).Nodup := (sortS_perm _).nodup_iff.mpr h
theorem skeys_eq {γ : Type} {U : Tb γ} (h : (keys T).Nodup) (h' : (keys U).Nodup) (e : ∀ k, k ∈ keys T ↔ k ∈ keys U) : skeys T = skeys U :=
  asc_unique ((sortS_perm _).trans (((List.perm_ext_iff_of_nodup h h').mpr e).trans (sortS_perm _).symm)) (sortS_asc _) (sortS_asc _)
theorem keys_of_get {γ : Type} {U : Tb γ} (e : ∀ k, (get T k).isSome = (get U k).isSome) : ∀ k, k ∈ keys T ↔ k ∈ keys U := fun k => by
  have := e k
  rw [get_isSome, get_isSome] at this
  exact decide_eq_decide.mp this
theorem len_eq {γ : Type} {U : Tb γ} (h : (keys T).Nodup) (h' : (keys U).Nodup) (e : ∀ k, k ∈ keys T ↔ k ∈ keys U) : T.length = U.length := by
  have := ((List.perm_ext_iff_of_nodup h h').mpr e).length_eq
  unfold keys at this
  rwa [List.length_map, List.length_map] at this
/-- some keys in a row, with what stands at them -/
def rowOf (T : Tb β) (ks : List Str) : Tb β := ks.filterMap fun k => (get T k).map fun v => (k, v)
theorem keys_rowOf {ks : List Str} (h : ∀ k ∈ ks, k ∈ keys T) : keys (rowOf T ks) = ks := by
  induction ks with
  | nil => rfl
  | cons k r ih =>
    obtain ⟨v, e⟩ := mem_get (h k (List.mem_cons_self ..))
    show (List.map _ (List.filterMap _ (k :: r))) = _
    rw [List.filterMap_cons]
    simp only [e, Option.map_some, List.map_cons]
    congr 1
    exact ih fun j hj => h j (List.mem_cons_of_mem _ hj)
theorem get_rowOf {ks : List Str} {j : Str} : get (rowOf T ks) j = if j ∈ ks then get T j else none := by
  induction ks with
  | nil => rfl
  | cons k r ih =>
    unfold rowOf at *
    rw [List.filterMap_cons]
    cases e : get T k with
    | none =>
      simp only [Option.map_none]
      rw [ih]
      by_cases z : j = k
      · subst z
        rw [if_pos (List.mem_cons_self ..), e]
        split <;> rfl
      · have : (j ∈ k :: r) ↔ j ∈ r := by simp [z]
        simp only [this]
    | some v =>
      simp only [Option.map_some]
      rw [get_cons]
      by_cases z : j = k
      · subst z
        rw [if_pos rfl, if_pos (List.mem_cons_self ..)]
        exact e.symm
      · rw [if_neg (fun q => z q.symm), ih]
        have : (j ∈ k :: r) ↔ j ∈ r := by simp [z]
        simp only [this]
theorem all_rowOf {P : Str → β → Prop} {ks : List Str} (h : ∀ p ∈ T, P p.1 p.2) : ∀ p ∈ rowOf T ks, P p.1 p.2 := by
  intro p hp
  unfold rowOf at hp
  obtain ⟨k, _, e⟩ := List.mem_filterMap.mp hp
  cases q : get T k with
  | none => rw [q] at e; cases e
  | some v => rw [q] at e; cases e; exact h _ (get_mem q)
end
end Rp
/-! Rp4: comprehensions; references as an object: what is read of it -/
namespace Rp
open PySem PySem.Spec PyProof.Rows Mv Rf
/-! ### data -/
def oD : Option Str → PyData
  | none => .none
  | some x => .str x
def entD (e : Ent) : PyData := .tuple [oD e.a, oD e.b, .str e.who, .int e.time, .str e.msg]
theorem datM_ent (e : Ent) : datM (entV e) = some (entD e) := by
  obtain ⟨a, b, w, t, m⟩ := e
  cases a <;> cases b <;> rfl
theorem datMs_ent : ∀ es : List Ent, datMs (es.map entV) = some (es.map entD)
  | [] => rfl
  | e :: es => by
    show (match datM (entV e), datMs (es.map entV) with | some d, some ds => some (d :: ds) | _, _ => none) = _
    rw [datM_ent, datMs_ent es]
    rfl
theorem okD_ents (es : List Ent) : okD (.list (es.map entD)) = true := by
  have h1 : PyData.plainAll (es.map entD) = true := by
    induction es with
    | nil => rfl
    | cons e es ih =>
      show (PyData.plain (entD e) && PyData.plainAll (es.map entD)) = true
      rw [ih, Bool.and_true]
      obtain ⟨a, b, w, t, m⟩ := e
      cases a <;> cases b <;> rfl
  have h2 : PyData.depthAll (es.map entD) ≤ 10 := by
    clear h1
    induction es with
    | nil => decide
    | cons e es ih =>
      simp only [List.map_cons, PyData.depthAll]
      have : PyData.depth (entD e) ≤ 9 := by
        obtain ⟨a, b, w, t, m⟩ := e
        cases a <;> cases b <;> simp [entD, oD, PyData.depth, PyData.depthAll]
      omega
  show (PyData.plainAll (es.map entD) && decide (PyData.depthAll (es.map entD) + 1 ≤ 60)) = true
  rw [h1, decide_eq_true (by omega)]
  rfl
theorem good_ents (es : List Ent) : good (.lst (es.map entV)) = true := by
  unfold good
  rw [show datM (.lst (es.map entV)) = some (.list (es.map entD)) by simp only [datM, datMs_ent, Option.map_some]]
  exact okD_ents es
theorem ne_ents_nil {es : List Ent} {A : AH} : neM (.lst (es.map entV)) (.lst []) A = .ok (.bl (!es.isEmpty)) A := by
  have h : datA A (.lst (es.map entV)) = some (.list (es.map entD)) := by
    show (datMs (es.map entV)).map PyData.list = _
    rw [datMs_ent]
    rfl
  have h' : datA A (.lst []) = some (.list []) := rfl
  unfold neM
  rw [h, h']
  simp only [okD_ents, Bool.true_and]
  rw [if_pos (by decide)]
  cases es with
  | nil => rfl
  | cons e es => simp [PyData.eqv, PyData.eqvAll]
/-! ### comprehensions that only read -/
section
variable {γ : Type} {is : List Nat} {g : MV → Option (List MV)} {q : FQ} {ρ : ME} {A : AH} {inj : γ → MV} {h : γ → List MV}
theorem qRun_ys : ∀ {ys : List γ}, (∀ y ∈ ys, ∃ ms, g (inj y) = some ms ∧ q (setAllM ρ is ms) A = .ok (h y) A) → qRun is g q (ys.map inj) ρ A = .ok (ys.flatMap h) A
  | [], _ => rfl
  | y :: ys, H => by
    obtain ⟨ms, e1, e2⟩ := H y (List.mem_cons_self ..)
    rw [List.map_cons]
    unfold qRun
    rw [e1]
    dsimp only
    rw [e2]
    dsimp only
    rw [qRun_ys fun z hz => H z (List.mem_cons_of_mem _ hz)]
    rfl
end
theorem szL_le {vs : List MV} (h : vs.length ≤ 1000) : szL vs = true := decide_eq_true (Nat.le_trans h (by decide))
/-- lists without doubles within another -/
theorem nodup_le : ∀ {l m : List Str}, l.Nodup → (∀ x ∈ l, x ∈ m) → l.length ≤ m.length
  | [], _, _, _ => Nat.zero_le _
  | x :: l, m, nd, h => by
    rw [List.nodup_cons] at nd
    have hm := h x (List.mem_cons_self ..)
    have := nodup_le (l := l) (m := m.erase x) nd.2 fun y hy => (List.mem_erase_of_ne (fun z => nd.1 (by rw [← z]; exact hy))).mpr (h y (List.mem_cons_of_mem _ hy))
    rw [List.length_erase_of_mem hm] at this
    have p : 0 < m.length := List.length_pos_of_mem hm
    rw [List.length_cons]
    omega
/-! ### tables, logs -/
def tabV (T : Tb Str) : List (L2.Key × MV) := mapK MV.str T
def entsV (es : List Ent) : MV := .lst (es.map entV)
def logV (L : Tb (List Ent)) : List (L2.Key × MV) := mapK entsV L
structure TabOk (T : Tb Str) : Prop where
  nd : (keys T).Nodup
  all : ∀ p ∈ T, p.1 ∈ nms ∧ p.2 ∈ ids
structure LogOk (L : Tb (List Ent)) (n : Nat) : Prop where
  nd : (keys L).Nodup
  all : ∀ p ∈ L, (p.1 ∈ nms ∨ p.1 = "HEAD") ∧ (∀ e ∈ p.2, EntOk e) ∧ p.2.length ≤ n
def SpOk (p : Str × Str) : Prop := (p.1 = "ref" ∧ p.2 ∈ nms) ∨ (p.1 = "id" ∧ p.2 ∈ ids)
theorem TabOk.key {T : Tb Str} (h : TabOk T) {k : Str} (hk : k ∈ keys T) : k ∈ nms := by
  obtain ⟨p, hp, e⟩ := List.mem_map.mp hk
  rw [← e]
  exact (h.all p hp).1
theorem TabOk.len {T : Tb Str} (h : TabOk T) : (keys T).length < 64 := Nat.lt_of_le_of_lt (nodup_le h.nd fun k hk => h.key hk) (by decide)
def nmsH : List Str := nms ++ ("HEAD" : Str) :: []
theorem LogOk.key {L : Tb (List Ent)} {n : Nat} (h : LogOk L n) {k : Str} (hk : k ∈ keys L) : k ∈ nms ∨ k = "HEAD" := by
  obtain ⟨p, hp, e⟩ := List.mem_map.mp hk
  rw [← e]
  exact (h.all p hp).1
theorem LogOk.len {L : Tb (List Ent)} {n : Nat} (h : LogOk L n) : (keys L).length < 64 := Nat.lt_of_le_of_lt (nodup_le (m := nmsH) h.nd fun k hk => (h.key hk).elim (List.mem_append_left _) fun e => List.mem_append_right _ (by rw [e]; exact List.mem_cons_self ..)) (by decide)
theorem skeys_len {β : Type} {T : Tb β} : (skeys T).length = (keys T).length := (sortS_perm _).length_eq
theorem row_len {β : Type} {T : Tb β} : (rowOf T (skeys T)).length = (skeys T).length := by
  have := congrArg List.length (keys_rowOf (T := T) (ks := skeys T) fun k hk => mem_skeys.mp hk)
  unfold keys at this
  rwa [List.length_map] at this
/-- what is written down of a table, of logs -/
def srt (T : Tb Str) : Tb Str := rowOf T (skeys T)
def srtL (L : Tb (List Ent)) : Tb (List Ent) := (rowOf L (skeys L)).filter fun p => !p.2.isEmpty
theorem flat_row {β : Type} {T : Tb β} {F : Str × β → MV} : ∀ {ks : List Str}, ks.flatMap (fun k => ((get T k).map fun v => F (k, v)).toList) = (rowOf T ks).map F
  | [] => rfl
  | k :: ks => by
    rw [List.flatMap_cons, flat_row (ks := ks)]
    unfold rowOf
    rw [List.filterMap_cons]
    cases get T k <;> rfl
def pkF {β : Type} (c : Str × β → Bool) (F : Str × β → MV) (k : Str) : Option β → List MV
  | some v => if c (k, v) then [F (k, v)] else []
  | none => []
theorem flat_rowF {β : Type} {T : Tb β} {c : Str × β → Bool} {F : Str × β → MV} : ∀ {ks : List Str}, ks.flatMap (fun k => pkF c F k (get T k)) = ((rowOf T ks).filter c).map F
  | [] => rfl
  | k :: ks => by
    rw [List.flatMap_cons, flat_rowF (ks := ks)]
    unfold rowOf
    rw [List.filterMap_cons]
    cases get T k with
    | none => rfl
    | some v =>
      dsimp only [Option.map_some, pkF]
      rw [List.filter_cons]
      cases c (k, v) <;> rfl
def cE (p : Str × List Ent) : Bool := !p.2.isEmpty
def fE (p : Str × List Ent) : MV := .tup [.str p.1, .tup (p.2.map entV)]
structure RefsAt (A : AH) (r e t l : Nat) (T : Tb Str) (sp : Str × Str) (L : Tb (List Ent)) (es : List MV) : Prop where
  r : A[r]? = some (.ins "Refs" [("edits", .ref e), ("table", .ref t), ("spot", spV sp), ("logs", .ref l)])
  e : A[e]? = some (.lst es)
  t : A[t]? = some (.dct (tabV T))
  l : A[l]? = some (.dct (logV L))
section
variable {A : AH} {r e t l n : Nat} {T : Tb Str} {sp : Str × Str} {L : Tb (List Ent)} {es : List MV}
theorem RefsAt.fe (R : RefsAt A r e t l T sp L es) : fldM "Refs" "edits" (.ref r) A = .ok (.ref e) A := fld_at R.r rfl
theorem RefsAt.ft (R : RefsAt A r e t l T sp L es) : fldM "Refs" "table" (.ref r) A = .ok (.ref t) A := fld_at R.r rfl
theorem RefsAt.fs (R : RefsAt A r e t l T sp L es) : fldM "Refs" "spot" (.ref r) A = .ok (spV sp) A := fld_at R.r rfl
theorem RefsAt.fl (R : RefsAt A r e t l T sp L es) : fldM "Refs" "logs" (.ref r) A = .ok (.ref l) A := fld_at R.r rfl
theorem RefsAt.dt (R : RefsAt A r e t l T sp L es) : dctV A (.ref t) = some (tabV T) := dctV_at R.t
theorem RefsAt.dl (R : RefsAt A r e t l T sp L es) : dctV A (.ref l) = some (logV L) := dctV_at R.l
theorem RefsAt.fr {A' : AH} {S : Nat → Prop} (R : RefsAt A r e t l T sp L es) (f : Fr S A A') (h1 : ¬ S r) (h2 : ¬ S e) (h3 : ¬ S t) (h4 : ¬ S l) : RefsAt A' r e t l T sp L es := ⟨f.same _ _ h1 R.r, f.same _ _ h2 R.e, f.same _ _ h3 R.t, f.same _ _ h4 R.l⟩
theorem tab_get {k : Str} : ((get T k).map MV.str).getD .non = oV (get T k) := by cases get T k <;> rfl
theorem sorted_tab (d : dctV A (.ref t) = some (tabV T)) (ok : (keys T).length < 64) : sortedL [.ref t] A = .ok ((skeys T).map MV.str) A := by
  unfold sortedL
  dsimp only
  rw [d]
  dsimp only
  unfold tabV
  rw [keyStrs_mapK]
  dsimp only
  rw [if_pos ok]
  rfl
theorem sorted_log (d : dctV A (.ref l) = some (logV L)) (ok : (keys L).length < 64) : sortedL [.ref l] A = .ok ((skeys L).map MV.str) A := by
  unfold sortedL
  dsimp only
  rw [d]
  dsimp only
  unfold logV
  rw [keyStrs_mapK]
  dsimp only
  rw [if_pos ok]
  rfl
theorem ix_tab {k v : Str} (d : dctV A (.ref t) = some (tabV T)) (h : get T k = some v) : ixM (.ref t) (.str k) A = .ok (.str v) A := ix_dct d (by unfold tabV; rw [val_mapK, h]; rfl)
theorem ix_log {k : Str} {v : List Ent} (d : dctV A (.ref l) = some (logV L)) (h : get L k = some v) : ixM (.ref l) (.str k) A = .ok (entsV v) A := ix_dct d (by unfold logV; rw [val_mapK, h]; rfl)
theorem names_ok (R : RefsAt A r e t l T sp L es) (ok : TabOk T) : F_Refs_names [.ref r] A = .ok (.tup ((skeys T).map MV.str)) A := by
  unfold F_Refs_names b_Refs_names
  simp only [defM, sSeq, sIf, sSet, sRet, sRetN, sExpr, sNext, sFld_def, sSub, sRaise, eVar, eC, eBin, eUn, tB', eB, bNot, bAnd, bOr, bIf, eIf, eAnd, eOr, eNot, aNil, aCons, eTup, aLst, eFrz, eRef, pN, pA, pK, pAK, eCall, eMeth_def, eFld_def, eMake_def, bind_ok, bind_err, bind_bad, fs_ok, fs_err, fs_bad, List.map_cons, List.map_nil, List.length_cons, List.length_nil, List.replicate, List.cons_append, List.nil_append, List.getElem?_cons_zero, List.getElem?_cons_succ, List.set_cons_zero, List.set_cons_succ, sz0, sz1, sz2, sz3, sz4, sz5, if_true, and_self, Nat.reduceSub, Nat.reduceAdd, List.lookup_cons, List.lookup_nil, R.ft, sorted_tab R.dt ok.len, tupleM, tupOf, lstV]
theorem len_ok (R : RefsAt A r e t l T sp L es) : F_Refs___len__ [.ref r] A = .ok (.int T.length) A := by
  unfold F_Refs___len__ b_Refs___len__
  have h : lstV A (.ref t) = none := by unfold lstV; dsimp only; rw [R.t]
  simp only [defM, sSeq, sIf, sSet, sRet, sRetN, sExpr, sNext, sFld_def, sSub, sRaise, eVar, eC, eBin, eUn, tB', eB, bNot, bAnd, bOr, bIf, eIf, eAnd, eOr, eNot, aNil, aCons, eTup, aLst, eFrz, eRef, pN, pA, pK, pAK, eCall, eMeth_def, eFld_def, eMake_def, bind_ok, bind_err, bind_bad, fs_ok, fs_err, fs_bad, List.map_cons, List.map_nil, List.length_cons, List.length_nil, List.replicate, List.cons_append, List.nil_append, List.getElem?_cons_zero, List.getElem?_cons_succ, List.set_cons_zero, List.set_cons_succ, sz0, sz1, sz2, sz3, sz4, sz5, if_true, and_self, Nat.reduceSub, Nat.reduceAdd, List.lookup_cons, List.lookup_nil, R.ft, lenM, tupOf, h, R.dt, tabV, len_mapK]
theorem in_tab {k : Str} (d : dctV A (.ref t) = some (tabV T)) : inM (.str k) (.ref t) A = .ok (.bl (decide (k ∈ keys T))) A := by
  unfold inM inB
  dsimp only
  rw [d]
  dsimp only [keyOf]
  unfold tabV
  rw [val_mapK, Option.isSome_map, get_isSome]
theorem notin_tab {k : Str} (d : dctV A (.ref t) = some (tabV T)) : notInM (.str k) (.ref t) A = .ok (.bl (!decide (k ∈ keys T))) A := by
  unfold notInM inB
  dsimp only
  rw [d]
  dsimp only [keyOf]
  unfold tabV
  rw [val_mapK, Option.isSome_map, get_isSome]
theorem contains_ok (R : RefsAt A r e t l T sp L es) {k : Str} (hk : k ∈ nms) : F_Refs___contains__ [.ref r, .str k] A = .ok (.bl (decide (k ∈ keys T))) A := by
  unfold F_Refs___contains__ b_Refs___contains__
  simp only [defM, sSeq, sIf, sSet, sRet, sRetN, sExpr, sNext, sFld_def, sSub, sRaise, eVar, eC, eBin, eUn, tB', eB, bNot, bAnd, bOr, bIf, eIf, eAnd, eOr, eNot, aNil, aCons, eTup, aLst, eFrz, eRef, pN, pA, pK, pAK, eCall, eMeth_def, eFld_def, eMake_def, bind_ok, bind_err, bind_bad, fs_ok, fs_err, fs_bad, List.map_cons, List.map_nil, List.length_cons, List.length_nil, List.replicate, List.cons_append, List.nil_append, List.getElem?_cons_zero, List.getElem?_cons_succ, List.set_cons_zero, List.set_cons_succ, sz0, sz1, sz2, sz3, sz4, sz5, if_true, and_self, Nat.reduceSub, Nat.reduceAdd, List.lookup_cons, List.lookup_nil, is_ref_ok k hk, R.ft, in_tab R.dt, and_self, if_true]
theorem getitem_ok (R : RefsAt A r e t l T sp L es) {k v : Str} (hk : k ∈ nms) (h : get T k = some v) : F_Refs___getitem__ [.ref r, .str k] A = .ok (.str v) A := by
  have m : k ∈ keys T := Decidable.byContradiction fun z => by rw [get_none.mpr z] at h; cases h
  unfold F_Refs___getitem__ b_Refs___getitem__
  simp only [defM, sSeq, sIf, sSet, sRet, sRetN, sExpr, sNext, sFld_def, sSub, sRaise, eVar, eC, eBin, eUn, tB', eB, bNot, bAnd, bOr, bIf, eIf, eAnd, eOr, eNot, aNil, aCons, eTup, aLst, eFrz, eRef, pN, pA, pK, pAK, eCall, eMeth_def, eFld_def, eMake_def, bind_ok, bind_err, bind_bad, fs_ok, fs_err, fs_bad, List.map_cons, List.map_nil, List.length_cons, List.length_nil, List.replicate, List.cons_append, List.nil_append, List.getElem?_cons_zero, List.getElem?_cons_succ, List.set_cons_zero, List.set_cons_succ, sz0, sz1, sz2, sz3, sz4, sz5, if_true, and_self, Nat.reduceSub, Nat.reduceAdd, List.lookup_cons, List.lookup_nil, is_ref_ok k hk, R.ft, notin_tab R.dt, ix_tab R.dt h, decide_eq_true m, and_self, if_true, Bool.not_true]
theorem head_ok (R : RefsAt A r e t l T sp L es) : F_Refs_head [.ref r] A = .ok (spV sp) A := by
  unfold F_Refs_head b_Refs_head
  simp only [defM, sSeq, sIf, sSet, sRet, sRetN, sExpr, sNext, sFld_def, sSub, sRaise, eVar, eC, eBin, eUn, tB', eB, bNot, bAnd, bOr, bIf, eIf, eAnd, eOr, eNot, aNil, aCons, eTup, aLst, eFrz, eRef, pN, pA, pK, pAK, eCall, eMeth_def, eFld_def, eMake_def, bind_ok, bind_err, bind_bad, fs_ok, fs_err, fs_bad, List.map_cons, List.map_nil, List.length_cons, List.length_nil, List.replicate, List.cons_append, List.nil_append, List.getElem?_cons_zero, List.getElem?_cons_succ, List.set_cons_zero, List.set_cons_succ, sz0, sz1, sz2, sz3, sz4, sz5, if_true, and_self, Nat.reduceSub, Nat.reduceAdd, List.lookup_cons, List.lookup_nil, R.fs]
/-- what HEAD says -/
def hd (T : Tb Str) (sp : Str × Str) : Option Str := if sp.1 = "id" then some sp.2 else get T sp.2
theorem get1_tab {k : Str} {fo fe : FE} {ρ : ME} (d : dctV A (.ref t) = some (tabV T)) (h1 : fo ρ A = .ok (.ref t) A) (h2 : fe ρ A = .ok (.str k) A) : eGet1 fo fe ρ A = .ok (oV (get T k)) A := by
  unfold eGet1 dctB
  rw [h1, bind_ok, d]
  dsimp only [Option.isSome_some]
  rw [if_pos rfl, h2, bind_ok, d]
  dsimp only [keyOf]
  unfold tabV
  rw [val_mapK, tab_get]
theorem at_head_ok (R : RefsAt A r e t l T sp L es) : F_Refs_at_head [.ref r] A = .ok (oV (hd T sp)) A := by
  unfold F_Refs_at_head b_Refs_at_head
  simp only [defM, sSeq, sIf, sSet, sRet, sRetN, sExpr, sNext, sFld_def, sSub, sRaise, eVar, eC, eBin, eUn, tB', eB, bNot, bAnd, bOr, bIf, eIf, eAnd, eOr, eNot, aNil, aCons, eTup, aLst, eFrz, eRef, pN, pA, pK, pAK, eCall, eMeth_def, eFld_def, eMake_def, bind_ok, bind_err, bind_bad, fs_ok, fs_err, fs_bad, List.map_cons, List.map_nil, List.length_cons, List.length_nil, List.replicate, List.cons_append, List.nil_append, List.getElem?_cons_zero, List.getElem?_cons_succ, List.set_cons_zero, List.set_cons_succ, sz0, sz1, sz2, sz3, sz4, sz5, if_true, and_self, Nat.reduceSub, Nat.reduceAdd, List.lookup_cons, List.lookup_nil, sAsg, R.fs, spV, gTupM, tupOf, gConsM, gNm, gNilM, if_true, setAllM, eq_str]
  unfold hd
  by_cases h : sp.1 = "id"
  · rw [decide_eq_true h, if_pos h]
    rfl
  · rw [decide_eq_false h, if_neg h]
    dsimp only
    rw [get1_tab (k := sp.2) R.dt (by simp only [defM, sSeq, sIf, sSet, sRet, sRetN, sExpr, sNext, sFld_def, sSub, sRaise, eVar, eC, eBin, eUn, tB', eB, bNot, bAnd, bOr, bIf, eIf, eAnd, eOr, eNot, aNil, aCons, eTup, aLst, eFrz, eRef, pN, pA, pK, pAK, eCall, eMeth_def, eFld_def, eMake_def, bind_ok, bind_err, bind_bad, fs_ok, fs_err, fs_bad, List.map_cons, List.map_nil, List.length_cons, List.length_nil, List.replicate, List.cons_append, List.nil_append, List.getElem?_cons_zero, List.getElem?_cons_succ, List.set_cons_zero, List.set_cons_succ, sz0, sz1, sz2, sz3, sz4, sz5, if_true, and_self, Nat.reduceSub, Nat.reduceAdd, List.lookup_cons, List.lookup_nil, R.ft]) (by simp only [defM, sSeq, sIf, sSet, sRet, sRetN, sExpr, sNext, sFld_def, sSub, sRaise, eVar, eC, eBin, eUn, tB', eB, bNot, bAnd, bOr, bIf, eIf, eAnd, eOr, eNot, aNil, aCons, eTup, aLst, eFrz, eRef, pN, pA, pK, pAK, eCall, eMeth_def, eFld_def, eMake_def, bind_ok, bind_err, bind_bad, fs_ok, fs_err, fs_bad, List.map_cons, List.map_nil, List.length_cons, List.length_nil, List.replicate, List.cons_append, List.nil_append, List.getElem?_cons_zero, List.getElem?_cons_succ, List.set_cons_zero, List.set_cons_succ, sz0, sz1, sz2, sz3, sz4, sz5, if_true, and_self, Nat.reduceSub, Nat.reduceAdd, List.lookup_cons, List.lookup_nil])]
    rfl
def lg (L : Tb (List Ent)) (k : Str) : List Ent := (get L k).getD []
theorem get2_log {k : Str} {fo fe f2 : FE} {ρ : ME} (d : dctV A (.ref l) = some (logV L)) (h1 : fo ρ A = .ok (.ref l) A) (h2 : fe ρ A = .ok (.str k) A) (h3 : f2 ρ A = .ok (.lst []) A) : eGet2 fo fe f2 ρ A = .ok (entsV (lg L k)) A := by
  unfold eGet2 dctB
  rw [h1, bind_ok, d]
  dsimp only [Option.isSome_some]
  rw [if_pos rfl, h2, bind_ok, h3, bind_ok, d]
  dsimp only [keyOf]
  unfold logV
  rw [val_mapK]
  unfold lg
  cases get L k <;> rfl
theorem log_ok (R : RefsAt A r e t l T sp L es) {k : Str} (hk : F_is_named [.str k] A = .ok (.bl true) A) : F_Refs_log [.ref r, .str k] A = .ok (entsV (lg L k)) A := by
  unfold F_Refs_log b_Refs_log
  have g := get2_log (k := k) (ρ := [some (.ref r), some (.str k)]) (fo := eFld "Refs" "logs" (eVar 0)) (fe := eVar 1) (f2 := eFrz (aLst aNil)) R.dl (by simp only [defM, sSeq, sIf, sSet, sRet, sRetN, sExpr, sNext, sFld_def, sSub, sRaise, eVar, eC, eBin, eUn, tB', eB, bNot, bAnd, bOr, bIf, eIf, eAnd, eOr, eNot, aNil, aCons, eTup, aLst, eFrz, eRef, pN, pA, pK, pAK, eCall, eMeth_def, eFld_def, eMake_def, bind_ok, bind_err, bind_bad, fs_ok, fs_err, fs_bad, List.map_cons, List.map_nil, List.length_cons, List.length_nil, List.replicate, List.cons_append, List.nil_append, List.getElem?_cons_zero, List.getElem?_cons_succ, List.set_cons_zero, List.set_cons_succ, sz0, sz1, sz2, sz3, sz4, sz5, if_true, and_self, Nat.reduceSub, Nat.reduceAdd, List.lookup_cons, List.lookup_nil, R.fl]) (by simp only [defM, sSeq, sIf, sSet, sRet, sRetN, sExpr, sNext, sFld_def, sSub, sRaise, eVar, eC, eBin, eUn, tB', eB, bNot, bAnd, bOr, bIf, eIf, eAnd, eOr, eNot, aNil, aCons, eTup, aLst, eFrz, eRef, pN, pA, pK, pAK, eCall, eMeth_def, eFld_def, eMake_def, bind_ok, bind_err, bind_bad, fs_ok, fs_err, fs_bad, List.map_cons, List.map_nil, List.length_cons, List.length_nil, List.replicate, List.cons_append, List.nil_append, List.getElem?_cons_zero, List.getElem?_cons_succ, List.set_cons_zero, List.set_cons_succ, sz0, sz1, sz2, sz3, sz4, sz5, if_true, and_self, Nat.reduceSub, Nat.reduceAdd, List.lookup_cons, List.lookup_nil]) rfl
  simp only [defM, sSeq, sIf, sSet, sRet, sRetN, sExpr, sNext, sFld_def, sSub, sRaise, eVar, eC, eBin, eUn, tB', eB, bNot, bAnd, bOr, bIf, eIf, eAnd, eOr, eNot, aNil, aCons, eTup, aLst, eFrz, eRef, pN, pA, pK, pAK, eCall, eMeth_def, eFld_def, eMake_def, bind_ok, bind_err, bind_bad, fs_ok, fs_err, fs_bad, List.map_cons, List.map_nil, List.length_cons, List.length_nil, List.replicate, List.cons_append, List.nil_append, List.getElem?_cons_zero, List.getElem?_cons_succ, List.set_cons_zero, List.set_cons_succ, sz0, sz1, sz2, sz3, sz4, sz5, if_true, and_self, Nat.reduceSub, Nat.reduceAdd, List.lookup_cons, List.lookup_nil, hk, and_self, if_true, Bool.not_true]
  rw [g]
  rfl
def statV (T : Tb Str) (sp : Str × Str) (L : Tb (List Ent)) : MV := .tup [.ptp (T.map fun p => .tup [.str p.1, .str p.2]), spV sp, .tup (L.map fun p => .tup [.str p.1, .tup (p.2.map entV)])]
theorem state_ok (R : RefsAt A r e t l T sp L es) (ok : TabOk T) (okL : LogOk L n) : F_Refs_state [.ref r] A = .ok (statV (srt T) sp (srtL L)) A := by
  unfold F_Refs_state b_Refs_state
  simp only [defM, sSeq, sIf, sSet, sRet, sRetN, sExpr, sNext, sFld_def, sSub, sRaise, eVar, eC, eBin, eUn, tB', eB, bNot, bAnd, bOr, bIf, eIf, eAnd, eOr, eNot, aNil, aCons, eTup, aLst, eFrz, eRef, pN, pA, pK, pAK, eCall, eMeth_def, eFld_def, eMake_def, bind_ok, bind_err, bind_bad, fs_ok, fs_err, fs_bad, List.map_cons, List.map_nil, List.length_cons, List.length_nil, List.replicate, List.cons_append, List.nil_append, List.getElem?_cons_zero, List.getElem?_cons_succ, List.set_cons_zero, List.set_cons_succ, sz0, sz1, sz2, sz3, sz4, sz5, if_true, and_self, Nat.reduceSub, Nat.reduceAdd, List.lookup_cons, List.lookup_nil, aLc, iFrz, R.ft, sorted_tab R.dt ok.len, R.fl, R.fs, wipeM]
  rw [qRun_ys (ys := skeys T) (inj := MV.str) (h := fun k => ((get T k).map fun v => MV.tup [.str k, .str v]).toList)]
  · rw [flat_row (F := fun p => MV.tup [.str p.1, .str p.2])]
    have z : szL ((rowOf T (skeys T)).map fun p => MV.tup [.str p.1, .str p.2]) = true := szL_le (by
      rw [List.length_map]
      have l1 : (rowOf T (skeys T)).length = (skeys T).length := row_len
      rw [l1, skeys_len]
      have := ok.len
      omega)
    simp only [defM, sSeq, sIf, sSet, sRet, sRetN, sExpr, sNext, sFld_def, sSub, sRaise, eVar, eC, eBin, eUn, tB', eB, bNot, bAnd, bOr, bIf, eIf, eAnd, eOr, eNot, aNil, aCons, eTup, aLst, eFrz, eRef, pN, pA, pK, pAK, eCall, eMeth_def, eFld_def, eMake_def, bind_ok, bind_err, bind_bad, fs_ok, fs_err, fs_bad, List.map_cons, List.map_nil, List.length_cons, List.length_nil, List.replicate, List.cons_append, List.nil_append, List.getElem?_cons_zero, List.getElem?_cons_succ, List.set_cons_zero, List.set_cons_succ, sz0, sz1, sz2, sz3, sz4, sz5, if_true, and_self, Nat.reduceSub, Nat.reduceAdd, List.lookup_cons, List.lookup_nil, z, if_true, tupleP, lstV, R.fl, sorted_log R.dl okL.len, wipeM]
    rw [qRun_ys (ys := skeys L) (inj := MV.str) (h := fun k => pkF cE fE k (get L k))]
    · rw [flat_rowF]
      have z : szL (((rowOf L (skeys L)).filter cE).map fE) = true := szL_le (by
        rw [List.length_map]
        refine Nat.le_trans (List.length_filter_le _ _) ?_
        have l1 : (rowOf L (skeys L)).length = (skeys L).length := row_len
        rw [l1, skeys_len]
        have := okL.len
        omega)
      simp only [defM, sSeq, sIf, sSet, sRet, sRetN, sExpr, sNext, sFld_def, sSub, sRaise, eVar, eC, eBin, eUn, tB', eB, bNot, bAnd, bOr, bIf, eIf, eAnd, eOr, eNot, aNil, aCons, eTup, aLst, eFrz, eRef, pN, pA, pK, pAK, eCall, eMeth_def, eFld_def, eMake_def, bind_ok, bind_err, bind_bad, fs_ok, fs_err, fs_bad, List.map_cons, List.map_nil, List.length_cons, List.length_nil, List.replicate, List.cons_append, List.nil_append, List.getElem?_cons_zero, List.getElem?_cons_succ, List.set_cons_zero, List.set_cons_succ, sz0, sz1, sz2, sz3, sz4, sz5, if_true, and_self, Nat.reduceSub, Nat.reduceAdd, List.lookup_cons, List.lookup_nil, z, if_true, tupleM, tupOf, lstV, R.fs]
      rfl
    · intro k hk
      obtain ⟨v, hv⟩ := mem_get (mem_skeys.mp hk)
      refine ⟨_, rfl, ?_⟩
      simp only [defM, sSeq, sIf, sSet, sRet, sRetN, sExpr, sNext, sFld_def, sSub, sRaise, eVar, eC, eBin, eUn, tB', eB, bNot, bAnd, bOr, bIf, eIf, eAnd, eOr, eNot, aNil, aCons, eTup, aLst, eFrz, eRef, pN, pA, pK, pAK, eCall, eMeth_def, eFld_def, eMake_def, bind_ok, bind_err, bind_bad, fs_ok, fs_err, fs_bad, List.map_cons, List.map_nil, List.length_cons, List.length_nil, List.replicate, List.cons_append, List.nil_append, List.getElem?_cons_zero, List.getElem?_cons_succ, List.set_cons_zero, List.set_cons_succ, sz0, sz1, sz2, sz3, sz4, sz5, if_true, and_self, Nat.reduceSub, Nat.reduceAdd, List.lookup_cons, List.lookup_nil, qElt, setAllM, R.fl, ix_log R.dl hv, entsV, ne_ents_nil, hv, pkF, cE, fE]
      cases v with
      | nil => rfl
      | cons x v =>
        simp only [defM, sSeq, sIf, sSet, sRet, sRetN, sExpr, sNext, sFld_def, sSub, sRaise, eVar, eC, eBin, eUn, tB', eB, bNot, bAnd, bOr, bIf, eIf, eAnd, eOr, eNot, aNil, aCons, eTup, aLst, eFrz, eRef, pN, pA, pK, pAK, eCall, eMeth_def, eFld_def, eMake_def, bind_ok, bind_err, bind_bad, fs_ok, fs_err, fs_bad, List.map_cons, List.map_nil, List.length_cons, List.length_nil, List.replicate, List.cons_append, List.nil_append, List.getElem?_cons_zero, List.getElem?_cons_succ, List.set_cons_zero, List.set_cons_succ, sz0, sz1, sz2, sz3, sz4, sz5, if_true, and_self, Nat.reduceSub, Nat.reduceAdd, List.lookup_cons, List.lookup_nil, List.isEmpty_cons, Bool.not_false, R.fl, ix_log R.dl hv, entsV, tupleM, tupOf, lstV]
  · intro k hk
    obtain ⟨v, hv⟩ := mem_get (mem_skeys.mp hk)
    refine ⟨_, rfl, ?_⟩
    simp only [defM, sSeq, sIf, sSet, sRet, sRetN, sExpr, sNext, sFld_def, sSub, sRaise, eVar, eC, eBin, eUn, tB', eB, bNot, bAnd, bOr, bIf, eIf, eAnd, eOr, eNot, aNil, aCons, eTup, aLst, eFrz, eRef, pN, pA, pK, pAK, eCall, eMeth_def, eFld_def, eMake_def, bind_ok, bind_err, bind_bad, fs_ok, fs_err, fs_bad, List.map_cons, List.map_nil, List.length_cons, List.length_nil, List.replicate, List.cons_append, List.nil_append, List.getElem?_cons_zero, List.getElem?_cons_succ, List.set_cons_zero, List.set_cons_succ, sz0, sz1, sz2, sz3, sz4, sz5, if_true, and_self, Nat.reduceSub, Nat.reduceAdd, List.lookup_cons, List.lookup_nil, qElt, bYes, setAllM, R.ft, ix_tab R.dt hv, hv]
    rfl
end
end Rp
/-! Rp5: states: is_state, take, Refs(state) -/
namespace Rp
open PySem PySem.Spec PyProof.Rows Mv Rf
section
variable {γ : Type} {fi : FL} {own is : List Nat} {g : MV → Option (List MV)} {q : FQ} {ρ : ME} {A : AH} {inj : γ → MV} {h : γ → List MV} {ys : List γ}
theorem lc_ys (h1 : fi ρ A = .ok (ys.map inj) A) (H : ∀ y ∈ ys, ∃ ms, g (inj y) = some ms ∧ q (setAllM (wipeM ρ own) is ms) A = .ok (h y) A) (z : szL (ys.flatMap h) = true) : aLc fi own is g q ρ A = .ok (ys.flatMap h) A := by
  unfold aLc
  rw [h1, bind_ok, qRun_ys H]
  dsimp only
  rw [if_pos z]
end
theorem bls_map : ∀ bs : List Bool, blsOf (bs.map MV.bl) = some bs
  | [] => rfl
  | b :: bs => by
    show (blsOf (bs.map MV.bl)).map (b :: ·) = _
    rw [bls_map bs]
    rfl
theorem flat_bl {γ : Type} {f : γ → Bool} : ∀ {ys : List γ}, ys.flatMap (fun y => [MV.bl (f y)]) = (ys.map f).map MV.bl
  | [] => rfl
  | y :: ys => by rw [List.flatMap_cons, flat_bl (ys := ys)]; rfl
theorem flat_one {γ : Type} {f : γ → MV} : ∀ {ys : List γ}, ys.flatMap (fun y => [f y]) = ys.map f
  | [] => rfl
  | y :: ys => by rw [List.flatMap_cons, flat_one (ys := ys)]; rfl
theorem all_bls {f : List Bool → Bool} {bs : List Bool} {A : AH} : allM f [.lst (bs.map MV.bl)] A = .ok (.bl (f bs)) A := by
  unfold allM
  dsimp only [lstV]
  rw [bls_map]
theorem all_true {γ : Type} : ∀ {ys : List γ}, (ys.map fun _ => true).all id = true
  | [] => rfl
  | y :: ys => by rw [List.map_cons, List.all_cons, all_true]; rfl
/-- all([.. for y in ys]), each of them true -/
theorem lc_true {γ : Type} {fi : FL} {own is : List Nat} {g : MV → Option (List MV)} {q : FQ} {ρ : ME} {A : AH} {inj : γ → MV} {ys : List γ} (h1 : fi ρ A = .ok (ys.map inj) A) (H : ∀ y ∈ ys, ∃ ms, g (inj y) = some ms ∧ q (setAllM (wipeM ρ own) is ms) A = .ok [.bl true] A) (z : ys.length ≤ 1000) :
    aLc fi own is g q ρ A = .ok ((ys.map fun _ => true).map MV.bl) A := by
  rw [← flat_bl (f := fun _ => true)]
  exact lc_ys h1 H (by rw [flat_bl]; exact szL_le (by rw [List.length_map, List.length_map]; exact z))
theorem cut1 {α : Type} (xs : List α) : cutM xs (some 1) none = xs.drop 1 := by
  cases xs with
  | nil => rfl
  | cons x xs =>
    unfold cutM HT.sIx
    simp
/-- in order, without doubles -/
def Asc1 (ks : List Str) : Prop := ks.Pairwise fun a b => ltS a b = true
theorem asc_zip : ∀ {ks : List Str}, Asc1 ks → ∀ p ∈ ks.zip (ks.drop 1), ltS p.1 p.2 = true
  | [], _, p, hp => by cases hp
  | [_], _, p, hp => by cases hp
  | a :: b :: r, h, p, hp => by
    rw [Asc1, List.pairwise_cons] at h
    rcases List.mem_cons.mp (show p ∈ (a, b) :: (b :: r).zip ((b :: r).drop 1) from hp) with e | e
    · rw [e]; exact h.1 b (List.mem_cons_self ..)
    · exact asc_zip h.2 p e
theorem asc1_sort {l : List Str} (nd : l.Nodup) : Asc1 (sortS l) := by
  have h1 := sortS_asc l
  have h2 : (sortS l).Nodup := (sortS_perm l).nodup_iff.mpr nd
  unfold AscS at h1
  unfold Asc1
  have := List.pairwise_and_iff.mpr ⟨h1, h2⟩
  refine this.imp fun {a b} ⟨x, y⟩ => ?_
  cases e : ltS a b with
  | true => rfl
  | false => exact absurd (ltS_conn e x) y
theorem zip_str (ks : List Str) : zipM (ks.map MV.str) ((ks.map MV.str).drop 1) = (ks.zip (ks.drop 1)).map fun p => MV.tup [.str p.1, .str p.2] := by
  unfold zipM
  rw [← List.map_drop, List.zip_map, List.map_map]
  rfl
theorem pairs_ok {β : Type} {A : AH} {T : Tb β} {w : Str × β → MV} {v : MV} (hv : v = .ptp (T.map fun p => .tup [.str p.1, w p]) ∨ v = .tup (T.map fun p => .tup [.str p.1, w p])) (hl : T.length ≤ 1000) (ha : Asc1 (keys T)) : F_are_pairs [v] A = .ok (.bl true) A := by
  have ty : isiM [v, .ty "tuple"] A = .ok (.bl true) A := by rcases hv with rfl | rfl <;> rfl
  have it : itV A v = some (T.map fun p => .tup [.str p.1, w p]) := by rcases hv with rfl | rfl <;> rfl
  have lk1 : ∀ {α : Type} {s : ME → AH → Rs α} {ρ : ME}, aLk (eVar 0) s (some v :: ρ) A = s (some v :: ρ) A := fun {α s ρ} => by
    rcases hv with rfl | rfl <;> rfl
  have lk2 : ∀ {s : FS} {ρ : ME}, sLk (eVar 0) s (some v :: ρ) A = s (some v :: ρ) A := fun {s ρ} => by
    rcases hv with rfl | rfl <;> rfl
  have i0 : ∀ p : Str × β, ixM (.tup [.str p.1, w p]) (.int 0) A = .ok (.str p.1) A := fun p => ix_tup rfl
  have kl : (keys T).length ≤ 1000 := by unfold keys; rw [List.length_map]; exact hl
  unfold F_are_pairs b_are_pairs
  simp only [defM, sSeq, sIf, sSet, sRet, sRetN, sExpr, sNext, sFld_def, sSub, sRaise, eVar, eC, eBin, eUn, tB', eB, bNot, bAnd, bOr, bIf, eIf, eAnd, eOr, eNot, aNil, aCons, eTup, aLst, eFrz, eRef, pN, pA, pK, pAK, eCall, eMeth_def, eFld_def, eMake_def, bind_ok, bind_err, bind_bad, fs_ok, fs_err, fs_bad, List.map_cons, List.map_nil, List.length_cons, List.length_nil, List.replicate, List.cons_append, List.nil_append, List.getElem?_cons_zero, List.getElem?_cons_succ, List.set_cons_zero, List.set_cons_succ, sz0, sz1, sz2, sz3, sz4, sz5, if_true, and_self, Nat.reduceSub, Nat.reduceAdd, List.lookup_cons, List.lookup_nil, ty, lk1, Bool.not_true]
  rw [lc_true (ys := T) (inj := fun p => .tup [.str p.1, w p])]
  · simp only [defM, sSeq, sIf, sSet, sRet, sRetN, sExpr, sNext, sFld_def, sSub, sRaise, eVar, eC, eBin, eUn, tB', eB, bNot, bAnd, bOr, bIf, eIf, eAnd, eOr, eNot, aNil, aCons, eTup, aLst, eFrz, eRef, pN, pA, pK, pAK, eCall, eMeth_def, eFld_def, eMake_def, bind_ok, bind_err, bind_bad, fs_ok, fs_err, fs_bad, List.map_cons, List.map_nil, List.length_cons, List.length_nil, List.replicate, List.cons_append, List.nil_append, List.getElem?_cons_zero, List.getElem?_cons_succ, List.set_cons_zero, List.set_cons_succ, sz0, sz1, sz2, sz3, sz4, sz5, if_true, and_self, Nat.reduceSub, Nat.reduceAdd, List.lookup_cons, List.lookup_nil, all_bls, all_true, Bool.not_true, lk2]
    rw [lc_ys (ys := T) (inj := fun p => .tup [.str p.1, w p]) (h := fun p => [MV.str p.1])]
    · rw [flat_one]
      have e : T.map (fun y => MV.str y.1) = (keys T).map MV.str := by unfold keys; rw [List.map_map]; rfl
      simp only [defM, sSeq, sIf, sSet, sRet, sRetN, sExpr, sNext, sFld_def, sSub, sRaise, eVar, eC, eBin, eUn, tB', eB, bNot, bAnd, bOr, bIf, eIf, eAnd, eOr, eNot, aNil, aCons, eTup, aLst, eFrz, eRef, pN, pA, pK, pAK, eCall, eMeth_def, eFld_def, eMake_def, bind_ok, bind_err, bind_bad, fs_ok, fs_err, fs_bad, List.map_cons, List.map_nil, List.length_cons, List.length_nil, List.replicate, List.cons_append, List.nil_append, List.getElem?_cons_zero, List.getElem?_cons_succ, List.set_cons_zero, List.set_cons_succ, sz0, sz1, sz2, sz3, sz4, sz5, if_true, and_self, Nat.reduceSub, Nat.reduceAdd, List.lookup_cons, List.lookup_nil, e]
      rw [lc_true (ys := keys T) (inj := MV.str)]
      · simp only [defM, sSeq, sIf, sSet, sRet, sRetN, sExpr, sNext, sFld_def, sSub, sRaise, eVar, eC, eBin, eUn, tB', eB, bNot, bAnd, bOr, bIf, eIf, eAnd, eOr, eNot, aNil, aCons, eTup, aLst, eFrz, eRef, pN, pA, pK, pAK, eCall, eMeth_def, eFld_def, eMake_def, bind_ok, bind_err, bind_bad, fs_ok, fs_err, fs_bad, List.map_cons, List.map_nil, List.length_cons, List.length_nil, List.replicate, List.cons_append, List.nil_append, List.getElem?_cons_zero, List.getElem?_cons_succ, List.set_cons_zero, List.set_cons_succ, sz0, sz1, sz2, sz3, sz4, sz5, if_true, and_self, Nat.reduceSub, Nat.reduceAdd, List.lookup_cons, List.lookup_nil, all_bls, all_true, Bool.not_true]
        rw [lc_true (ys := (keys T).zip ((keys T).drop 1)) (inj := fun p => MV.tup [.str p.1, .str p.2])]
        · simp only [defM, sSeq, sIf, sSet, sRet, sRetN, sExpr, sNext, sFld_def, sSub, sRaise, eVar, eC, eBin, eUn, tB', eB, bNot, bAnd, bOr, bIf, eIf, eAnd, eOr, eNot, aNil, aCons, eTup, aLst, eFrz, eRef, pN, pA, pK, pAK, eCall, eMeth_def, eFld_def, eMake_def, bind_ok, bind_err, bind_bad, fs_ok, fs_err, fs_bad, List.map_cons, List.map_nil, List.length_cons, List.length_nil, List.replicate, List.cons_append, List.nil_append, List.getElem?_cons_zero, List.getElem?_cons_succ, List.set_cons_zero, List.set_cons_succ, sz0, sz1, sz2, sz3, sz4, sz5, if_true, and_self, Nat.reduceSub, Nat.reduceAdd, List.lookup_cons, List.lookup_nil, all_bls, all_true]
        · simp only [defM, sSeq, sIf, sSet, sRet, sRetN, sExpr, sNext, sFld_def, sSub, sRaise, eVar, eC, eBin, eUn, tB', eB, bNot, bAnd, bOr, bIf, eIf, eAnd, eOr, eNot, aNil, aCons, eTup, aLst, eFrz, eRef, pN, pA, pK, pAK, eCall, eMeth_def, eFld_def, eMake_def, bind_ok, bind_err, bind_bad, fs_ok, fs_err, fs_bad, List.map_cons, List.map_nil, List.length_cons, List.length_nil, List.replicate, List.cons_append, List.nil_append, List.getElem?_cons_zero, List.getElem?_cons_succ, List.set_cons_zero, List.set_cons_succ, sz0, sz1, sz2, sz3, sz4, sz5, if_true, and_self, Nat.reduceSub, Nat.reduceAdd, List.lookup_cons, List.lookup_nil, Mv.iZip, aSl, oSome, oNone, lstV, cut1, zip_str]
        · intro p hp
          refine ⟨[.str p.1, .str p.2], rfl, ?_⟩
          simp only [defM, sSeq, sIf, sSet, sRet, sRetN, sExpr, sNext, sFld_def, sSub, sRaise, eVar, eC, eBin, eUn, tB', eB, bNot, bAnd, bOr, bIf, eIf, eAnd, eOr, eNot, aNil, aCons, eTup, aLst, eFrz, eRef, pN, pA, pK, pAK, eCall, eMeth_def, eFld_def, eMake_def, bind_ok, bind_err, bind_bad, fs_ok, fs_err, fs_bad, List.map_cons, List.map_nil, List.length_cons, List.length_nil, List.replicate, List.cons_append, List.nil_append, List.getElem?_cons_zero, List.getElem?_cons_succ, List.set_cons_zero, List.set_cons_succ, sz0, sz1, sz2, sz3, sz4, sz5, if_true, and_self, Nat.reduceSub, Nat.reduceAdd, List.lookup_cons, List.lookup_nil, qElt, bYes, wipeM, setAllM, ltM, asc_zip ha p hp]
        · exact Nat.le_trans (by rw [List.length_zip]; exact Nat.min_le_left _ _) kl
      · simp only [defM, sSeq, sIf, sSet, sRet, sRetN, sExpr, sNext, sFld_def, sSub, sRaise, eVar, eC, eBin, eUn, tB', eB, bNot, bAnd, bOr, bIf, eIf, eAnd, eOr, eNot, aNil, aCons, eTup, aLst, eFrz, eRef, pN, pA, pK, pAK, eCall, eMeth_def, eFld_def, eMake_def, bind_ok, bind_err, bind_bad, fs_ok, fs_err, fs_bad, List.map_cons, List.map_nil, List.length_cons, List.length_nil, List.replicate, List.cons_append, List.nil_append, List.getElem?_cons_zero, List.getElem?_cons_succ, List.set_cons_zero, List.set_cons_succ, sz0, sz1, sz2, sz3, sz4, sz5, if_true, and_self, Nat.reduceSub, Nat.reduceAdd, List.lookup_cons, List.lookup_nil, iFrz]
      · intro k _
        refine ⟨[.str k], rfl, ?_⟩
        simp only [defM, sSeq, sIf, sSet, sRet, sRetN, sExpr, sNext, sFld_def, sSub, sRaise, eVar, eC, eBin, eUn, tB', eB, bNot, bAnd, bOr, bIf, eIf, eAnd, eOr, eNot, aNil, aCons, eTup, aLst, eFrz, eRef, pN, pA, pK, pAK, eCall, eMeth_def, eFld_def, eMake_def, bind_ok, bind_err, bind_bad, fs_ok, fs_err, fs_bad, List.map_cons, List.map_nil, List.length_cons, List.length_nil, List.replicate, List.cons_append, List.nil_append, List.getElem?_cons_zero, List.getElem?_cons_succ, List.set_cons_zero, List.set_cons_succ, sz0, sz1, sz2, sz3, sz4, sz5, if_true, and_self, Nat.reduceSub, Nat.reduceAdd, List.lookup_cons, List.lookup_nil, qElt, bYes, wipeM, setAllM, isiM, tyN]
        rfl
      · exact kl
    · simp only [defM, sSeq, sIf, sSet, sRet, sRetN, sExpr, sNext, sFld_def, sSub, sRaise, eVar, eC, eBin, eUn, tB', eB, bNot, bAnd, bOr, bIf, eIf, eAnd, eOr, eNot, aNil, aCons, eTup, aLst, eFrz, eRef, pN, pA, pK, pAK, eCall, eMeth_def, eFld_def, eMake_def, bind_ok, bind_err, bind_bad, fs_ok, fs_err, fs_bad, List.map_cons, List.map_nil, List.length_cons, List.length_nil, List.replicate, List.cons_append, List.nil_append, List.getElem?_cons_zero, List.getElem?_cons_succ, List.set_cons_zero, List.set_cons_succ, sz0, sz1, sz2, sz3, sz4, sz5, if_true, and_self, Nat.reduceSub, Nat.reduceAdd, List.lookup_cons, List.lookup_nil, iAny, it]
    · intro p _
      refine ⟨[.tup [.str p.1, w p]], rfl, ?_⟩
      simp only [defM, sSeq, sIf, sSet, sRet, sRetN, sExpr, sNext, sFld_def, sSub, sRaise, eVar, eC, eBin, eUn, tB', eB, bNot, bAnd, bOr, bIf, eIf, eAnd, eOr, eNot, aNil, aCons, eTup, aLst, eFrz, eRef, pN, pA, pK, pAK, eCall, eMeth_def, eFld_def, eMake_def, bind_ok, bind_err, bind_bad, fs_ok, fs_err, fs_bad, List.map_cons, List.map_nil, List.length_cons, List.length_nil, List.replicate, List.cons_append, List.nil_append, List.getElem?_cons_zero, List.getElem?_cons_succ, List.set_cons_zero, List.set_cons_succ, sz0, sz1, sz2, sz3, sz4, sz5, if_true, and_self, Nat.reduceSub, Nat.reduceAdd, List.lookup_cons, List.lookup_nil, qElt, bYes, wipeM, setAllM, i0]
    · rw [flat_one]
      exact szL_le (by rw [List.length_map]; exact hl)
  · simp only [defM, sSeq, sIf, sSet, sRet, sRetN, sExpr, sNext, sFld_def, sSub, sRaise, eVar, eC, eBin, eUn, tB', eB, bNot, bAnd, bOr, bIf, eIf, eAnd, eOr, eNot, aNil, aCons, eTup, aLst, eFrz, eRef, pN, pA, pK, pAK, eCall, eMeth_def, eFld_def, eMake_def, bind_ok, bind_err, bind_bad, fs_ok, fs_err, fs_bad, List.map_cons, List.map_nil, List.length_cons, List.length_nil, List.replicate, List.cons_append, List.nil_append, List.getElem?_cons_zero, List.getElem?_cons_succ, List.set_cons_zero, List.set_cons_succ, sz0, sz1, sz2, sz3, sz4, sz5, if_true, and_self, Nat.reduceSub, Nat.reduceAdd, List.lookup_cons, List.lookup_nil, iAny, it]
  · intro p _
    refine ⟨[.tup [.str p.1, w p]], rfl, ?_⟩
    simp only [defM, sSeq, sIf, sSet, sRet, sRetN, sExpr, sNext, sFld_def, sSub, sRaise, eVar, eC, eBin, eUn, tB', eB, bNot, bAnd, bOr, bIf, eIf, eAnd, eOr, eNot, aNil, aCons, eTup, aLst, eFrz, eRef, pN, pA, pK, pAK, eCall, eMeth_def, eFld_def, eMake_def, bind_ok, bind_err, bind_bad, fs_ok, fs_err, fs_bad, List.map_cons, List.map_nil, List.length_cons, List.length_nil, List.replicate, List.cons_append, List.nil_append, List.getElem?_cons_zero, List.getElem?_cons_succ, List.set_cons_zero, List.set_cons_succ, sz0, sz1, sz2, sz3, sz4, sz5, if_true, and_self, Nat.reduceSub, Nat.reduceAdd, List.lookup_cons, List.lookup_nil, qElt, bYes, wipeM, setAllM, isiM, tyN, lenM, tupOf]
    rfl
  · exact hl
end Rp
/-! Rp6: is_state, take, Refs(state), copied -/
namespace Rp
open PySem PySem.Spec PyProof.Rows Mv Rf
/-! ### lists of texts -/
theorem datMs_str : ∀ ks : List Str, datMs (ks.map MV.str) = some (ks.map PyData.str)
  | [] => rfl
  | k :: ks => by
    show (match datM (.str k), datMs (ks.map MV.str) with | some d, some ds => some (d :: ds) | _, _ => none) = _
    rw [datMs_str ks]
    rfl
theorem okD_strs (ks : List Str) : okD (.list (ks.map PyData.str)) = true := by
  have h1 : PyData.plainAll (ks.map PyData.str) = true := by
    induction ks with
    | nil => rfl
    | cons e es ih =>
      show (PyData.plain (.str e) && PyData.plainAll (es.map PyData.str)) = true
      rw [ih]
      rfl
  have h2 : PyData.depthAll (ks.map PyData.str) ≤ 0 := by
    clear h1
    induction ks with
    | nil => decide
    | cons e es ih =>
      simp only [List.map_cons, PyData.depthAll, PyData.depth]
      omega
  show (PyData.plainAll (ks.map PyData.str) && decide (PyData.depthAll (ks.map PyData.str) + 1 ≤ 60)) = true
  rw [h1, decide_eq_true (by omega)]
  rfl
theorem any_strs (ks : List Str) (p : Str) : ((ks.map PyData.str).any fun y => PyData.eqv y (.str p)) = decide (p ∈ ks) := by
  rw [List.any_map]
  by_cases h : p ∈ ks
  · rw [decide_eq_true h]
    exact List.any_eq_true.mpr ⟨p, h, by simp [PyData.eqv]⟩
  · rw [decide_eq_false h]
    refine List.any_eq_false.mpr fun x hx => ?_
    simp only [Function.comp, PyData.eqv]
    intro z
    have e : x = p := by simpa using z
    exact h (by rw [← e]; exact hx)
theorem in_lst {ks : List Str} {p : Str} {A : AH} : inM (.str p) (.lst (ks.map MV.str)) A = .ok (.bl (decide (p ∈ ks))) A := by
  have d : datA A (.lst (ks.map MV.str)) = some (.list (ks.map PyData.str)) := by
    show (datMs (ks.map MV.str)).map PyData.list = _
    rw [datMs_str]
    rfl
  have d2 : datA A (.str p) = some (.str p) := rfl
  have d3 : okD (.str p) = true := rfl
  unfold inM inB
  dsimp only [dctV]
  rw [d, d2]
  dsimp only
  rw [okD_strs, d3, any_strs]
  rfl
/-- one name lies above another -/
def pfxs (ks : List Str) : List Bool := ks.flatMap fun y => (abv y).map fun p => decide (p ∈ ks)
def pfx (ks : List Str) : Bool := (pfxs ks).any id
theorem pfx_iff {ks : List Str} : pfx ks = true ↔ ∃ y ∈ ks, ∃ p ∈ abv y, p ∈ ks := by
  unfold pfx pfxs
  constructor
  · intro h
    obtain ⟨b, hb, e⟩ := List.any_eq_true.mp h
    obtain ⟨y, hy, hb⟩ := List.mem_flatMap.mp hb
    obtain ⟨p, hp, rfl⟩ := List.mem_map.mp hb
    exact ⟨y, hy, p, hp, of_decide_eq_true e⟩
  · rintro ⟨y, hy, p, hp, h⟩
    exact List.any_eq_true.mpr ⟨true, List.mem_flatMap.mpr ⟨y, hy, List.mem_map.mpr ⟨p, hp, decide_eq_true h⟩⟩, rfl⟩
theorem pfx_eq {ks js : List Str} (h : ∀ k, k ∈ ks ↔ k ∈ js) : pfx ks = pfx js := by
  rw [Bool.eq_iff_iff, pfx_iff, pfx_iff]
  constructor
  · rintro ⟨y, hy, p, hp, q⟩
    exact ⟨y, (h y).mp hy, p, hp, (h p).mp q⟩
  · rintro ⟨y, hy, p, hp, q⟩
    exact ⟨y, (h y).mpr hy, p, hp, (h p).mpr q⟩
theorem abv_len : ∀ x ∈ nms, (abv x).length ≤ 5 := by decide +kernel
theorem pfxs_len {ks js : List Str} (h : ∀ k ∈ ks, k ∈ nms) : (ks.flatMap fun y => (abv y).map fun p => decide (p ∈ js)).length ≤ 5 * ks.length := by
  induction ks with
  | nil => exact Nat.le_refl _
  | cons k ks ih =>
    rw [List.flatMap_cons, List.length_append, List.length_map, List.length_cons]
    have := ih fun j hj => h j (List.mem_cons_of_mem _ hj)
    have := abv_len k (h k (List.mem_cons_self ..))
    omega
theorem flat_pfx {ks js : List Str} : ks.flatMap (fun y => (abv y).map fun p => MV.bl (decide (p ∈ js))) = (ks.flatMap fun y => (abv y).map fun p => decide (p ∈ js)).map MV.bl := by
  induction ks with
  | nil => rfl
  | cons k ks ih => rw [List.flatMap_cons, List.flatMap_cons, ih, List.map_append, List.map_map]; rfl
theorem apart_ok {A : AH} {ks : List Str} (h : ∀ k ∈ ks, k ∈ nms) (hl : ks.length ≤ 100) (a : pfx ks = false) : F_are_apart [.lst (ks.map MV.str)] A = .ok (.bl true) A := by
  unfold F_are_apart b_are_apart
  simp only [defM, sSeq, sIf, sSet, sRet, sRetN, sExpr, sNext, sFld_def, sSub, sRaise, eVar, eC, eBin, eUn, tB', eB, bNot, bAnd, bOr, bIf, eIf, eAnd, eOr, eNot, aNil, aCons, eTup, aLst, eFrz, eRef, pN, pA, pK, pAK, eCall, eMeth_def, eFld_def, eMake_def, bind_ok, bind_err, bind_bad, fs_ok, fs_err, fs_bad, List.map_cons, List.map_nil, List.length_cons, List.length_nil, List.replicate, List.cons_append, List.nil_append, List.getElem?_cons_zero, List.getElem?_cons_succ, List.set_cons_zero, List.set_cons_succ, sz0, sz1, sz2, sz3, sz4, sz5, if_true, and_self, Nat.reduceSub, Nat.reduceAdd, List.lookup_cons, List.lookup_nil, aLk]
  rw [lc_ys (ys := ks) (inj := MV.str) (h := fun y => (abv y).map fun p => MV.bl (decide (p ∈ ks)))]
  · rw [flat_pfx]
    simp only [defM, sSeq, sIf, sSet, sRet, sRetN, sExpr, sNext, sFld_def, sSub, sRaise, eVar, eC, eBin, eUn, tB', eB, bNot, bAnd, bOr, bIf, eIf, eAnd, eOr, eNot, aNil, aCons, eTup, aLst, eFrz, eRef, pN, pA, pK, pAK, eCall, eMeth_def, eFld_def, eMake_def, bind_ok, bind_err, bind_bad, fs_ok, fs_err, fs_bad, List.map_cons, List.map_nil, List.length_cons, List.length_nil, List.replicate, List.cons_append, List.nil_append, List.getElem?_cons_zero, List.getElem?_cons_succ, List.set_cons_zero, List.set_cons_succ, sz0, sz1, sz2, sz3, sz4, sz5, if_true, and_self, Nat.reduceSub, Nat.reduceAdd, List.lookup_cons, List.lookup_nil, all_bls]
    show Rs.ok (MV.bl (!pfx ks)) A = _
    rw [a]
    rfl
  · simp only [defM, sSeq, sIf, sSet, sRet, sRetN, sExpr, sNext, sFld_def, sSub, sRaise, eVar, eC, eBin, eUn, tB', eB, bNot, bAnd, bOr, bIf, eIf, eAnd, eOr, eNot, aNil, aCons, eTup, aLst, eFrz, eRef, pN, pA, pK, pAK, eCall, eMeth_def, eFld_def, eMake_def, bind_ok, bind_err, bind_bad, fs_ok, fs_err, fs_bad, List.map_cons, List.map_nil, List.length_cons, List.length_nil, List.replicate, List.cons_append, List.nil_append, List.getElem?_cons_zero, List.getElem?_cons_succ, List.set_cons_zero, List.set_cons_succ, sz0, sz1, sz2, sz3, sz4, sz5, if_true, and_self, Nat.reduceSub, Nat.reduceAdd, List.lookup_cons, List.lookup_nil, iAny, itV, tupOf]
  · intro y hy
    refine ⟨[.str y], rfl, ?_⟩
    simp only [defM, sSeq, sIf, sSet, sRet, sRetN, sExpr, sNext, sFld_def, sSub, sRaise, eVar, eC, eBin, eUn, tB', eB, bNot, bAnd, bOr, bIf, eIf, eAnd, eOr, eNot, aNil, aCons, eTup, aLst, eFrz, eRef, pN, pA, pK, pAK, eCall, eMeth_def, eFld_def, eMake_def, bind_ok, bind_err, bind_bad, fs_ok, fs_err, fs_bad, List.map_cons, List.map_nil, List.length_cons, List.length_nil, List.replicate, List.cons_append, List.nil_append, List.getElem?_cons_zero, List.getElem?_cons_succ, List.set_cons_zero, List.set_cons_succ, sz0, sz1, sz2, sz3, sz4, sz5, if_true, and_self, Nat.reduceSub, Nat.reduceAdd, List.lookup_cons, List.lookup_nil, qIn, bYes, wipeM, setAllM, iFrz, above_ok y (h y hy)]
    rw [qRun_ys (ys := abv y) (inj := MV.str) (h := fun p => [MV.bl (decide (p ∈ ks))])]
    · rw [flat_one]
    · intro p _
      refine ⟨[.str p], rfl, ?_⟩
      simp only [defM, sSeq, sIf, sSet, sRet, sRetN, sExpr, sNext, sFld_def, sSub, sRaise, eVar, eC, eBin, eUn, tB', eB, bNot, bAnd, bOr, bIf, eIf, eAnd, eOr, eNot, aNil, aCons, eTup, aLst, eFrz, eRef, pN, pA, pK, pAK, eCall, eMeth_def, eFld_def, eMake_def, bind_ok, bind_err, bind_bad, fs_ok, fs_err, fs_bad, List.map_cons, List.map_nil, List.length_cons, List.length_nil, List.replicate, List.cons_append, List.nil_append, List.getElem?_cons_zero, List.getElem?_cons_succ, List.set_cons_zero, List.set_cons_succ, sz0, sz1, sz2, sz3, sz4, sz5, if_true, and_self, Nat.reduceSub, Nat.reduceAdd, List.lookup_cons, List.lookup_nil, qElt, bYes, setAllM, in_lst]
  · rw [flat_pfx]
    exact szL_le (by rw [List.length_map]; have := pfxs_len (js := ks) h; omega)
theorem place_ok {A : AH} {sp : Str × Str} (h : SpOk sp) : F_is_place [spV sp] A = .ok (.bl true) A := by
  obtain ⟨a, b⟩ := sp
  have t : isiM [spV (a, b), .ty "tuple"] A = .ok (.bl true) A := rfl
  have l : lenM [spV (a, b)] A = .ok (.int 2) A := rfl
  have i0 : ixM (spV (a, b)) (.int 0) A = .ok (.str a) A := ix_tup rfl
  have i1 : ixM (spV (a, b)) (.int 1) A = .ok (.str b) A := ix_tup rfl
  have s : isiM [.str a, .ty "str"] A = .ok (.bl true) A := rfl
  unfold F_is_place b_is_place
  rcases h with ⟨h1, h2⟩ | ⟨h1, h2⟩
  · dsimp only at h1 h2
    subst h1
    simp only [defM, sSeq, sIf, sSet, sRet, sRetN, sExpr, sNext, sFld_def, sSub, sRaise, eVar, eC, eBin, eUn, tB', eB, bNot, bAnd, bOr, bIf, eIf, eAnd, eOr, eNot, aNil, aCons, eTup, aLst, eFrz, eRef, pN, pA, pK, pAK, eCall, eMeth_def, eFld_def, eMake_def, bind_ok, bind_err, bind_bad, fs_ok, fs_err, fs_bad, List.map_cons, List.map_nil, List.length_cons, List.length_nil, List.replicate, List.cons_append, List.nil_append, List.getElem?_cons_zero, List.getElem?_cons_succ, List.set_cons_zero, List.set_cons_succ, sz0, sz1, sz2, sz3, sz4, sz5, if_true, and_self, Nat.reduceSub, Nat.reduceAdd, List.lookup_cons, List.lookup_nil, t, l, i0, i1, s, ne_int, eq_str, is_ref_ok b h2, decide_true, Bool.not_true]
  · dsimp only at h1 h2
    subst h1
    have nd : decide (("id" : Str) = "ref") = false := by decide
    simp only [defM, sSeq, sIf, sSet, sRet, sRetN, sExpr, sNext, sFld_def, sSub, sRaise, eVar, eC, eBin, eUn, tB', eB, bNot, bAnd, bOr, bIf, eIf, eAnd, eOr, eNot, aNil, aCons, eTup, aLst, eFrz, eRef, pN, pA, pK, pAK, eCall, eMeth_def, eFld_def, eMake_def, bind_ok, bind_err, bind_bad, fs_ok, fs_err, fs_bad, List.map_cons, List.map_nil, List.length_cons, List.length_nil, List.replicate, List.cons_append, List.nil_append, List.getElem?_cons_zero, List.getElem?_cons_succ, List.set_cons_zero, List.set_cons_succ, sz0, sz1, sz2, sz3, sz4, sz5, if_true, and_self, Nat.reduceSub, Nat.reduceAdd, List.lookup_cons, List.lookup_nil, t, l, i0, i1, s, ne_int, eq_str, nd, is_id_ok b h2, decide_true, Bool.not_true]
theorem ne_tents_nil {es : List Ent} {A : AH} : neM (.tup (es.map entV)) (.ptp []) A = .ok (.bl (!es.isEmpty)) A := by
  have h : datA A (.tup (es.map entV)) = some (.tuple (es.map entD)) := by
    show (datMs (es.map entV)).map PyData.tuple = _
    rw [datMs_ent]
    rfl
  have h' : datA A (.ptp []) = some (.tuple []) := rfl
  unfold neM
  rw [h, h']
  have o : okD (.tuple (es.map entD)) = true := okD_ents es
  simp only [o, Bool.true_and]
  rw [if_pos (by decide)]
  cases es with
  | nil => rfl
  | cons e es => simp [PyData.eqv, PyData.eqvAll]
theorem past_ok {A : AH} {es : List Ent} (h : ∀ e ∈ es, EntOk e) (hl : es.length ≤ 1000) (ne : es.isEmpty = false) : F_is_past [.tup (es.map entV)] A = .ok (.bl true) A := by
  have t : isiM [.tup (es.map entV), .ty "tuple"] A = .ok (.bl true) A := rfl
  unfold F_is_past b_is_past
  simp only [defM, sSeq, sIf, sSet, sRet, sRetN, sExpr, sNext, sFld_def, sSub, sRaise, eVar, eC, eBin, eUn, tB', eB, bNot, bAnd, bOr, bIf, eIf, eAnd, eOr, eNot, aNil, aCons, eTup, aLst, eFrz, eRef, pN, pA, pK, pAK, eCall, eMeth_def, eFld_def, eMake_def, bind_ok, bind_err, bind_bad, fs_ok, fs_err, fs_bad, List.map_cons, List.map_nil, List.length_cons, List.length_nil, List.replicate, List.cons_append, List.nil_append, List.getElem?_cons_zero, List.getElem?_cons_succ, List.set_cons_zero, List.set_cons_succ, sz0, sz1, sz2, sz3, sz4, sz5, if_true, and_self, Nat.reduceSub, Nat.reduceAdd, List.lookup_cons, List.lookup_nil, t, ne_tents_nil, ne, Bool.not_false, aLk]
  rw [lc_true (ys := es) (inj := entV)]
  · simp only [defM, sSeq, sIf, sSet, sRet, sRetN, sExpr, sNext, sFld_def, sSub, sRaise, eVar, eC, eBin, eUn, tB', eB, bNot, bAnd, bOr, bIf, eIf, eAnd, eOr, eNot, aNil, aCons, eTup, aLst, eFrz, eRef, pN, pA, pK, pAK, eCall, eMeth_def, eFld_def, eMake_def, bind_ok, bind_err, bind_bad, fs_ok, fs_err, fs_bad, List.map_cons, List.map_nil, List.length_cons, List.length_nil, List.replicate, List.cons_append, List.nil_append, List.getElem?_cons_zero, List.getElem?_cons_succ, List.set_cons_zero, List.set_cons_succ, sz0, sz1, sz2, sz3, sz4, sz5, if_true, and_self, Nat.reduceSub, Nat.reduceAdd, List.lookup_cons, List.lookup_nil, all_bls, all_true]
  · simp only [defM, sSeq, sIf, sSet, sRet, sRetN, sExpr, sNext, sFld_def, sSub, sRaise, eVar, eC, eBin, eUn, tB', eB, bNot, bAnd, bOr, bIf, eIf, eAnd, eOr, eNot, aNil, aCons, eTup, aLst, eFrz, eRef, pN, pA, pK, pAK, eCall, eMeth_def, eFld_def, eMake_def, bind_ok, bind_err, bind_bad, fs_ok, fs_err, fs_bad, List.map_cons, List.map_nil, List.length_cons, List.length_nil, List.replicate, List.cons_append, List.nil_append, List.getElem?_cons_zero, List.getElem?_cons_succ, List.set_cons_zero, List.set_cons_succ, sz0, sz1, sz2, sz3, sz4, sz5, if_true, and_self, Nat.reduceSub, Nat.reduceAdd, List.lookup_cons, List.lookup_nil, iAny, itV, tupOf]
  · intro e he
    refine ⟨[entV e], rfl, ?_⟩
    simp only [defM, sSeq, sIf, sSet, sRet, sRetN, sExpr, sNext, sFld_def, sSub, sRaise, eVar, eC, eBin, eUn, tB', eB, bNot, bAnd, bOr, bIf, eIf, eAnd, eOr, eNot, aNil, aCons, eTup, aLst, eFrz, eRef, pN, pA, pK, pAK, eCall, eMeth_def, eFld_def, eMake_def, bind_ok, bind_err, bind_bad, fs_ok, fs_err, fs_bad, List.map_cons, List.map_nil, List.length_cons, List.length_nil, List.replicate, List.cons_append, List.nil_append, List.getElem?_cons_zero, List.getElem?_cons_succ, List.set_cons_zero, List.set_cons_succ, sz0, sz1, sz2, sz3, sz4, sz5, if_true, and_self, Nat.reduceSub, Nat.reduceAdd, List.lookup_cons, List.lookup_nil, qElt, bYes, wipeM, setAllM, is_entry_ok (h e he)]
  · exact hl
/-- a tuple of either kind -/
def tpV (b : Bool) (xs : List MV) : MV := if b then .ptp xs else .tup xs
def pr (p : Str × Str) : MV := .tup [.str p.1, .str p.2]
def statW (b : Bool) (T : Tb Str) (sp : Str × Str) (L : Tb (List Ent)) : MV := .tup [.ptp (T.map pr), spV sp, tpV b (L.map fE)]
theorem statV_is {T : Tb Str} {sp : Str × Str} {L : Tb (List Ent)} : statV T sp L = statW false T sp L := rfl
structure StOk (T : Tb Str) (sp : Str × Str) (L : Tb (List Ent)) : Prop where
  t : TabOk T
  l : ∃ n, n ≤ 1000 ∧ LogOk L n
  sp : SpOk sp
  at_ : Asc1 (keys T)
  al : Asc1 (keys L)
  ap : pfx (keys T) = false
  ne : ∀ p ∈ L, p.2.isEmpty = false
theorem is_state_ok {A : AH} {b : Bool} {T : Tb Str} {sp : Str × Str} {L : Tb (List Ent)} (h : StOk T sp L) : F_is_state [statW b T sp L] A = .ok (.bl true) A := by
  have tl : T.length < 64 := by have := h.t.len; unfold keys at this; rwa [List.length_map] at this
  have ll : L.length < 64 := by obtain ⟨n, _, q⟩ := h.l; have := q.len; unfold keys at this; rwa [List.length_map] at this
  have t : isiM [statW b T sp L, .ty "tuple"] A = .ok (.bl true) A := rfl
  have l : lenM [statW b T sp L] A = .ok (.int 3) A := rfl
  have i0 : ixM (statW b T sp L) (.int 0) A = .ok (.ptp (T.map pr)) A := ix_tup rfl
  have i1 : ixM (statW b T sp L) (.int 1) A = .ok (spV sp) A := ix_tup rfl
  have i2 : ixM (statW b T sp L) (.int 2) A = .ok (tpV b (L.map fE)) A := ix_tup rfl
  have p1 : F_are_pairs [.ptp (T.map pr)] A = .ok (.bl true) A := pairs_ok (w := fun p => .str p.2) (.inl rfl) (by omega) h.at_
  have p2 : F_are_pairs [tpV b (L.map fE)] A = .ok (.bl true) A := pairs_ok (T := L) (w := fun p => .tup (p.2.map entV)) (by cases b; exact .inr rfl; exact .inl rfl) (by omega) h.al
  have it : itV A (tpV b (L.map fE)) = some (L.map fE) := by cases b <;> rfl
  have k1 : ∀ {α : Type} {s : ME → AH → Rs α} {ρ : ME}, aLk (eBin ixM (eVar 0) (eC (.int 0))) s (some (statW b T sp L) :: ρ) A = s (some (statW b T sp L) :: ρ) A := fun {α s ρ} => by
    unfold aLk
    simp only [defM, sSeq, sIf, sSet, sRet, sRetN, sExpr, sNext, sFld_def, sSub, sRaise, eVar, eC, eBin, eUn, tB', eB, bNot, bAnd, bOr, bIf, eIf, eAnd, eOr, eNot, aNil, aCons, eTup, aLst, eFrz, eRef, pN, pA, pK, pAK, eCall, eMeth_def, eFld_def, eMake_def, bind_ok, bind_err, bind_bad, fs_ok, fs_err, fs_bad, List.map_cons, List.map_nil, List.length_cons, List.length_nil, List.replicate, List.cons_append, List.nil_append, List.getElem?_cons_zero, List.getElem?_cons_succ, List.set_cons_zero, List.set_cons_succ, sz0, sz1, sz2, sz3, sz4, sz5, if_true, and_self, Nat.reduceSub, Nat.reduceAdd, List.lookup_cons, List.lookup_nil, i0]
  have k2 : ∀ {α : Type} {s : ME → AH → Rs α} {ρ : ME}, aLk (eBin ixM (eVar 0) (eC (.int 2))) s (some (statW b T sp L) :: ρ) A = s (some (statW b T sp L) :: ρ) A := fun {α s ρ} => by
    unfold aLk
    simp only [defM, sSeq, sIf, sSet, sRet, sRetN, sExpr, sNext, sFld_def, sSub, sRaise, eVar, eC, eBin, eUn, tB', eB, bNot, bAnd, bOr, bIf, eIf, eAnd, eOr, eNot, aNil, aCons, eTup, aLst, eFrz, eRef, pN, pA, pK, pAK, eCall, eMeth_def, eFld_def, eMake_def, bind_ok, bind_err, bind_bad, fs_ok, fs_err, fs_bad, List.map_cons, List.map_nil, List.length_cons, List.length_nil, List.replicate, List.cons_append, List.nil_append, List.getElem?_cons_zero, List.getElem?_cons_succ, List.set_cons_zero, List.set_cons_succ, sz0, sz1, sz2, sz3, sz4, sz5, if_true, and_self, Nat.reduceSub, Nat.reduceAdd, List.lookup_cons, List.lookup_nil, i2]
    cases b <;> rfl
  unfold F_is_state b_is_state
  simp only [defM, sSeq, sIf, sSet, sRet, sRetN, sExpr, sNext, sFld_def, sSub, sRaise, eVar, eC, eBin, eUn, tB', eB, bNot, bAnd, bOr, bIf, eIf, eAnd, eOr, eNot, aNil, aCons, eTup, aLst, eFrz, eRef, pN, pA, pK, pAK, eCall, eMeth_def, eFld_def, eMake_def, bind_ok, bind_err, bind_bad, fs_ok, fs_err, fs_bad, List.map_cons, List.map_nil, List.length_cons, List.length_nil, List.replicate, List.cons_append, List.nil_append, List.getElem?_cons_zero, List.getElem?_cons_succ, List.set_cons_zero, List.set_cons_succ, sz0, sz1, sz2, sz3, sz4, sz5, if_true, and_self, Nat.reduceSub, Nat.reduceAdd, List.lookup_cons, List.lookup_nil, t, l, ne_int, i0, i1, i2, place_ok h.sp, p1, p2, k1, k2, decide_true, Bool.not_true]
  rw [lc_true (ys := T) (inj := pr)]
  · simp only [defM, sSeq, sIf, sSet, sRet, sRetN, sExpr, sNext, sFld_def, sSub, sRaise, eVar, eC, eBin, eUn, tB', eB, bNot, bAnd, bOr, bIf, eIf, eAnd, eOr, eNot, aNil, aCons, eTup, aLst, eFrz, eRef, pN, pA, pK, pAK, eCall, eMeth_def, eFld_def, eMake_def, bind_ok, bind_err, bind_bad, fs_ok, fs_err, fs_bad, List.map_cons, List.map_nil, List.length_cons, List.length_nil, List.replicate, List.cons_append, List.nil_append, List.getElem?_cons_zero, List.getElem?_cons_succ, List.set_cons_zero, List.set_cons_succ, sz0, sz1, sz2, sz3, sz4, sz5, if_true, and_self, Nat.reduceSub, Nat.reduceAdd, List.lookup_cons, List.lookup_nil, all_bls, all_true, Bool.not_true, k1]
    rw [lc_ys (ys := T) (inj := pr) (h := fun p => [MV.str p.1])]
    · rw [flat_one]
      have e : T.map (fun y => MV.str y.1) = (keys T).map MV.str := by unfold keys; rw [List.map_map]; rfl
      simp only [defM, sSeq, sIf, sSet, sRet, sRetN, sExpr, sNext, sFld_def, sSub, sRaise, eVar, eC, eBin, eUn, tB', eB, bNot, bAnd, bOr, bIf, eIf, eAnd, eOr, eNot, aNil, aCons, eTup, aLst, eFrz, eRef, pN, pA, pK, pAK, eCall, eMeth_def, eFld_def, eMake_def, bind_ok, bind_err, bind_bad, fs_ok, fs_err, fs_bad, List.map_cons, List.map_nil, List.length_cons, List.length_nil, List.replicate, List.cons_append, List.nil_append, List.getElem?_cons_zero, List.getElem?_cons_succ, List.set_cons_zero, List.set_cons_succ, sz0, sz1, sz2, sz3, sz4, sz5, if_true, and_self, Nat.reduceSub, Nat.reduceAdd, List.lookup_cons, List.lookup_nil, e, apart_ok (fun k hk => h.t.key hk) (by unfold keys; rw [List.length_map]; omega) h.ap, Bool.not_true, k2]
      rw [lc_true (ys := L) (inj := fE)]
      · simp only [defM, sSeq, sIf, sSet, sRet, sRetN, sExpr, sNext, sFld_def, sSub, sRaise, eVar, eC, eBin, eUn, tB', eB, bNot, bAnd, bOr, bIf, eIf, eAnd, eOr, eNot, aNil, aCons, eTup, aLst, eFrz, eRef, pN, pA, pK, pAK, eCall, eMeth_def, eFld_def, eMake_def, bind_ok, bind_err, bind_bad, fs_ok, fs_err, fs_bad, List.map_cons, List.map_nil, List.length_cons, List.length_nil, List.replicate, List.cons_append, List.nil_append, List.getElem?_cons_zero, List.getElem?_cons_succ, List.set_cons_zero, List.set_cons_succ, sz0, sz1, sz2, sz3, sz4, sz5, if_true, and_self, Nat.reduceSub, Nat.reduceAdd, List.lookup_cons, List.lookup_nil, all_bls, all_true]
      · simp only [defM, sSeq, sIf, sSet, sRet, sRetN, sExpr, sNext, sFld_def, sSub, sRaise, eVar, eC, eBin, eUn, tB', eB, bNot, bAnd, bOr, bIf, eIf, eAnd, eOr, eNot, aNil, aCons, eTup, aLst, eFrz, eRef, pN, pA, pK, pAK, eCall, eMeth_def, eFld_def, eMake_def, bind_ok, bind_err, bind_bad, fs_ok, fs_err, fs_bad, List.map_cons, List.map_nil, List.length_cons, List.length_nil, List.replicate, List.cons_append, List.nil_append, List.getElem?_cons_zero, List.getElem?_cons_succ, List.set_cons_zero, List.set_cons_succ, sz0, sz1, sz2, sz3, sz4, sz5, if_true, and_self, Nat.reduceSub, Nat.reduceAdd, List.lookup_cons, List.lookup_nil, iAny, i2, it]
      · intro p hp
        obtain ⟨n, hn, q⟩ := h.l
        obtain ⟨q1, q2, q3⟩ := q.all p hp
        refine ⟨[.str p.1, .tup (p.2.map entV)], rfl, ?_⟩
        have nm : F_is_named [.str p.1] A = .ok (.bl true) A := q1.elim (is_named_ok _) fun e => by rw [e]; exact is_named_head
        simp only [defM, sSeq, sIf, sSet, sRet, sRetN, sExpr, sNext, sFld_def, sSub, sRaise, eVar, eC, eBin, eUn, tB', eB, bNot, bAnd, bOr, bIf, eIf, eAnd, eOr, eNot, aNil, aCons, eTup, aLst, eFrz, eRef, pN, pA, pK, pAK, eCall, eMeth_def, eFld_def, eMake_def, bind_ok, bind_err, bind_bad, fs_ok, fs_err, fs_bad, List.map_cons, List.map_nil, List.length_cons, List.length_nil, List.replicate, List.cons_append, List.nil_append, List.getElem?_cons_zero, List.getElem?_cons_succ, List.set_cons_zero, List.set_cons_succ, sz0, sz1, sz2, sz3, sz4, sz5, if_true, and_self, Nat.reduceSub, Nat.reduceAdd, List.lookup_cons, List.lookup_nil, qElt, bYes, wipeM, setAllM, nm, past_ok q2 (by omega) (h.ne p hp)]
      · omega
    · simp only [defM, sSeq, sIf, sSet, sRet, sRetN, sExpr, sNext, sFld_def, sSub, sRaise, eVar, eC, eBin, eUn, tB', eB, bNot, bAnd, bOr, bIf, eIf, eAnd, eOr, eNot, aNil, aCons, eTup, aLst, eFrz, eRef, pN, pA, pK, pAK, eCall, eMeth_def, eFld_def, eMake_def, bind_ok, bind_err, bind_bad, fs_ok, fs_err, fs_bad, List.map_cons, List.map_nil, List.length_cons, List.length_nil, List.replicate, List.cons_append, List.nil_append, List.getElem?_cons_zero, List.getElem?_cons_succ, List.set_cons_zero, List.set_cons_succ, sz0, sz1, sz2, sz3, sz4, sz5, if_true, and_self, Nat.reduceSub, Nat.reduceAdd, List.lookup_cons, List.lookup_nil, iAny, i0, itV, tupOf]
    · intro p _
      refine ⟨[.str p.1, .str p.2], rfl, ?_⟩
      simp only [defM, sSeq, sIf, sSet, sRet, sRetN, sExpr, sNext, sFld_def, sSub, sRaise, eVar, eC, eBin, eUn, tB', eB, bNot, bAnd, bOr, bIf, eIf, eAnd, eOr, eNot, aNil, aCons, eTup, aLst, eFrz, eRef, pN, pA, pK, pAK, eCall, eMeth_def, eFld_def, eMake_def, bind_ok, bind_err, bind_bad, fs_ok, fs_err, fs_bad, List.map_cons, List.map_nil, List.length_cons, List.length_nil, List.replicate, List.cons_append, List.nil_append, List.getElem?_cons_zero, List.getElem?_cons_succ, List.set_cons_zero, List.set_cons_succ, sz0, sz1, sz2, sz3, sz4, sz5, if_true, and_self, Nat.reduceSub, Nat.reduceAdd, List.lookup_cons, List.lookup_nil, qElt, bYes, wipeM, setAllM]
    · rw [flat_one]
      exact szL_le (by rw [List.length_map]; omega)
  · simp only [defM, sSeq, sIf, sSet, sRet, sRetN, sExpr, sNext, sFld_def, sSub, sRaise, eVar, eC, eBin, eUn, tB', eB, bNot, bAnd, bOr, bIf, eIf, eAnd, eOr, eNot, aNil, aCons, eTup, aLst, eFrz, eRef, pN, pA, pK, pAK, eCall, eMeth_def, eFld_def, eMake_def, bind_ok, bind_err, bind_bad, fs_ok, fs_err, fs_bad, List.map_cons, List.map_nil, List.length_cons, List.length_nil, List.replicate, List.cons_append, List.nil_append, List.getElem?_cons_zero, List.getElem?_cons_succ, List.set_cons_zero, List.set_cons_succ, sz0, sz1, sz2, sz3, sz4, sz5, if_true, and_self, Nat.reduceSub, Nat.reduceAdd, List.lookup_cons, List.lookup_nil, iAny, i0, itV, tupOf]
  · intro p hp
    refine ⟨[.str p.1, .str p.2], rfl, ?_⟩
    simp only [defM, sSeq, sIf, sSet, sRet, sRetN, sExpr, sNext, sFld_def, sSub, sRaise, eVar, eC, eBin, eUn, tB', eB, bNot, bAnd, bOr, bIf, eIf, eAnd, eOr, eNot, aNil, aCons, eTup, aLst, eFrz, eRef, pN, pA, pK, pAK, eCall, eMeth_def, eFld_def, eMake_def, bind_ok, bind_err, bind_bad, fs_ok, fs_err, fs_bad, List.map_cons, List.map_nil, List.length_cons, List.length_nil, List.replicate, List.cons_append, List.nil_append, List.getElem?_cons_zero, List.getElem?_cons_succ, List.set_cons_zero, List.set_cons_succ, sz0, sz1, sz2, sz3, sz4, sz5, if_true, and_self, Nat.reduceSub, Nat.reduceAdd, List.lookup_cons, List.lookup_nil, qElt, bYes, wipeM, setAllM, is_ref_ok _ (h.t.all p hp).1, is_id_ok _ (h.t.all p hp).2]
  · omega
end Rp
/-! Rp7: take, Refs(..), copied -/
namespace Rp
open PySem PySem.Spec PyProof.Rows Mv Rf
theorem pairs_tab : ∀ T : Tb Str, pairsOfM (T.map pr) = some (tabV T)
  | [] => rfl
  | p :: T => by
    show (match keyOf (.str p.1), pairsOfM (T.map pr) with | some key, some l => some ((key, MV.str p.2) :: l) | _, _ => none) = _
    rw [pairs_tab T]
    rfl
theorem put_new {β : Type} {T : Tb β} {k : Str} {v : β} (h : k ∉ keys T) : put T k v = T ++ [(k, v)] := by
  unfold put
  rw [if_neg h]
theorem merge_mapK {β : Type} {f : β → MV} : ∀ {U T : Tb β}, (keys (U ++ T)).Nodup → mergeM (mapK f U) (mapK f T) = mapK f (U ++ T)
  | U, [], _ => by rw [List.append_nil]; rfl
  | U, p :: T, h => by
    show mergeM (putM (mapK f U) (.inr p.1) (f p.2)) (mapK f T) = _
    have nk : p.1 ∉ keys U := by
      intro z
      unfold keys at h
      rw [List.map_append, List.map_cons, List.nodup_append] at h
      exact h.2.2 p.1 z p.1 (List.mem_cons_self ..) rfl
    rw [put_mapK, put_new nk, merge_mapK (by rw [List.append_assoc]; exact h), List.append_assoc]
    rfl
theorem merge_nil {β : Type} {f : β → MV} {T : Tb β} (h : (keys T).Nodup) : mergeM [] (mapK f T) = mapK f T := merge_mapK (U := []) h
/-- {name: list(past) for name, past in ..} -/
theorem dRun_log {A : AH} {is : List Nat} {ρ : ME} {q : List (L2.Key × MV) → ME → AH → Rs (List (L2.Key × MV))} (H : ∀ (U : Tb (List Ent)) (p : Str × List Ent), U.length < 1000 → q (logV U) (setAllM ρ is [.str p.1, .tup (p.2.map entV)]) A = .ok (putM (logV U) (.inr p.1) (entsV p.2)) A) :
    ∀ {U T : Tb (List Ent)}, (keys (U ++ T)).Nodup → (U ++ T).length < 1000 → dRun is (gTupM 2 (gConsM gNm (gConsM gNm gNilM))) q (T.map fE) (logV U) ρ A = .ok (logV (U ++ T)) A
  | U, [], _, _ => by rw [List.append_nil]; rfl
  | U, p :: T, h, hl => by
    have nk : p.1 ∉ keys U := by
      intro z
      unfold keys at h
      rw [List.map_append, List.map_cons, List.nodup_append] at h
      exact h.2.2 p.1 z p.1 (List.mem_cons_self ..) rfl
    rw [List.map_cons]
    unfold dRun
    rw [show gTupM 2 (gConsM gNm (gConsM gNm gNilM)) (fE p) = some [.str p.1, .tup (p.2.map entV)] from rfl]
    dsimp only
    rw [H U p (by rw [List.length_append] at hl; omega)]
    dsimp only
    unfold logV
    rw [put_mapK, put_new nk]
    have := dRun_log H (U := U ++ [(p.1, p.2)]) (T := T) (by rw [List.append_assoc]; exact h) (by rw [List.append_assoc]; exact hl)
    rw [List.append_assoc] at this
    exact this
theorem take_ok {A : AH} {r : Nat} {b : Bool} {fs : List (Str × MV)} {T : Tb Str} {sp : Str × Str} {L : Tb (List Ent)} (h : A[r]? = some (.ins "Refs" fs)) (hf : fs.length < 100) (hT : (keys T).Nodup) (hL : (keys L).Nodup) (lL : L.length < 64) : ∃ A', F_Refs_take [.ref r, statW b T sp L] A = .ok .non A' ∧
    A'[r]? = some (.ins "Refs" (putFM "logs" (.ref (A.length + 1)) (putFM "spot" (spV sp) (putFM "table" (.ref A.length) fs)))) ∧ A'[A.length]? = some (.dct (tabV T)) ∧ A'[A.length + 1]? = some (.dct (logV L)) ∧ Fr (fun n => n = r) A A' ∧ A'.length = A.length + 2 := by
  have rl := at_lt h
  have pl : ∀ {f : Str} {y : MV} {fs : List (Str × MV)}, (putFM f y fs).length ≤ fs.length + 1 := by
    intro f y fs
    induction fs with
    | nil => exact Nat.le_refl _
    | cons p fs ih =>
      unfold putFM
      split
      · exact Nat.le_succ _
      · rw [List.length_cons, List.length_cons]; omega
  have i0 : ∀ {A : AH}, ixM (statW b T sp L) (.int 0) A = .ok (.ptp (T.map pr)) A := ix_tup rfl
  have i1 : ∀ {A : AH}, ixM (statW b T sp L) (.int 1) A = .ok (spV sp) A := ix_tup rfl
  have i2 : ∀ {A : AH}, ixM (statW b T sp L) (.int 2) A = .ok (tpV b (L.map fE)) A := ix_tup rfl
  have it : ∀ {A : AH}, itV A (tpV b (L.map fE)) = some (L.map fE) := by intro A; cases b <;> rfl
  have dm : ∀ {A : AH}, dictM [.ptp (T.map pr)] A = .ok (.ref A.length) (A ++ [MO.dct (tabV T)]) := by
    intro A
    show (match pairsOfM (T.map pr) with | some kvs => Rs.ok (MV.ref A.length) (A ++ [MO.dct (mergeM [] kvs)]) | none => .bad) = _
    rw [pairs_tab]
    dsimp only
    unfold tabV
    rw [merge_nil hT]
  have k2 : ∀ {α : Type} {s : ME → AH → Rs α} {ρ : ME} {A : AH}, aLk (eBin ixM (eVar 1) (eC (.int 2))) s (some (.ref r) :: some (statW b T sp L) :: ρ) A = s (some (.ref r) :: some (statW b T sp L) :: ρ) A := fun {α s ρ A} => by
    unfold aLk
    simp only [defM, sSeq, sIf, sSet, sRet, sRetN, sExpr, sNext, sFld_def, sSub, sRaise, eVar, eC, eBin, eUn, tB', eB, bNot, bAnd, bOr, bIf, eIf, eAnd, eOr, eNot, aNil, aCons, eTup, aLst, eFrz, eRef, pN, pA, pK, pAK, eCall, eMeth_def, eFld_def, eMake_def, bind_ok, bind_err, bind_bad, fs_ok, fs_err, fs_bad, List.map_cons, List.map_nil, List.length_cons, List.length_nil, List.replicate, List.cons_append, List.nil_append, List.getElem?_cons_zero, List.getElem?_cons_succ, List.set_cons_zero, List.set_cons_succ, sz0, sz1, sz2, sz3, sz4, sz5, if_true, and_self, Nat.reduceSub, Nat.reduceAdd, List.lookup_cons, List.lookup_nil, i2]
    cases b <;> rfl
  have s1 : putFld "Refs" "table" (.ref r) (.ref A.length) (A ++ [MO.dct (tabV T)]) = some ((A ++ [MO.dct (tabV T)]).set r (.ins "Refs" (putFM "table" (.ref A.length) fs))) := putFld_at (app_at h) (by omega)
  have h1 : ((A ++ [MO.dct (tabV T)]).set r (.ins "Refs" (putFM "table" (.ref A.length) fs)))[r]? = some (.ins "Refs" (putFM "table" (.ref A.length) fs)) := set_at (app_at h)
  have s2 : putFld "Refs" "spot" (.ref r) (spV sp) ((A ++ [MO.dct (tabV T)]).set r (.ins "Refs" (putFM "table" (.ref A.length) fs))) = some ((((A ++ [MO.dct (tabV T)]).set r (.ins "Refs" (putFM "table" (.ref A.length) fs)))).set r (.ins "Refs" (putFM "spot" (spV sp) (putFM "table" (.ref A.length) fs)))) := putFld_at h1 (by have := pl (f := "table") (y := .ref A.length) (fs := fs); omega)
  rw [List.set_set] at s2
  have h2 : ((A ++ [MO.dct (tabV T)]).set r (.ins "Refs" (putFM "spot" (spV sp) (putFM "table" (.ref A.length) fs))))[r]? = some (.ins "Refs" (putFM "spot" (spV sp) (putFM "table" (.ref A.length) fs))) := set_at (app_at h)
  generalize hB : (A ++ [MO.dct (tabV T)]).set r (.ins "Refs" (putFM "spot" (spV sp) (putFM "table" (.ref A.length) fs))) = B at s2 h2
  have lB : B.length = A.length + 1 := by rw [← hB, List.length_set, List.length_append]; rfl
  have s3 : putFld "Refs" "logs" (.ref r) (.ref B.length) (B ++ [MO.dct (logV L)]) = some ((B ++ [MO.dct (logV L)]).set r (.ins "Refs" (putFM "logs" (.ref B.length) (putFM "spot" (spV sp) (putFM "table" (.ref A.length) fs))))) := putFld_at (app_at h2) (by
    have := pl (f := "table") (y := .ref A.length) (fs := fs)
    have := pl (f := "spot") (y := spV sp) (fs := putFM "table" (.ref A.length) fs)
    omega)
  refine ⟨(B ++ [MO.dct (logV L)]).set r (.ins "Refs" (putFM "logs" (.ref B.length) (putFM "spot" (spV sp) (putFM "table" (.ref A.length) fs)))), ?_, ?_, ?_, ?_, ?_, ?_⟩
  · unfold F_Refs_take b_Refs_take
    simp only [defM, sSeq, sIf, sSet, sRet, sRetN, sExpr, sNext, sFld_def, sSub, sRaise, eVar, eC, eBin, eUn, tB', eB, bNot, bAnd, bOr, bIf, eIf, eAnd, eOr, eNot, aNil, aCons, eTup, aLst, eFrz, eRef, pN, pA, pK, pAK, eCall, eMeth_def, eFld_def, eMake_def, bind_ok, bind_err, bind_bad, fs_ok, fs_err, fs_bad, List.map_cons, List.map_nil, List.length_cons, List.length_nil, List.replicate, List.cons_append, List.nil_append, List.getElem?_cons_zero, List.getElem?_cons_succ, List.set_cons_zero, List.set_cons_succ, sz0, sz1, sz2, sz3, sz4, sz5, if_true, and_self, Nat.reduceSub, Nat.reduceAdd, List.lookup_cons, List.lookup_nil, i0, dm, s1, i1, s2, k2, eDc, iAny, i2, it, wipeM]
    have dr := dRun_log (A := B) (is := [2, 3]) (ρ := [some (.ref r), some (statW b T sp L), none, none]) (q := dElt bYes (eVar 2) (eFrz fun ρ A => ((aCons (eVar 3) aNil) ρ A).bind listL)) (U := []) (T := L) (fun U p hU => by
      have lu : (logV U).length < 1000000 := by unfold logV; rw [len_mapK]; omega
      simp only [defM, sSeq, sIf, sSet, sRet, sRetN, sExpr, sNext, sFld_def, sSub, sRaise, eVar, eC, eBin, eUn, tB', eB, bNot, bAnd, bOr, bIf, eIf, eAnd, eOr, eNot, aNil, aCons, eTup, aLst, eFrz, eRef, pN, pA, pK, pAK, eCall, eMeth_def, eFld_def, eMake_def, bind_ok, bind_err, bind_bad, fs_ok, fs_err, fs_bad, List.map_cons, List.map_nil, List.length_cons, List.length_nil, List.replicate, List.cons_append, List.nil_append, List.getElem?_cons_zero, List.getElem?_cons_succ, List.set_cons_zero, List.set_cons_succ, sz0, sz1, sz2, sz3, sz4, sz5, if_true, and_self, Nat.reduceSub, Nat.reduceAdd, List.lookup_cons, List.lookup_nil, dElt, bYes, setAllM, listL, tupOf, keyOf, if_pos lu, entsV]) hL (by simpa using Nat.lt_of_lt_of_le lL (by decide))
    simp only [defM, sSeq, sIf, sSet, sRet, sRetN, sExpr, sNext, sFld_def, sSub, sRaise, eVar, eC, eBin, eUn, tB', eB, bNot, bAnd, bOr, bIf, eIf, eAnd, eOr, eNot, aNil, aCons, eTup, aLst, eFrz, eRef, pN, pA, pK, pAK, eCall, eMeth_def, eFld_def, eMake_def, bind_ok, bind_err, bind_bad, fs_ok, fs_err, fs_bad, List.map_cons, List.map_nil, List.length_cons, List.length_nil, List.replicate, List.cons_append, List.nil_append, List.getElem?_cons_zero, List.getElem?_cons_succ, List.set_cons_zero, List.set_cons_succ, sz0, sz1, sz2, sz3, sz4, sz5, if_true, and_self, Nat.reduceSub, Nat.reduceAdd, List.lookup_cons, List.lookup_nil] at dr
    rw [show logV [] = [] from rfl] at dr
    simp only [defM, sSeq, sIf, sSet, sRet, sRetN, sExpr, sNext, sFld_def, sSub, sRaise, eVar, eC, eBin, eUn, tB', eB, bNot, bAnd, bOr, bIf, eIf, eAnd, eOr, eNot, aNil, aCons, eTup, aLst, eFrz, eRef, pN, pA, pK, pAK, eCall, eMeth_def, eFld_def, eMake_def, bind_ok, bind_err, bind_bad, fs_ok, fs_err, fs_bad, List.map_cons, List.map_nil, List.length_cons, List.length_nil, List.replicate, List.cons_append, List.nil_append, List.getElem?_cons_zero, List.getElem?_cons_succ, List.set_cons_zero, List.set_cons_succ, sz0, sz1, sz2, sz3, sz4, sz5, if_true, and_self, Nat.reduceSub, Nat.reduceAdd, List.lookup_cons, List.lookup_nil, dr, s3]
  · rw [← lB]; exact set_at (app_at h2)
  · rw [set_ne (by omega)]
    refine app_at ?_
    rw [← hB, set_ne (by omega)]
    exact new_at
  · rw [set_ne (by omega), ← lB]
    exact new_at
  · refine Fr.trans (B := B) ?_ ?_
    · rw [← hB]
      exact Fr.trans Fr.app (Fr.set rfl)
    · exact Fr.trans Fr.app (Fr.set rfl)
  · rw [List.length_set, List.length_append, lB]; rfl
theorem init_ok {A : AH} {r : Nat} {b : Bool} {T : Tb Str} {sp : Str × Str} {L : Tb (List Ent)} (h : A[r]? = some (.ins "Refs" [])) (ok : StOk T sp L) : ∃ A', F_Refs___init__ [.ref r, statW b T sp L] A = .ok .non A' ∧ RefsAt A' r A.length (A.length + 1) (A.length + 2) T sp L [] ∧ Fr (fun n => n = r) A A' ∧ A'.length = A.length + 3 := by
  have n0 : ∀ {A : AH}, isNM (statW b T sp L) .non A = .ok (.bl false) A := rfl
  have s1 : putFld "Refs" "edits" (.ref r) (.ref A.length) (A ++ [MO.lst []]) = some ((A ++ [MO.lst []]).set r (.ins "Refs" [("edits", .ref A.length)])) := putFld_at (fs := []) (app_at h) (by decide)
  have h1 : ((A ++ [MO.lst []]).set r (.ins "Refs" [("edits", .ref A.length)]))[r]? = some (.ins "Refs" [("edits", .ref A.length)]) := set_at (app_at h)
  generalize hB : (A ++ [MO.lst []]).set r (.ins "Refs" [("edits", .ref A.length)]) = B at s1 h1
  have lB : B.length = A.length + 1 := by rw [← hB, List.length_set, List.length_append]; rfl
  obtain ⟨n, _, okL⟩ := ok.l
  have ll : L.length < 64 := by have := okL.len; unfold keys at this; rwa [List.length_map] at this
  obtain ⟨A', e, a1, a2, a3, a4, a5⟩ := take_ok (b := b) (sp := sp) h1 (Nat.lt_of_le_of_lt (Nat.le_refl 1) (by decide)) ok.t.nd okL.nd ll
  have m1 : mthB "Refs" "take" (.ref r) B = true := mth_at h1 rfl
  rw [lB] at a1 a2 a3 a5
  have rl := at_lt h
  refine ⟨A', ?_, ⟨a1, ?_, a2, a3⟩, ?_, by omega⟩
  · unfold F_Refs___init__ b_Refs___init__
    simp only [defM, sSeq, sIf, sSet, sRet, sRetN, sExpr, sNext, sFld_def, sSub, sRaise, eVar, eC, eBin, eUn, tB', eB, bNot, bAnd, bOr, bIf, eIf, eAnd, eOr, eNot, aNil, aCons, eTup, aLst, eFrz, eRef, pN, pA, pK, pAK, eCall, eMeth_def, eFld_def, eMake_def, bind_ok, bind_err, bind_bad, fs_ok, fs_err, fs_bad, List.map_cons, List.map_nil, List.length_cons, List.length_nil, List.replicate, List.cons_append, List.nil_append, List.getElem?_cons_zero, List.getElem?_cons_succ, List.set_cons_zero, List.set_cons_succ, sz0, sz1, sz2, sz3, sz4, sz5, if_true, and_self, Nat.reduceSub, Nat.reduceAdd, List.lookup_cons, List.lookup_nil, n0, is_state_ok ok, Bool.not_true, s1, m1, e]
  · refine a4.same _ _ (by omega) ?_
    rw [← hB, set_ne (by omega)]
    exact new_at
  · refine Fr.trans (B := B) ?_ a4
    rw [← hB]
    exact Fr.trans Fr.app (Fr.set rfl)
theorem StOk.nil : StOk [] ("ref", "main") [] := ⟨⟨List.nodup_nil, fun p hp => nomatch hp⟩, ⟨0, by decide, List.nodup_nil, fun p hp => nomatch hp⟩, .inl ⟨rfl, by decide⟩, List.Pairwise.nil, List.Pairwise.nil, rfl, fun p hp => nomatch hp⟩
/-- Refs() -/
theorem new_refs {A : AH} : ∃ A', F_Refs___init__ [.ref A.length, .non] (A ++ [MO.ins "Refs" []]) = .ok .non A' ∧ RefsAt A' A.length (A.length + 1) (A.length + 2) (A.length + 3) [] ("ref", "main") [] [] ∧ Fr (fun _ => False) A A' ∧ A'.length = A.length + 4 := by
  obtain ⟨A', e, R, f, l⟩ := init_ok (b := true) (A := A ++ [MO.ins "Refs" []]) new_at StOk.nil
  rw [List.length_append] at R l
  refine ⟨A', ?_, R, ?_, l⟩
  · rw [← e]
    rfl
  · exact Fr.cut Fr.app (f.mono fun n e => .inr (by rw [e]; exact Nat.le_refl _))
theorem mem_of_ne {p : Str × List Ent} {L : Tb (List Ent)} (h : p ∈ srtL L) : p ∈ rowOf L (skeys L) ∧ p.2.isEmpty = false := by
  obtain ⟨h1, h2⟩ := List.mem_filter.mp h
  exact ⟨h1, by simpa using h2⟩
theorem keys_srt {T : Tb Str} : keys (srt T) = skeys T := keys_rowOf fun k hk => mem_skeys.mp hk
theorem srt_ok {T : Tb Str} (h : TabOk T) : TabOk (srt T) := ⟨by rw [keys_srt]; exact nodup_skeys h.nd, all_rowOf (P := fun a b => a ∈ nms ∧ b ∈ ids) h.all⟩
theorem get_srt {T : Tb Str} {k : Str} : get (srt T) k = get T k := by
  unfold srt
  rw [get_rowOf]
  split
  · rfl
  · rename_i h
    exact (get_none.mpr fun z => h (mem_skeys.mpr z)).symm
theorem sub_keys {L : Tb (List Ent)} : (keys (srtL L)).Sublist (skeys L) := by
  have : keys (rowOf L (skeys L)) = skeys L := keys_rowOf fun k hk => mem_skeys.mp hk
  rw [← this]
  exact List.Sublist.map _ List.filter_sublist
theorem srtL_ok {L : Tb (List Ent)} {n : Nat} (h : LogOk L n) : LogOk (srtL L) n :=
  ⟨sub_keys.nodup (nodup_skeys h.nd), fun p hp => all_rowOf (P := fun a b => (a ∈ nms ∨ a = "HEAD") ∧ (∀ e ∈ b, EntOk e) ∧ b.length ≤ n) h.all p (mem_of_ne hp).1⟩
theorem get_filter {L : Tb (List Ent)} (nd : (keys L).Nodup) {k : Str} : ((get (L.filter fun p => !p.2.isEmpty) k).getD [] : List Ent) = (get L k).getD [] := by
  induction L with
  | nil => rfl
  | cons p L ih =>
    rw [keys, List.map_cons, List.nodup_cons] at nd
    rw [List.filter_cons]
    cases e : p.2 with
    | nil =>
      rw [if_neg (by simp), ih nd.2, get_cons]
      by_cases z : p.1 = k
      · rw [if_pos z, get_none.mpr (by rw [← z]; exact nd.1), e]; rfl
      · rw [if_neg z]
    | cons a b =>
      rw [if_pos (by simp), get_cons, get_cons]
      by_cases z : p.1 = k
      · rw [if_pos z, if_pos z]
      · rw [if_neg z, if_neg z]; exact ih nd.2
theorem lg_srtL {L : Tb (List Ent)} (nd : (keys L).Nodup) {k : Str} : lg (srtL L) k = lg L k := by
  unfold lg srtL
  have k1 : keys (rowOf L (skeys L)) = skeys L := keys_rowOf fun k hk => mem_skeys.mp hk
  rw [get_filter (by rw [k1]; exact nodup_skeys nd), get_rowOf]
  split
  · rfl
  · rename_i h
    rw [get_none.mpr fun z => h (mem_skeys.mpr z)]
theorem stOk_srt {T : Tb Str} {sp : Str × Str} {L : Tb (List Ent)} {n : Nat} (t : TabOk T) (l : LogOk L n) (hn : n ≤ 1000) (s : SpOk sp) (ap : pfx (keys T) = false) : StOk (srt T) sp (srtL L) :=
  ⟨srt_ok t, ⟨n, hn, srtL_ok l⟩, s, by rw [keys_srt]; exact asc1_sort t.nd, (asc1_sort l.nd).sublist sub_keys, by rw [keys_srt, ← ap]; exact pfx_eq fun k => mem_skeys, fun p hp => (mem_of_ne hp).2⟩
theorem copied_ok {A : AH} {r e t l n : Nat} {T : Tb Str} {sp : Str × Str} {L : Tb (List Ent)} {es : List MV} (R : RefsAt A r e t l T sp L es) (ok : TabOk T) (okL : LogOk L n) (hn : n ≤ 1000) (s : SpOk sp) (ap : pfx (keys T) = false) :
    ∃ A', F_Refs_copied [.ref r] A = .ok (.ref A.length) A' ∧ RefsAt A' A.length (A.length + 1) (A.length + 2) (A.length + 3) (srt T) sp (srtL L) [] ∧ Fr (fun _ => False) A A' ∧ A'.length = A.length + 4 := by
  obtain ⟨A', e, R', f, l⟩ := init_ok (b := false) (A := A ++ [MO.ins "Refs" []]) new_at (stOk_srt ok okL hn s ap)
  rw [List.length_append] at R' l
  have m1 : mthB "Refs" "state" (.ref r) A = true := mth_at R.r rfl
  refine ⟨A', ?_, R', Fr.cut Fr.app (f.mono fun n e => .inr (by rw [e]; exact Nat.le_refl _)), l⟩
  unfold F_Refs_copied b_Refs_copied
  simp only [defM, sSeq, sIf, sSet, sRet, sRetN, sExpr, sNext, sFld_def, sSub, sRaise, eVar, eC, eBin, eUn, tB', eB, bNot, bAnd, bOr, bIf, eIf, eAnd, eOr, eNot, aNil, aCons, eTup, aLst, eFrz, eRef, pN, pA, pK, pAK, eCall, eMeth_def, eFld_def, eMake_def, bind_ok, bind_err, bind_bad, fs_ok, fs_err, fs_bad, List.map_cons, List.map_nil, List.length_cons, List.length_nil, List.replicate, List.cons_append, List.nil_append, List.getElem?_cons_zero, List.getElem?_cons_succ, List.set_cons_zero, List.set_cons_succ, sz0, sz1, sz2, sz3, sz4, sz5, if_true, and_self, Nat.reduceSub, Nat.reduceAdd, List.lookup_cons, List.lookup_nil, m1, state_ok R ok okL, statV_is, e]
end Rp
/-! Rp8: edits -/
namespace Rp
open PySem PySem.Spec PyProof.Rows Mv Rf
abbrev Cl2 := Option Str × Option Str
def clV (p : Cl2) : MV := .tup [oV p.1, oV p.2]
def callV (C : Tb Cl2) : List (L2.Key × MV) := mapK clV C
def stV : Option (Str × Str) → MV
  | none => .non
  | some p => spV p
def sgV (w : Str) (t : Int) (x : Str) : MV := .tup [.str w, .int t, .str x]
structure EditAt (A : AH) (d r c g : Nat) (tn : Int) (sg : MV) (st : Option (Str × Str)) (op : Bool) (C : Tb Cl2) (G : List MV) : Prop where
  d : A[d]? = some (.ins "Edit" [("home", .ref r), ("turn", .int tn), ("signed", sg), ("calls", .ref c), ("grips", .ref g), ("stands", stV st), ("is_open", .bl op), ("keeper", .non)])
  c : A[c]? = some (.dct (callV C))
  g : A[g]? = some (.lst G)
def isOpen (fs : List (Str × MV)) : Option MV := fs.lookup ("is_open" : Str)
/-- edits that are no longer open -/
def Closed (A : AH) (es : List MV) : Prop := ∀ v ∈ es, ∃ n fs, v = .ref n ∧ A[n]? = some (.ins "Edit" fs) ∧ isOpen fs = some (.bl false)
theorem Closed.fr {S : Nat → Prop} {A A' : AH} {es : List MV} (h : Closed A es) (f : Fr S A A') (H : ∀ n fs, S n → A[n]? = some (.ins "Edit" fs) → isOpen fs = some (.bl false) → False) : Closed A' es := fun v hv => by
  obtain ⟨n, fs, e, a, o⟩ := h v hv
  exact ⟨n, fs, e, f.same _ _ (fun s => H n fs s a o) a, o⟩
section
variable {A : AH} {r e t l d c g : Nat} {T : Tb Str} {sp : Str × Str} {L : Tb (List Ent)} {es : List MV} {tn : Int} {sg : MV} {st : Option (Str × Str)} {op : Bool} {C : Tb Cl2} {G : List MV}
theorem EditAt.fh (E : EditAt A d r c g tn sg st op C G) : fldM "Edit" "home" (.ref d) A = .ok (.ref r) A := fld_at E.d rfl
theorem EditAt.ft (E : EditAt A d r c g tn sg st op C G) : fldM "Edit" "turn" (.ref d) A = .ok (.int tn) A := fld_at E.d rfl
theorem EditAt.fsg (E : EditAt A d r c g tn sg st op C G) : fldM "Edit" "signed" (.ref d) A = .ok sg A := fld_at E.d rfl
theorem EditAt.fc (E : EditAt A d r c g tn sg st op C G) : fldM "Edit" "calls" (.ref d) A = .ok (.ref c) A := fld_at E.d rfl
theorem EditAt.fg (E : EditAt A d r c g tn sg st op C G) : fldM "Edit" "grips" (.ref d) A = .ok (.ref g) A := fld_at E.d rfl
theorem EditAt.fst (E : EditAt A d r c g tn sg st op C G) : fldM "Edit" "stands" (.ref d) A = .ok (stV st) A := fld_at E.d rfl
theorem EditAt.fo (E : EditAt A d r c g tn sg st op C G) : fldM "Edit" "is_open" (.ref d) A = .ok (.bl op) A := fld_at E.d rfl
theorem EditAt.fk (E : EditAt A d r c g tn sg st op C G) : fldM "Edit" "keeper" (.ref d) A = .ok .non A := fld_at E.d rfl
theorem EditAt.fr {A' : AH} {S : Nat → Prop} (E : EditAt A d r c g tn sg st op C G) (f : Fr S A A') (h1 : ¬ S d) (h2 : ¬ S c) (h3 : ¬ S g) : EditAt A' d r c g tn sg st op C G := ⟨f.same _ _ h1 E.d, f.same _ _ h2 E.c, f.same _ _ h3 E.g⟩
theorem set_back {n : Nat} {o o' : MO} (h : A[n]? = some o) : (A.set n o').set n o = A := by
  rw [List.set_set]
  apply List.ext_getElem?
  intro m
  by_cases z : n = m
  · subst z; rw [set_at h, h]
  · rw [set_ne z]
theorem set_same {n : Nat} {o : MO} (h : A[n]? = some o) : A.set n o = A := by
  have := set_back (o' := o) h
  rwa [List.set_set] at this
theorem locks_ok {g : FL} {ρ : ME} {v : List MV} (hg : ∀ B, g ρ B = .ok v B) : ∀ {ns : List Nat} {A : AH}, ns.Nodup → (∀ n ∈ ns, ∃ xs, A[n]? = some (.lst xs)) → aLocks ns g ρ A = .ok v A
  | [], A, _, _ => hg A
  | n :: ns, A, nd, h => by
    obtain ⟨xs, e⟩ := h n (List.mem_cons_self ..)
    rw [List.nodup_cons] at nd
    have ih := locks_ok hg (ns := ns) (A := A.set n (.lkl xs)) nd.2 fun m hm => by
      obtain ⟨ys, q⟩ := h m (List.mem_cons_of_mem _ hm)
      exact ⟨ys, by rw [set_ne (fun z => nd.1 (by rw [z]; exact hm))]; exact q⟩
    unfold aLocks aLock
    dsimp only
    rw [e]
    dsimp only [lkO]
    rw [ih]
    dsimp only
    rw [set_back e]
theorem lkd_ok {g : FL} {ρ : ME} {v : List MV} (hg : ∀ B, g ρ B = .ok v B) : aLkD g ρ A = .ok v A := by
  unfold aLkD
  refine locks_ok hg (List.Pairwise.filter _ List.nodup_range) fun n hn => ?_
  have := (List.mem_filter.mp hn).2
  split at this
  · rename_i xs q; exact ⟨xs, q⟩
  · cases this
theorem lbo_ok (R : RefsAt A r e t l T sp L (es ++ [MV.ref d])) (E : EditAt A d r c g tn sg st op C G) (cl : Closed A es) (hl : es.length ≤ 900) : F_Refs_locked_by_others [.ref r, .int tn] A = .ok (.lst []) A := by
  have hre : r ≠ e := at_ne R.r R.e (by intro z; cases z)
  have B1 : (A.set e (.lkl (es ++ [MV.ref d])))[r]? = some (.ins "Refs" [("edits", .ref e), ("table", .ref t), ("spot", spV sp), ("logs", .ref l)]) := by rw [set_ne (Ne.symm hre)]; exact R.r
  have fe : fldM "Refs" "edits" (.ref r) (A.set e (.lkl (es ++ [MV.ref d]))) = .ok (.ref e) (A.set e (.lkl (es ++ [MV.ref d]))) := fld_at B1 rfl
  have it : itV (A.set e (.lkl (es ++ [MV.ref d]))) (.ref e) = some ((es ++ [MV.ref d]).map id) := by
    unfold itV lklOf
    dsimp only [tupOf]
    rw [set_at R.e]
    rw [List.map_id]
  have z0 : (es ++ [MV.ref d]).flatMap (fun _ => ([] : List MV)) = [] := by simp
  unfold F_Refs_locked_by_others b_Refs_locked_by_others
  simp only [defM, sSeq, sIf, sSet, sRet, sRetN, sExpr, sNext, sFld_def, sSub, sRaise, eVar, eC, eBin, eUn, tB', eB, bNot, bAnd, bOr, bIf, eIf, eAnd, eOr, eNot, aNil, aCons, eTup, aLst, eFrz, eRef, pN, pA, pK, pAK, eCall, eMeth_def, eFld_def, eMake_def, bind_ok, bind_err, bind_bad, fs_ok, fs_err, fs_bad, List.map_cons, List.map_nil, List.length_cons, List.length_nil, List.replicate, List.cons_append, List.nil_append, List.getElem?_cons_zero, List.getElem?_cons_succ, List.set_cons_zero, List.set_cons_succ, sz0, sz1, sz2, sz3, sz4, sz5, if_true, and_self, Nat.reduceSub, Nat.reduceAdd, List.lookup_cons, List.lookup_nil, sLk, R.fe, sLock, R.e, lkO]
  rw [lc_ys (ys := es ++ [MV.ref d]) (inj := id) (h := fun _ => [])]
  · rw [z0]
    simp only [defM, sSeq, sIf, sSet, sRet, sRetN, sExpr, sNext, sFld_def, sSub, sRaise, eVar, eC, eBin, eUn, tB', eB, bNot, bAnd, bOr, bIf, eIf, eAnd, eOr, eNot, aNil, aCons, eTup, aLst, eFrz, eRef, pN, pA, pK, pAK, eCall, eMeth_def, eFld_def, eMake_def, bind_ok, bind_err, bind_bad, fs_ok, fs_err, fs_bad, List.map_cons, List.map_nil, List.length_cons, List.length_nil, List.replicate, List.cons_append, List.nil_append, List.getElem?_cons_zero, List.getElem?_cons_succ, List.set_cons_zero, List.set_cons_succ, sz0, sz1, sz2, sz3, sz4, sz5, if_true, and_self, Nat.reduceSub, Nat.reduceAdd, List.lookup_cons, List.lookup_nil, unlk, set_back R.e]
    rw [lkd_ok (v := [])]
    · simp only [defM, sSeq, sIf, sSet, sRet, sRetN, sExpr, sNext, sFld_def, sSub, sRaise, eVar, eC, eBin, eUn, tB', eB, bNot, bAnd, bOr, bIf, eIf, eAnd, eOr, eNot, aNil, aCons, eTup, aLst, eFrz, eRef, pN, pA, pK, pAK, eCall, eMeth_def, eFld_def, eMake_def, bind_ok, bind_err, bind_bad, fs_ok, fs_err, fs_bad, List.map_cons, List.map_nil, List.length_cons, List.length_nil, List.replicate, List.cons_append, List.nil_append, List.getElem?_cons_zero, List.getElem?_cons_succ, List.set_cons_zero, List.set_cons_succ, sz0, sz1, sz2, sz3, sz4, sz5, if_true, and_self, Nat.reduceSub, Nat.reduceAdd, List.lookup_cons, List.lookup_nil]
    · intro B
      simp only [defM, sSeq, sIf, sSet, sRet, sRetN, sExpr, sNext, sFld_def, sSub, sRaise, eVar, eC, eBin, eUn, tB', eB, bNot, bAnd, bOr, bIf, eIf, eAnd, eOr, eNot, aNil, aCons, eTup, aLst, eFrz, eRef, pN, pA, pK, pAK, eCall, eMeth_def, eFld_def, eMake_def, bind_ok, bind_err, bind_bad, fs_ok, fs_err, fs_bad, List.map_cons, List.map_nil, List.length_cons, List.length_nil, List.replicate, List.cons_append, List.nil_append, List.getElem?_cons_zero, List.getElem?_cons_succ, List.set_cons_zero, List.set_cons_succ, sz0, sz1, sz2, sz3, sz4, sz5, if_true, and_self, Nat.reduceSub, Nat.reduceAdd, List.lookup_cons, List.lookup_nil, aLc, iFrz]
      rfl
  · simp only [defM, sSeq, sIf, sSet, sRet, sRetN, sExpr, sNext, sFld_def, sSub, sRaise, eVar, eC, eBin, eUn, tB', eB, bNot, bAnd, bOr, bIf, eIf, eAnd, eOr, eNot, aNil, aCons, eTup, aLst, eFrz, eRef, pN, pA, pK, pAK, eCall, eMeth_def, eFld_def, eMake_def, bind_ok, bind_err, bind_bad, fs_ok, fs_err, fs_bad, List.map_cons, List.map_nil, List.length_cons, List.length_nil, List.replicate, List.cons_append, List.nil_append, List.getElem?_cons_zero, List.getElem?_cons_succ, List.set_cons_zero, List.set_cons_succ, sz0, sz1, sz2, sz3, sz4, sz5, if_true, and_self, Nat.reduceSub, Nat.reduceAdd, List.lookup_cons, List.lookup_nil, iAny, fe, it]
  · intro v hv
    refine ⟨[v], rfl, ?_⟩
    rcases List.mem_append.mp hv with hv | hv
    · obtain ⟨n, fs, rfl, a, o⟩ := cl v hv
      have hn : e ≠ n := at_ne R.e a (by intro z; cases z)
      have f : fldM "Edit" "is_open" (.ref n) (A.set e (.lkl (es ++ [MV.ref d]))) = .ok (.bl false) (A.set e (.lkl (es ++ [MV.ref d]))) := fld_at (by rw [set_ne hn]; exact a) o
      simp only [defM, sSeq, sIf, sSet, sRet, sRetN, sExpr, sNext, sFld_def, sSub, sRaise, eVar, eC, eBin, eUn, tB', eB, bNot, bAnd, bOr, bIf, eIf, eAnd, eOr, eNot, aNil, aCons, eTup, aLst, eFrz, eRef, pN, pA, pK, pAK, eCall, eMeth_def, eFld_def, eMake_def, bind_ok, bind_err, bind_bad, fs_ok, fs_err, fs_bad, List.map_cons, List.map_nil, List.length_cons, List.length_nil, List.replicate, List.cons_append, List.nil_append, List.getElem?_cons_zero, List.getElem?_cons_succ, List.set_cons_zero, List.set_cons_succ, sz0, sz1, sz2, sz3, sz4, sz5, if_true, and_self, Nat.reduceSub, Nat.reduceAdd, List.lookup_cons, List.lookup_nil, qElt, wipeM, setAllM, f]
    · rw [List.mem_singleton] at hv
      subst hv
      have hn : e ≠ d := at_ne R.e E.d (by intro z; cases z)
      have f : fldM "Edit" "is_open" (.ref d) (A.set e (.lkl (es ++ [MV.ref d]))) = .ok (.bl op) (A.set e (.lkl (es ++ [MV.ref d]))) := fld_at (by rw [set_ne hn]; exact E.d) rfl
      have f2 : fldM "Edit" "turn" (.ref d) (A.set e (.lkl (es ++ [MV.ref d]))) = .ok (.int tn) (A.set e (.lkl (es ++ [MV.ref d]))) := fld_at (by rw [set_ne hn]; exact E.d) rfl
      cases op with
      | true => simp only [defM, sSeq, sIf, sSet, sRet, sRetN, sExpr, sNext, sFld_def, sSub, sRaise, eVar, eC, eBin, eUn, tB', eB, bNot, bAnd, bOr, bIf, eIf, eAnd, eOr, eNot, aNil, aCons, eTup, aLst, eFrz, eRef, pN, pA, pK, pAK, eCall, eMeth_def, eFld_def, eMake_def, bind_ok, bind_err, bind_bad, fs_ok, fs_err, fs_bad, List.map_cons, List.map_nil, List.length_cons, List.length_nil, List.replicate, List.cons_append, List.nil_append, List.getElem?_cons_zero, List.getElem?_cons_succ, List.set_cons_zero, List.set_cons_succ, sz0, sz1, sz2, sz3, sz4, sz5, if_true, and_self, Nat.reduceSub, Nat.reduceAdd, List.lookup_cons, List.lookup_nil, qElt, wipeM, setAllM, f, f2, ne_int, decide_true, Bool.not_true]
      | false => simp only [defM, sSeq, sIf, sSet, sRet, sRetN, sExpr, sNext, sFld_def, sSub, sRaise, eVar, eC, eBin, eUn, tB', eB, bNot, bAnd, bOr, bIf, eIf, eAnd, eOr, eNot, aNil, aCons, eTup, aLst, eFrz, eRef, pN, pA, pK, pAK, eCall, eMeth_def, eFld_def, eMake_def, bind_ok, bind_err, bind_bad, fs_ok, fs_err, fs_bad, List.map_cons, List.map_nil, List.length_cons, List.length_nil, List.replicate, List.cons_append, List.nil_append, List.getElem?_cons_zero, List.getElem?_cons_succ, List.set_cons_zero, List.set_cons_succ, sz0, sz1, sz2, sz3, sz4, sz5, if_true, and_self, Nat.reduceSub, Nat.reduceAdd, List.lookup_cons, List.lookup_nil, qElt, wipeM, setAllM, f]
  · rw [z0]; rfl
theorem lock_ok (R : RefsAt A r e t l T sp L (es ++ [MV.ref d])) (E : EditAt A d r c g tn sg st op C G) (cl : Closed A es) (hl : es.length ≤ 900) (hg : G.length ≤ 900) {k : Str} : F_Edit_lock [.ref d, .str k] A = .ok .non (A.set g (.lst (G ++ [.str k]))) := by
  have m1 : mthB "Refs" "locked_by_others" (.ref r) A = true := mth_at R.r rfl
  have s0 : ∀ {A : AH}, sortedL [.lst []] A = .ok [] A := rfl
  have lw : lstW A (.ref g) = some (g, G) := by unfold lstW; dsimp only; rw [E.g]
  have lb : lstB A (.ref g) = true := by unfold lstB; rw [lstV_at E.g]; rfl
  have lt : G.length < 1000000 := by omega
  unfold F_Edit_lock b_Edit_lock
  simp only [defM, sSeq, sIf, sSet, sRet, sRetN, sExpr, sNext, sFld_def, sSub, sRaise, eVar, eC, eBin, eUn, tB', eB, bNot, bAnd, bOr, bIf, eIf, eAnd, eOr, eNot, aNil, aCons, eTup, aLst, eFrz, eRef, pN, pA, pK, pAK, eCall, eMeth_def, eFld_def, eMake_def, bind_ok, bind_err, bind_bad, fs_ok, fs_err, fs_bad, List.map_cons, List.map_nil, List.length_cons, List.length_nil, List.replicate, List.cons_append, List.nil_append, List.getElem?_cons_zero, List.getElem?_cons_succ, List.set_cons_zero, List.set_cons_succ, sz0, sz1, sz2, sz3, sz4, sz5, if_true, and_self, Nat.reduceSub, Nat.reduceAdd, List.lookup_cons, List.lookup_nil, sFor, iFrz, E.fh, E.ft, m1, lbo_ok R E cl hl, s0, runL, eApp, E.fg, lb, lw, if_pos lt]
theorem check_open_ok (E : EditAt A d r c g tn sg st true C G) : F_Edit_check_open [.ref d] A = .ok .non A := by
  unfold F_Edit_check_open b_Edit_check_open
  simp only [defM, sSeq, sIf, sSet, sRet, sRetN, sExpr, sNext, sFld_def, sSub, sRaise, eVar, eC, eBin, eUn, tB', eB, bNot, bAnd, bOr, bIf, eIf, eAnd, eOr, eNot, aNil, aCons, eTup, aLst, eFrz, eRef, pN, pA, pK, pAK, eCall, eMeth_def, eFld_def, eMake_def, bind_ok, bind_err, bind_bad, fs_ok, fs_err, fs_bad, List.map_cons, List.map_nil, List.length_cons, List.length_nil, List.replicate, List.cons_append, List.nil_append, List.getElem?_cons_zero, List.getElem?_cons_succ, List.set_cons_zero, List.set_cons_succ, sz0, sz1, sz2, sz3, sz4, sz5, if_true, and_self, Nat.reduceSub, Nat.reduceAdd, List.lookup_cons, List.lookup_nil, E.fo, Bool.not_true]
theorem check_open_no (E : EditAt A d r c g tn sg st false C G) : F_Edit_check_open [.ref d] A = .err "BadCommand" (mk_BadCommand (.str "closed")) A := by
  unfold F_Edit_check_open b_Edit_check_open
  simp only [defM, sSeq, sIf, sSet, sRet, sRetN, sExpr, sNext, sFld_def, sSub, sRaise, eVar, eC, eBin, eUn, tB', eB, bNot, bAnd, bOr, bIf, eIf, eAnd, eOr, eNot, aNil, aCons, eTup, aLst, eFrz, eRef, pN, pA, pK, pAK, eCall, eMeth_def, eFld_def, eMake_def, bind_ok, bind_err, bind_bad, fs_ok, fs_err, fs_bad, List.map_cons, List.map_nil, List.length_cons, List.length_nil, List.replicate, List.cons_append, List.nil_append, List.getElem?_cons_zero, List.getElem?_cons_succ, List.set_cons_zero, List.set_cons_succ, sz0, sz1, sz2, sz3, sz4, sz5, if_true, and_self, Nat.reduceSub, Nat.reduceAdd, List.lookup_cons, List.lookup_nil, E.fo, Bool.not_false]
/-- what stands behind old= -/
def OldOk (o : Option Str) : Prop := o = none ∨ o = some ("" : Str) ∨ ∃ x ∈ ids, o = some x
def noted (C : Tb Cl2) (k : Str) (v : Cl2) : Tb Cl2 := put (drop C k) k v
theorem call_ok (R : RefsAt A r e t l T sp L (es ++ [MV.ref d])) (E : EditAt A d r c g tn sg st op C G) (cl : Closed A es) (hl : es.length ≤ 900) (hg : G.length ≤ 900) (hC : C.length ≤ 900) {k : Str} {new old : Option Str} (ho : OldOk old) :
    F_Edit_call [.ref d, .str k, oV new, oV old] A = .ok .non ((A.set g (.lst (G ++ [.str k]))).set c (.dct (callV (noted C k (new, old))))) := by
  have hgc : g ≠ c := at_ne E.g E.c (by intro z; cases z)
  have hgd : g ≠ d := at_ne E.g E.d (by intro z; cases z)
  have hcd : c ≠ d := at_ne E.c E.d (by intro z; cases z)
  have m1 : mthB "Edit" "lock" (.ref d) A = true := mth_at E.d rfl
  have E1 : EditAt (A.set g (.lst (G ++ [.str k]))) d r c g tn sg st op C (G ++ [.str k]) := ⟨by rw [set_ne hgd]; exact E.d, by rw [set_ne hgc]; exact E.c, set_at E.g⟩
  generalize hB : A.set g (.lst (G ++ [.str k])) = B at E1
  have dv : dctV B (.ref c) = some (callV C) := dctV_at E1.c
  have dw : dctW B (.ref c) = some (c, callV C) := by unfold dctW; dsimp only; rw [E1.c]
  have lk := lock_ok R E cl hl hg (k := k)
  rw [hB] at lk
  have test : ∀ {k1 k2 : FS} {ρ : ME}, (sIf (bAnd (tB' (eBin notNM (eVar 3) (eC .non))) (bAnd (tB' (eBin neM (eVar 3) (eC (.str "")))) (bNot (tB' (eCall 1 0 (fun ms _ => ms) F_is_id (pA (aCons (eVar 3) aNil))))))) k1 k2) [some (.ref d), some (.str k), some (oV new), some (oV old)] A = k2 [some (.ref d), some (.str k), some (oV new), some (oV old)] A := by
    intro k1 k2 ρ
    rcases ho with rfl | rfl | ⟨x, hx, rfl⟩
    · simp only [defM, sSeq, sIf, sSet, sRet, sRetN, sExpr, sNext, sFld_def, sSub, sRaise, eVar, eC, eBin, eUn, tB', eB, bNot, bAnd, bOr, bIf, eIf, eAnd, eOr, eNot, aNil, aCons, eTup, aLst, eFrz, eRef, pN, pA, pK, pAK, eCall, eMeth_def, eFld_def, eMake_def, bind_ok, bind_err, bind_bad, fs_ok, fs_err, fs_bad, List.map_cons, List.map_nil, List.length_cons, List.length_nil, List.replicate, List.cons_append, List.nil_append, List.getElem?_cons_zero, List.getElem?_cons_succ, List.set_cons_zero, List.set_cons_succ, sz0, sz1, sz2, sz3, sz4, sz5, if_true, and_self, Nat.reduceSub, Nat.reduceAdd, List.lookup_cons, List.lookup_nil, oV, notNM, isN, Bool.not_true]
    · simp only [defM, sSeq, sIf, sSet, sRet, sRetN, sExpr, sNext, sFld_def, sSub, sRaise, eVar, eC, eBin, eUn, tB', eB, bNot, bAnd, bOr, bIf, eIf, eAnd, eOr, eNot, aNil, aCons, eTup, aLst, eFrz, eRef, pN, pA, pK, pAK, eCall, eMeth_def, eFld_def, eMake_def, bind_ok, bind_err, bind_bad, fs_ok, fs_err, fs_bad, List.map_cons, List.map_nil, List.length_cons, List.length_nil, List.replicate, List.cons_append, List.nil_append, List.getElem?_cons_zero, List.getElem?_cons_succ, List.set_cons_zero, List.set_cons_succ, sz0, sz1, sz2, sz3, sz4, sz5, if_true, and_self, Nat.reduceSub, Nat.reduceAdd, List.lookup_cons, List.lookup_nil, oV, notNM, isN, Bool.not_false, ne_str, decide_true, Bool.not_true]
    · have nx : ("" : Str) ∉ ids := by decide
      have n2 : x ≠ "" := fun z => nx (by rw [← z]; exact hx)
      simp only [defM, sSeq, sIf, sSet, sRet, sRetN, sExpr, sNext, sFld_def, sSub, sRaise, eVar, eC, eBin, eUn, tB', eB, bNot, bAnd, bOr, bIf, eIf, eAnd, eOr, eNot, aNil, aCons, eTup, aLst, eFrz, eRef, pN, pA, pK, pAK, eCall, eMeth_def, eFld_def, eMake_def, bind_ok, bind_err, bind_bad, fs_ok, fs_err, fs_bad, List.map_cons, List.map_nil, List.length_cons, List.length_nil, List.replicate, List.cons_append, List.nil_append, List.getElem?_cons_zero, List.getElem?_cons_succ, List.set_cons_zero, List.set_cons_succ, sz0, sz1, sz2, sz3, sz4, sz5, if_true, and_self, Nat.reduceSub, Nat.reduceAdd, List.lookup_cons, List.lookup_nil, oV, notNM, isN, Bool.not_false, ne_str, decide_eq_false n2, is_id_ok x hx, Bool.not_true]
  have pop : ePop2 (eFld "Edit" "calls" (eVar 0)) (eVar 1) (eC .non) [some (.ref d), some (.str k), some (oV new), some (oV old)] B = .ok (((get C k).map clV).getD .non) (B.set c (.dct (callV (drop C k)))) := by
    unfold ePop2
    simp only [defM, sSeq, sIf, sSet, sRet, sRetN, sExpr, sNext, sFld_def, sSub, sRaise, eVar, eC, eBin, eUn, tB', eB, bNot, bAnd, bOr, bIf, eIf, eAnd, eOr, eNot, aNil, aCons, eTup, aLst, eFrz, eRef, pN, pA, pK, pAK, eCall, eMeth_def, eFld_def, eMake_def, bind_ok, bind_err, bind_bad, fs_ok, fs_err, fs_bad, List.map_cons, List.map_nil, List.length_cons, List.length_nil, List.replicate, List.cons_append, List.nil_append, List.getElem?_cons_zero, List.getElem?_cons_succ, List.set_cons_zero, List.set_cons_succ, sz0, sz1, sz2, sz3, sz4, sz5, if_true, and_self, Nat.reduceSub, Nat.reduceAdd, List.lookup_cons, List.lookup_nil, E1.fc, dctB, dv, Option.isSome_some, dw, keyOf, callV, val_mapK]
    cases q : get C k with
    | none =>
      dsimp only [Option.map_none, Option.getD_none]
      have : drop C k = C := by
        unfold drop
        rw [List.filter_eq_self]
        intro p hp
        have := get_none.mp q
        refine decide_eq_true fun z => this (by rw [← z]; exact List.mem_map_of_mem (f := (·.1)) hp)
      rw [this]
      exact congrArg (Rs.ok MV.non) (set_same E1.c).symm
    | some v =>
      dsimp only [Option.map_some, Option.getD_some]
      rw [drop_mapK]
  have E2 : EditAt (B.set c (.dct (callV (drop C k)))) d r c g tn sg st op (drop C k) (G ++ [.str k]) := ⟨by rw [set_ne hcd]; exact E1.d, set_at E1.c, by rw [set_ne (Ne.symm hgc)]; exact E1.g⟩
  have l2 : (callV (drop C k)).length < 1000000 := by
    unfold callV
    rw [len_mapK]
    have : (drop C k).length ≤ C.length := List.length_filter_le _ _
    omega
  have st1 : setM (.ref c) (.str k) (clV (new, old)) (B.set c (.dct (callV (drop C k)))) = some (B.set c (.dct (callV (noted C k (new, old))))) := by
    unfold setM dctW
    dsimp only
    rw [E2.c]
    dsimp only [keyOf]
    rw [if_pos l2, List.set_set]
    unfold callV noted
    rw [put_mapK]
  unfold F_Edit_call b_Edit_call
  simp only [defM, sSeq, List.map_cons, List.map_nil, List.length_cons, List.length_nil, Nat.reduceSub, Nat.reduceAdd, List.replicate, List.append_nil]
  rw [test (ρ := [])]
  simp only [defM, sSeq, sIf, sSet, sRet, sRetN, sExpr, sNext, sFld_def, sSub, sRaise, eVar, eC, eBin, eUn, tB', eB, bNot, bAnd, bOr, bIf, eIf, eAnd, eOr, eNot, aNil, aCons, eTup, aLst, eFrz, eRef, pN, pA, pK, pAK, eCall, eMeth_def, eFld_def, eMake_def, bind_ok, bind_err, bind_bad, fs_ok, fs_err, fs_bad, List.map_cons, List.map_nil, List.length_cons, List.length_nil, List.replicate, List.cons_append, List.nil_append, List.getElem?_cons_zero, List.getElem?_cons_succ, List.set_cons_zero, List.set_cons_succ, sz0, sz1, sz2, sz3, sz4, sz5, if_true, and_self, Nat.reduceSub, Nat.reduceAdd, List.lookup_cons, List.lookup_nil, m1, lk, pop, E2.fc, show MV.tup [oV new, oV old] = clV (new, old) from rfl, st1]
theorem point_ok (R : RefsAt A r e t l T sp L (es ++ [MV.ref d])) (E : EditAt A d r c g tn sg st true C G) (cl : Closed A es) (hl : es.length ≤ 900) (hg : G.length ≤ 900) (hC : C.length ≤ 900) {k x : Str} {old : Option Str} (ho : OldOk old) (hk : k ∈ nms) (hx : x ∈ ids) :
    F_Edit_point [.ref d, .str k, .str x, oV old] A = .ok .non ((A.set g (.lst (G ++ [.str k]))).set c (.dct (callV (noted C k (some x, old))))) := by
  have m1 : mthB "Edit" "check_open" (.ref d) A = true := mth_at E.d rfl
  have m2 : mthB "Edit" "call" (.ref d) A = true := mth_at E.d rfl
  have q : F_Edit_call [.ref d, .str k, .str x, oV old] A = _ := call_ok R E cl hl hg hC (k := k) (new := some x) ho
  unfold F_Edit_point b_Edit_point
  simp only [defM, sSeq, sIf, sSet, sRet, sRetN, sExpr, sNext, sFld_def, sSub, sRaise, eVar, eC, eBin, eUn, tB', eB, bNot, bAnd, bOr, bIf, eIf, eAnd, eOr, eNot, aNil, aCons, eTup, aLst, eFrz, eRef, pN, pA, pK, pAK, eCall, eMeth_def, eFld_def, eMake_def, bind_ok, bind_err, bind_bad, fs_ok, fs_err, fs_bad, List.map_cons, List.map_nil, List.length_cons, List.length_nil, List.replicate, List.cons_append, List.nil_append, List.getElem?_cons_zero, List.getElem?_cons_succ, List.set_cons_zero, List.set_cons_succ, sz0, sz1, sz2, sz3, sz4, sz5, if_true, and_self, Nat.reduceSub, Nat.reduceAdd, List.lookup_cons, List.lookup_nil, m1, check_open_ok E, is_ref_ok k hk, is_id_ok x hx, Bool.not_true, m2, q]
theorem delete_ok (R : RefsAt A r e t l T sp L (es ++ [MV.ref d])) (E : EditAt A d r c g tn sg st true C G) (cl : Closed A es) (hl : es.length ≤ 900) (hg : G.length ≤ 900) (hC : C.length ≤ 900) {k : Str} {old : Option Str} (ho : OldOk old) (hk : k ∈ nms) :
    F_Edit_delete [.ref d, .str k, oV old] A = .ok .non ((A.set g (.lst (G ++ [.str k]))).set c (.dct (callV (noted C k (none, old))))) := by
  have m1 : mthB "Edit" "check_open" (.ref d) A = true := mth_at E.d rfl
  have m2 : mthB "Edit" "call" (.ref d) A = true := mth_at E.d rfl
  have q := call_ok R E cl hl hg hC (k := k) (new := none) ho
  unfold F_Edit_delete b_Edit_delete
  simp only [defM, sSeq, sIf, sSet, sRet, sRetN, sExpr, sNext, sFld_def, sSub, sRaise, eVar, eC, eBin, eUn, tB', eB, bNot, bAnd, bOr, bIf, eIf, eAnd, eOr, eNot, aNil, aCons, eTup, aLst, eFrz, eRef, pN, pA, pK, pAK, eCall, eMeth_def, eFld_def, eMake_def, bind_ok, bind_err, bind_bad, fs_ok, fs_err, fs_bad, List.map_cons, List.map_nil, List.length_cons, List.length_nil, List.replicate, List.cons_append, List.nil_append, List.getElem?_cons_zero, List.getElem?_cons_succ, List.set_cons_zero, List.set_cons_succ, sz0, sz1, sz2, sz3, sz4, sz5, if_true, and_self, Nat.reduceSub, Nat.reduceAdd, List.lookup_cons, List.lookup_nil, m1, check_open_ok E, is_ref_ok k hk, Bool.not_true, m2, show MV.non = oV none from rfl, q]
def stood (A : AH) (d r c g : Nat) (tn : Int) (sg : MV) (G : List MV) (p : Str × Str) : AH := (A.set g (.lst (G ++ [.str "HEAD"]))).set d (.ins "Edit" [("home", .ref r), ("turn", .int tn), ("signed", sg), ("calls", .ref c), ("grips", .ref g), ("stands", spV p), ("is_open", .bl true), ("keeper", .non)])
theorem stand_ok (R : RefsAt A r e t l T sp L (es ++ [MV.ref d])) (E : EditAt A d r c g tn sg st true C G) (cl : Closed A es) (hl : es.length ≤ 900) (hg : G.length ≤ 900) {p : Str × Str} (hp : SpOk p) : F_Edit_stand [.ref d, .str p.1, .str p.2] A = .ok .non (stood A d r c g tn sg G p) := by
  have hgd : g ≠ d := at_ne E.g E.d (by intro z; cases z)
  have m1 : mthB "Edit" "check_open" (.ref d) A = true := mth_at E.d rfl
  have m2 : mthB "Edit" "lock" (.ref d) A = true := mth_at E.d rfl
  have lk := lock_ok R E cl hl hg (k := "HEAD")
  have hd : (A.set g (.lst (G ++ [.str "HEAD"])))[d]? = _ := (set_ne hgd).trans E.d
  have pf : putFld "Edit" "stands" (.ref d) (spV p) (A.set g (.lst (G ++ [.str "HEAD"]))) = some (stood A d r c g tn sg G p) := putFld_at hd (by show 8 < 900; decide)
  obtain ⟨a, b⟩ := p
  unfold F_Edit_stand b_Edit_stand
  have pf' : putFld "Edit" "stands" (.ref d) (.tup [.str a, .str b]) (A.set g (.lst (G ++ [.str "HEAD"]))) = some (stood A d r c g tn sg G (a, b)) := pf
  rcases hp with ⟨h1, h2⟩ | ⟨h1, h2⟩
  · dsimp only at h1 h2
    subst h1
    have n1 : isiM [.str "ref", .ty "str"] A = .ok (.bl true) A := rfl
    have n2 : notInM (.str "ref") (.tup [.str "ref", .str "id"]) A = .ok (.bl false) A := by kernel_rfl
    have n3 : decide (("ref" : Str) = "id") = false := by decide
    simp only [defM, sSeq, sIf, sSet, sRet, sRetN, sExpr, sNext, sFld_def, sSub, sRaise, eVar, eC, eBin, eUn, tB', eB, bNot, bAnd, bOr, bIf, eIf, eAnd, eOr, eNot, aNil, aCons, eTup, aLst, eFrz, eRef, pN, pA, pK, pAK, eCall, eMeth_def, eFld_def, eMake_def, bind_ok, bind_err, bind_bad, fs_ok, fs_err, fs_bad, List.map_cons, List.map_nil, List.length_cons, List.length_nil, List.replicate, List.cons_append, List.nil_append, List.getElem?_cons_zero, List.getElem?_cons_succ, List.set_cons_zero, List.set_cons_succ, sz0, sz1, sz2, sz3, sz4, sz5, if_true, and_self, Nat.reduceSub, Nat.reduceAdd, List.lookup_cons, List.lookup_nil, m1, check_open_ok E, n1, n2, eq_str, decide_true, is_ref_ok b h2, n3, Bool.not_true, m2, lk, pf']
  · dsimp only at h1 h2
    subst h1
    have n1 : isiM [.str "id", .ty "str"] A = .ok (.bl true) A := rfl
    have n2 : notInM (.str "id") (.tup [.str "ref", .str "id"]) A = .ok (.bl false) A := by kernel_rfl
    have n3 : decide (("id" : Str) = "ref") = false := by decide
    simp only [defM, sSeq, sIf, sSet, sRet, sRetN, sExpr, sNext, sFld_def, sSub, sRaise, eVar, eC, eBin, eUn, tB', eB, bNot, bAnd, bOr, bIf, eIf, eAnd, eOr, eNot, aNil, aCons, eTup, aLst, eFrz, eRef, pN, pA, pK, pAK, eCall, eMeth_def, eFld_def, eMake_def, bind_ok, bind_err, bind_bad, fs_ok, fs_err, fs_bad, List.map_cons, List.map_nil, List.length_cons, List.length_nil, List.replicate, List.cons_append, List.nil_append, List.getElem?_cons_zero, List.getElem?_cons_succ, List.set_cons_zero, List.set_cons_succ, sz0, sz1, sz2, sz3, sz4, sz5, if_true, and_self, Nat.reduceSub, Nat.reduceAdd, List.lookup_cons, List.lookup_nil, m1, check_open_ok E, n1, n2, eq_str, decide_true, is_id_ok b h2, n3, Bool.not_true, m2, lk, pf']
def shut (A : AH) (d r c g : Nat) (tn : Int) (sg : MV) (st : Option (Str × Str)) : AH := A.set d (.ins "Edit" [("home", .ref r), ("turn", .int tn), ("signed", sg), ("calls", .ref c), ("grips", .ref g), ("stands", stV st), ("is_open", .bl false), ("keeper", .non)])
theorem drop_ok (E : EditAt A d r c g tn sg st true C G) : F_Edit_drop [.ref d] A = .ok .non (shut A d r c g tn sg st) := by
  have m1 : mthB "Edit" "check_open" (.ref d) A = true := mth_at E.d rfl
  have pf : putFld "Edit" "is_open" (.ref d) (.bl false) A = some (shut A d r c g tn sg st) := putFld_at E.d (by show 8 < 900; decide)
  unfold F_Edit_drop b_Edit_drop
  simp only [defM, sSeq, sIf, sSet, sRet, sRetN, sExpr, sNext, sFld_def, sSub, sRaise, eVar, eC, eBin, eUn, tB', eB, bNot, bAnd, bOr, bIf, eIf, eAnd, eOr, eNot, aNil, aCons, eTup, aLst, eFrz, eRef, pN, pA, pK, pAK, eCall, eMeth_def, eFld_def, eMake_def, bind_ok, bind_err, bind_bad, fs_ok, fs_err, fs_bad, List.map_cons, List.map_nil, List.length_cons, List.length_nil, List.replicate, List.cons_append, List.nil_append, List.getElem?_cons_zero, List.getElem?_cons_succ, List.set_cons_zero, List.set_cons_succ, sz0, sz1, sz2, sz3, sz4, sz5, if_true, and_self, Nat.reduceSub, Nat.reduceAdd, List.lookup_cons, List.lookup_nil, m1, check_open_ok E, pf]
end
end Rp
/-! Rp9: a new edit -/
namespace Rp
open PySem PySem.Spec PyProof.Rows Mv Rf
theorem at_mid {B l : AH} {o : MO} : (B ++ o :: l)[B.length]? = some o := by simp
theorem set_mid {B l : AH} {o o' : MO} : (B ++ o :: l).set B.length o' = B ++ o' :: l := by
  rw [List.set_append_right _ _ (Nat.le_refl _), Nat.sub_self]
  rfl
theorem putE {B l : AH} {n : Nat} {f : Str} {y : MV} {fs : List (Str × MV)} (hB : B.length = n) (hf : fs.length < 900) : putFld "Edit" f (.ref n) y (B ++ MO.ins "Edit" fs :: l) = some (B ++ MO.ins "Edit" (putFM f y fs) :: l) := by
  subst hB
  rw [putFld_at at_mid hf, set_mid]
section
variable {A : AH} {r e t l : Nat} {T : Tb Str} {sp : Str × Str} {L : Tb (List Ent)} {es : List MV}
theorem opened_ok (R : RefsAt A r e t l T sp L es) (hl : es.length ≤ 900) {v : MV} : F_Refs_opened [.ref r, v] A = .ok (.int (es.length + 1)) (A.set e (.lst (es ++ [v]))) := by
  have hre : e ≠ r := at_ne R.e R.r (by intro z; cases z)
  have lw : lstW A (.ref e) = some (e, es) := by unfold lstW; dsimp only; rw [R.e]
  have lb : lstB A (.ref e) = true := by unfold lstB; rw [lstV_at R.e]; rfl
  have lt : es.length < 1000000 := by omega
  have f : fldM "Refs" "edits" (.ref r) (A.set e (.lst (es ++ [v]))) = .ok (.ref e) (A.set e (.lst (es ++ [v]))) := fld_at (by rw [set_ne hre]; exact R.r) rfl
  have lv : lstV (A.set e (.lst (es ++ [v]))) (.ref e) = some (es ++ [v]) := lstV_at (set_at R.e)
  unfold F_Refs_opened b_Refs_opened
  simp only [defM, sSeq, sIf, sSet, sRet, sRetN, sExpr, sNext, sFld_def, sSub, sRaise, eVar, eC, eBin, eUn, tB', eB, bNot, bAnd, bOr, bIf, eIf, eAnd, eOr, eNot, aNil, aCons, eTup, aLst, eFrz, eRef, pN, pA, pK, pAK, eCall, eMeth_def, eFld_def, eMake_def, bind_ok, bind_err, bind_bad, fs_ok, fs_err, fs_bad, List.map_cons, List.map_nil, List.length_cons, List.length_nil, List.replicate, List.cons_append, List.nil_append, List.getElem?_cons_zero, List.getElem?_cons_succ, List.set_cons_zero, List.set_cons_succ, sz0, sz1, sz2, sz3, sz4, sz5, if_true, and_self, Nat.reduceSub, Nat.reduceAdd, List.lookup_cons, List.lookup_nil, eApp, R.fe, lb, lw, if_pos lt, f, lenM, tupOf, lv, List.length_append]
  simp
theorem edit_ok (R : RefsAt A r e t l T sp L es) (hl : es.length ≤ 900) {w x : Str} {tm : Int} (hw : w ∈ whos) (h0 : 0 ≤ tm) (h1 : tm ≤ 1000) (hx : x ∈ msgs) : ∃ A', F_Refs_edit [.ref r, .str w, .int tm, .str x] A = .ok (.ref A.length) A' ∧ RefsAt A' r e t l T sp L (es ++ [.ref A.length]) ∧
    EditAt A' A.length r (A.length + 1) (A.length + 2) (es.length + 1) (sgV w tm x) none true [] [] ∧ Fr (fun n => n = e) A A' ∧ A'.length = A.length + 3 := by
  have el := at_lt R.e
  have hre : e ≠ r := at_ne R.e R.r (by intro z; cases z)
  have hte : e ≠ t := at_ne R.e R.t (by intro z; cases z)
  have hle : e ≠ l := at_ne R.e R.l (by intro z; cases z)
  generalize hB : A.set e (.lst (es ++ [.ref A.length])) = B
  have lB : B.length = A.length := by rw [← hB, List.length_set]
  have f1 : Fr (fun n => n = e) A B := by rw [← hB]; exact Fr.set rfl
  have R1 : RefsAt (A ++ [MO.ins "Edit" [("home", .ref r)]]) r e t l T sp L es := R.fr (S := fun _ => False) Fr.app id id id id
  have op := opened_ok R1 hl (v := .ref A.length)
  rw [List.set_append_left _ _ el, hB] at op
  have m1 : mthB "Refs" "opened" (.ref r) (A ++ [MO.ins "Edit" [("home", .ref r)]]) = true := mth_at R1.r rfl
  have p1 : putFld "Edit" "home" (.ref A.length) (.ref r) (A ++ [MO.ins "Edit" []]) = some (A ++ [MO.ins "Edit" [("home", .ref r)]]) := putE rfl (by decide)
  have p2 : putFld "Edit" "turn" (.ref A.length) (.int (es.length + 1)) (B ++ [MO.ins "Edit" [("home", .ref r)]]) = some (B ++ [MO.ins "Edit" [("home", .ref r), ("turn", .int (es.length + 1))]]) := putE lB (by show 1 < 900; decide)
  have p3 : putFld "Edit" "signed" (.ref A.length) (sgV w tm x) (B ++ [MO.ins "Edit" [("home", .ref r), ("turn", .int (es.length + 1))]]) = some (B ++ [MO.ins "Edit" [("home", .ref r), ("turn", .int (es.length + 1)), ("signed", sgV w tm x)]]) := putE lB (by show 2 < 900; decide)
  have n4 : (B ++ [MO.ins "Edit" [("home", .ref r), ("turn", .int (es.length + 1)), ("signed", sgV w tm x)]]).length = A.length + 1 := by rw [List.length_append, lB]; rfl
  have p4 : putFld "Edit" "calls" (.ref A.length) (.ref (A.length + 1)) (B ++ [MO.ins "Edit" [("home", .ref r), ("turn", .int (es.length + 1)), ("signed", sgV w tm x)], .dct []]) = some (B ++ [MO.ins "Edit" [("home", .ref r), ("turn", .int (es.length + 1)), ("signed", sgV w tm x), ("calls", .ref (A.length + 1))], .dct []]) := putE lB (by show 3 < 900; decide)
  have n5 : (B ++ [MO.ins "Edit" [("home", .ref r), ("turn", .int (es.length + 1)), ("signed", sgV w tm x), ("calls", .ref (A.length + 1))], .dct []]).length = A.length + 2 := by rw [List.length_append, lB]; rfl
  have p5 : putFld "Edit" "grips" (.ref A.length) (.ref (A.length + 2)) (B ++ [MO.ins "Edit" [("home", .ref r), ("turn", .int (es.length + 1)), ("signed", sgV w tm x), ("calls", .ref (A.length + 1))], .dct [], .lst []]) = some (B ++ [MO.ins "Edit" [("home", .ref r), ("turn", .int (es.length + 1)), ("signed", sgV w tm x), ("calls", .ref (A.length + 1)), ("grips", .ref (A.length + 2))], .dct [], .lst []]) := putE lB (by show 4 < 900; decide)
  have p6 : putFld "Edit" "stands" (.ref A.length) .non (B ++ [MO.ins "Edit" [("home", .ref r), ("turn", .int (es.length + 1)), ("signed", sgV w tm x), ("calls", .ref (A.length + 1)), ("grips", .ref (A.length + 2))], .dct [], .lst []]) = some (B ++ [MO.ins "Edit" [("home", .ref r), ("turn", .int (es.length + 1)), ("signed", sgV w tm x), ("calls", .ref (A.length + 1)), ("grips", .ref (A.length + 2)), ("stands", .non)], .dct [], .lst []]) := putE lB (by show 5 < 900; decide)
  have p7 : putFld "Edit" "is_open" (.ref A.length) (.bl true) (B ++ [MO.ins "Edit" [("home", .ref r), ("turn", .int (es.length + 1)), ("signed", sgV w tm x), ("calls", .ref (A.length + 1)), ("grips", .ref (A.length + 2)), ("stands", .non)], .dct [], .lst []]) = some (B ++ [MO.ins "Edit" [("home", .ref r), ("turn", .int (es.length + 1)), ("signed", sgV w tm x), ("calls", .ref (A.length + 1)), ("grips", .ref (A.length + 2)), ("stands", .non), ("is_open", .bl true)], .dct [], .lst []]) := putE lB (by show 6 < 900; decide)
  have p8 : putFld "Edit" "keeper" (.ref A.length) .non (B ++ [MO.ins "Edit" [("home", .ref r), ("turn", .int (es.length + 1)), ("signed", sgV w tm x), ("calls", .ref (A.length + 1)), ("grips", .ref (A.length + 2)), ("stands", .non), ("is_open", .bl true)], .dct [], .lst []]) = some (B ++ [MO.ins "Edit" [("home", .ref r), ("turn", .int (es.length + 1)), ("signed", sgV w tm x), ("calls", .ref (A.length + 1)), ("grips", .ref (A.length + 2)), ("stands", .non), ("is_open", .bl true), ("keeper", .non)], .dct [], .lst []]) := putE lB (by show 7 < 900; decide)
  have a4 : ∀ {X : MO}, B ++ [X] ++ [MO.dct []] = B ++ [X, .dct []] := by intro X; rw [List.append_assoc]; rfl
  have a5 : ∀ {X : MO}, B ++ [X, MO.dct []] ++ [MO.lst []] = B ++ [X, .dct [], .lst []] := by intro X; rw [List.append_assoc]; rfl
  refine ⟨B ++ [MO.ins "Edit" [("home", .ref r), ("turn", .int (es.length + 1)), ("signed", sgV w tm x), ("calls", .ref (A.length + 1)), ("grips", .ref (A.length + 2)), ("stands", .non), ("is_open", .bl true), ("keeper", .non)], .dct [], .lst []], ?_, ?_, ⟨?_, ?_, ?_⟩, ?_, ?_⟩
  · unfold F_Refs_edit b_Refs_edit
    simp only [defM, sSeq, sIf, sSet, sRet, sRetN, sExpr, sNext, sFld_def, sSub, sRaise, eVar, eC, eBin, eUn, tB', eB, bNot, bAnd, bOr, bIf, eIf, eAnd, eOr, eNot, aNil, aCons, eTup, aLst, eFrz, eRef, pN, pA, pK, pAK, eCall, eMeth_def, eFld_def, eMake_def, bind_ok, bind_err, bind_bad, fs_ok, fs_err, fs_bad, List.map_cons, List.map_nil, List.length_cons, List.length_nil, List.replicate, List.cons_append, List.nil_append, List.getElem?_cons_zero, List.getElem?_cons_succ, List.set_cons_zero, List.set_cons_succ, sz0, sz1, sz2, sz3, sz4, sz5, if_true, and_self, Nat.reduceSub, Nat.reduceAdd, List.lookup_cons, List.lookup_nil, is_who_ok w hw, is_time_ok h0 h1, is_text_ok x hx, Bool.not_true, show MV.tup [.str w, .int tm, .str x] = sgV w tm x from rfl]
    unfold F_Edit___init__ b_Edit___init__
    simp only [defM, sSeq, sIf, sSet, sRet, sRetN, sExpr, sNext, sFld_def, sSub, sRaise, eVar, eC, eBin, eUn, tB', eB, bNot, bAnd, bOr, bIf, eIf, eAnd, eOr, eNot, aNil, aCons, eTup, aLst, eFrz, eRef, pN, pA, pK, pAK, eCall, eMeth_def, eFld_def, eMake_def, bind_ok, bind_err, bind_bad, fs_ok, fs_err, fs_bad, List.map_cons, List.map_nil, List.length_cons, List.length_nil, List.replicate, List.cons_append, List.nil_append, List.getElem?_cons_zero, List.getElem?_cons_succ, List.set_cons_zero, List.set_cons_succ, sz0, sz1, sz2, sz3, sz4, sz5, if_true, and_self, Nat.reduceSub, Nat.reduceAdd, List.lookup_cons, List.lookup_nil, p1, m1, op, p2, p3, eDict0, n4, a4, p4, n5, a5, p5, p6, p7, p8]
  · refine ⟨app_at (f1.same _ _ (Ne.symm hre) R.r), app_at ?_, app_at (f1.same _ _ (Ne.symm hte) R.t), app_at (f1.same _ _ (Ne.symm hle) R.l)⟩
    rw [← hB]
    exact set_at R.e
  · rw [← lB]; exact at_mid
  · rw [← lB]
    show (B ++ [_, _, _])[B.length + 1]? = _
    rw [List.getElem?_append_right (by omega)]
    simp
    rfl
  · rw [← lB]
    show (B ++ [_, _, _])[B.length + 2]? = _
    rw [List.getElem?_append_right (by omega)]
    simp
  · exact f1.trans Fr.app
  · rw [List.length_append, lB]; rfl
end
end Rp
/-! RpA: Edit.check -/
namespace Rp
open PySem PySem.Spec PyProof.Rows Mv Rf
def isSt (T : Tb Str) (k : Str) (p : Cl2) : Bool := !decide (p.2 = some ("" : Str)) && !decide (get T k = p.2)
def staleOf (T : Tb Str) : Tb Cl2 → Option Str
  | [] => none
  | (k, p) :: C => if isSt T k p then some k else staleOf T C
def appl1 (T : Tb Str) (k : Str) (p : Cl2) : Tb Str := match p.1 with
  | none => drop T k
  | some v => put (drop T k) k v
def appl (T : Tb Str) : Tb Cl2 → Tb Str
  | [] => T
  | (k, p) :: C => appl (appl1 T k p) C
def itm (p : Str × Cl2) : MV := .tup [.str p.1, clV p.2]
theorem items_call (C : Tb Cl2) : (callV C).map (fun p => MV.tup [keyM p.1, p.2]) = C.map itm := by
  unfold callV mapK
  rw [List.map_map]
  rfl
abbrev g3 : MV → Option (List MV) := gTupM 2 (gConsM gNm (gConsM (gTupM 2 (gConsM gNm (gConsM gNm gNilM))) gNilM))
theorem g3_itm (p : Str × Cl2) : g3 (itm p) = some [.str p.1, oV p.2.1, oV p.2.2] := rfl
theorem ne_old {o : Option Str} {A : AH} : neM (oV o) (.str "") A = .ok (.bl (!decide (o = some ("" : Str)))) A := ne_o (b := some ("" : Str))
/-- the loop that looks for what is stale -/
theorem stale_loop {B : AH} {T : Tb Str} {x0 x1 x5 : Option MV} {body : FS} (hb : ∀ (p : Str × Cl2), body [x0, x1, some (.str p.1), some (oV p.2.1), some (oV p.2.2), x5] B = if isSt T p.1 p.2 then .err "Stale" (mk_Stale (.str p.1)) [x0, x1, some (.str p.1), some (oV p.2.1), some (oV p.2.2), x5] B else .nx [x0, x1, some (.str p.1), some (oV p.2.1), some (oV p.2.2), x5] B) :
    ∀ (C : Tb Cl2) (a b c : Option MV), ∃ a' b' c', runL (turn [2, 3, 4] g3 body) (C.map itm) [x0, x1, a, b, c, x5] B = match staleOf T C with
      | none => .nx [x0, x1, a', b', c', x5] B
      | some k => .err "Stale" (mk_Stale (.str k)) [x0, x1, a', b', c', x5] B
  | [], a, b, c => ⟨a, b, c, rfl⟩
  | p :: C, a, b, c => by
    have e : turn [2, 3, 4] g3 body (itm p) [x0, x1, a, b, c, x5] B = body [x0, x1, some (.str p.1), some (oV p.2.1), some (oV p.2.2), x5] B := rfl
    by_cases h : isSt T p.1 p.2 = true
    · refine ⟨some (.str p.1), some (oV p.2.1), some (oV p.2.2), ?_⟩
      rw [List.map_cons]
      unfold runL
      rw [e, hb, if_pos h]
      unfold staleOf
      rw [if_pos h]
    · obtain ⟨a', b', c', q⟩ := stale_loop hb C (some (.str p.1)) (some (oV p.2.1)) (some (oV p.2.2))
      refine ⟨a', b', c', ?_⟩
      rw [List.map_cons]
      unfold runL
      rw [e, hb, if_neg h]
      dsimp only
      rw [q]
      conv => rhs; unfold staleOf
      rw [if_neg h]
theorem drop_same {β : Type} {T : Tb β} {k : Str} (h : get T k = none) : drop T k = T := by
  unfold drop
  rw [List.filter_eq_self]
  intro p hp
  exact decide_eq_true fun z => get_none.mp h (by rw [← z]; exact List.mem_map_of_mem (f := (·.1)) hp)
/-- values.pop(k, None), values[k] = v -/
theorem pop_tab {B : AH} {v : Nat} {U : Tb Str} {k : Str} {fo fe : FE} {ρ : ME} (h : B[v]? = some (.dct (tabV U))) (h1 : fo ρ B = .ok (.ref v) B) (h2 : fe ρ B = .ok (.str k) B) : ePop2 fo fe (eC .non) ρ B = .ok (oV (get U k)) (B.set v (.dct (tabV (drop U k)))) := by
  unfold ePop2
  have dv : dctV B (.ref v) = some (tabV U) := dctV_at h
  have dw : dctW B (.ref v) = some (v, tabV U) := by unfold dctW; dsimp only; rw [h]
  simp only [defM, sSeq, sIf, sSet, sRet, sRetN, sExpr, sNext, sFld_def, sSub, sRaise, eVar, eC, eBin, eUn, tB', eB, bNot, bAnd, bOr, bIf, eIf, eAnd, eOr, eNot, aNil, aCons, eTup, aLst, eFrz, eRef, pN, pA, pK, pAK, eCall, eMeth_def, eFld_def, eMake_def, bind_ok, bind_err, bind_bad, fs_ok, fs_err, fs_bad, List.map_cons, List.map_nil, List.length_cons, List.length_nil, List.replicate, List.cons_append, List.nil_append, List.getElem?_cons_zero, List.getElem?_cons_succ, List.set_cons_zero, List.set_cons_succ, sz0, sz1, sz2, sz3, sz4, sz5, if_true, and_self, Nat.reduceSub, Nat.reduceAdd, List.lookup_cons, List.lookup_nil, h1, dctB, dv, Option.isSome_some, h2, dw, keyOf, tabV, val_mapK]
  cases q : get U k with
  | none =>
    rw [drop_same q]
    exact congrArg (Rs.ok MV.non) (set_same h).symm
  | some x =>
    dsimp only [Option.map_some]
    rw [drop_mapK]
    rfl
theorem sub_tab {B : AH} {v : Nat} {U : Tb Str} {k x : Str} (h : B[v]? = some (.dct (tabV U))) (hl : U.length < 1000) : setM (.ref v) (.str k) (.str x) B = some (B.set v (.dct (tabV (put U k x)))) := by
  have l2 : (tabV U).length < 1000000 := by unfold tabV; rw [len_mapK]; omega
  unfold setM dctW
  dsimp only
  rw [h]
  dsimp only [keyOf]
  rw [if_pos l2]
  unfold tabV
  rw [put_mapK]
theorem keysT_len {T : Tb Str} (h : TabOk T) : T.length < 64 := by
  have := h.len
  unfold keys at this
  rwa [List.length_map] at this
structure CallsOk (C : Tb Cl2) : Prop where
  nd : (keys C).Nodup
  all : ∀ p ∈ C, p.1 ∈ nms ∧ (∀ x, p.2.1 = some x → x ∈ ids) ∧ OldOk p.2.2
theorem appl1_ok {T : Tb Str} {k : Str} {p : Cl2} (h : TabOk T) (hk : k ∈ nms) (hv : ∀ x, p.1 = some x → x ∈ ids) : TabOk (appl1 T k p) := by
  unfold appl1
  split
  · exact ⟨nodup_drop h.nd, all_drop (P := fun a b => a ∈ nms ∧ b ∈ ids) h.all⟩
  · rename_i v e
    exact ⟨nodup_put (nodup_drop h.nd), all_put (P := fun a b => a ∈ nms ∧ b ∈ ids) (all_drop (P := fun a b => a ∈ nms ∧ b ∈ ids) h.all) ⟨hk, hv v e⟩⟩
theorem appl_ok : ∀ {C : Tb Cl2} {T : Tb Str}, TabOk T → (∀ p ∈ C, p.1 ∈ nms ∧ (∀ x, p.2.1 = some x → x ∈ ids) ∧ OldOk p.2.2) → TabOk (appl T C)
  | [], T, h, _ => h
  | (k, p) :: C, T, h, hc => by
    show TabOk (appl (appl1 T k p) C)
    exact appl_ok (appl1_ok h (hc _ (List.mem_cons_self ..)).1 (hc _ (List.mem_cons_self ..)).2.1) fun q hq => hc q (List.mem_cons_of_mem _ hq)
/-- the loop that makes the new table -/
theorem appl_loop {B : AH} {x0 x5 : Option MV} {v : Nat} {body : FS} (hb : ∀ (U : Tb Str) (p : Str × Cl2), TabOk U → body [x0, some (.ref v), some (.str p.1), some (oV p.2.1), some (oV p.2.2), x5] (B ++ [.dct (tabV U)]) = .nx [x0, some (.ref v), some (.str p.1), some (oV p.2.1), some (oV p.2.2), x5] (B ++ [.dct (tabV (appl1 U p.1 p.2))])) :
    ∀ (C : Tb Cl2) (U : Tb Str) (a b c : Option MV), TabOk U → (∀ p ∈ C, p.1 ∈ nms ∧ (∀ x, p.2.1 = some x → x ∈ ids) ∧ OldOk p.2.2) → ∃ a' b' c', runL (turn [2, 3, 4] g3 body) (C.map itm) [x0, some (.ref v), a, b, c, x5] (B ++ [.dct (tabV U)]) = .nx [x0, some (.ref v), a', b', c', x5] (B ++ [.dct (tabV (appl U C))])
  | [], U, a, b, c, _, _ => ⟨a, b, c, rfl⟩
  | p :: C, U, a, b, c, hU, hC => by
    have e : ∀ B, turn [2, 3, 4] g3 body (itm p) [x0, some (.ref v), a, b, c, x5] B = body [x0, some (.ref v), some (.str p.1), some (oV p.2.1), some (oV p.2.2), x5] B := fun _ => rfl
    obtain ⟨a', b', c', q⟩ := appl_loop hb C (appl1 U p.1 p.2) (some (.str p.1)) (some (oV p.2.1)) (some (oV p.2.2)) (appl1_ok hU (hC p (List.mem_cons_self ..)).1 (hC p (List.mem_cons_self ..)).2.1) fun q hq => hC q (List.mem_cons_of_mem _ hq)
    refine ⟨a', b', c', ?_⟩
    rw [List.map_cons]
    unfold runL
    rw [e, hb U p hU]
    dsimp only
    rw [q]
    rfl
section
variable {A : AH} {r e t l d c g : Nat} {T : Tb Str} {sp : Str × Str} {L : Tb (List Ent)} {es : List MV} {tn : Int} {sg : MV} {st : Option (Str × Str)} {C : Tb Cl2} {G : List MV}
/-- how check ends -/
def checkR (A : AH) (T : Tb Str) (C : Tb Cl2) : Rs MV := match staleOf T C with
  | some k => .err "Stale" (mk_Stale (.str k)) (A ++ [.dct (tabV T)])
  | none => if pfx (keys (appl T C)) then .err "BadRef" (mk_BadRef (.str "one reference is a prefix of another")) (A ++ [.dct (tabV (appl T C))]) else .ok (.ref A.length) (A ++ [.dct (tabV (appl T C))])
theorem check_ok (R : RefsAt A r e t l T sp L es) (E : EditAt A d r c g tn sg st true C G) (hct : c ≠ t) (hT : TabOk T) (hC : CallsOk C) : F_Edit_check [.ref d] A = checkR A T C := by
  have cl := at_lt E.c
  have hdc : c ≠ d := at_ne E.c E.d (by intro z; cases z)
  have hrc : c ≠ r := at_ne E.c R.r (by intro z; cases z)
  have m1 : mthB "Edit" "check_open" (.ref d) A = true := mth_at E.d rfl
  have dm : dictM [.ref t] A = .ok (.ref A.length) (A ++ [.dct (tabV T)]) := by
    unfold dictM
    dsimp only
    rw [R.dt]
  generalize hA1 : A ++ [MO.dct (tabV T)] = A1 at dm
  have c1 : A1[c]? = some (.dct (callV C)) := by rw [← hA1]; exact app_at E.c
  have fc : fldM "Edit" "calls" (.ref d) A1 = .ok (.ref c) A1 := by rw [← hA1]; exact fld_at (app_at E.d) rfl
  have eB : A1.set c (.lkd (callV C)) = A.set c (.lkd (callV C)) ++ [MO.dct (tabV T)] := by rw [← hA1, List.set_append_left _ _ cl]
  generalize hAc : A.set c (.lkd (callV C)) = Ac at eB
  have lAc : Ac.length = A.length := by rw [← hAc, List.length_set]
  have back : ∀ U : Tb Str, (Ac ++ [MO.dct (tabV U)]).set c (.dct (callV C)) = A ++ [.dct (tabV U)] := fun U => by rw [List.set_append_left _ _ (by rw [lAc]; exact cl), ← hAc, set_back E.c]
  have dB : ∀ U : Tb Str, (Ac ++ [MO.dct (tabV U)])[d]? = A[d]? := fun U => by rw [E.d]; exact app_at (by rw [← hAc, set_ne hdc]; exact E.d)
  have rB : ∀ U : Tb Str, (Ac ++ [MO.dct (tabV U)])[r]? = A[r]? := fun U => by rw [R.r]; exact app_at (by rw [← hAc, set_ne hrc]; exact R.r)
  have tB : ∀ U : Tb Str, (Ac ++ [MO.dct (tabV U)])[t]? = A[t]? := fun U => by rw [R.t]; exact app_at (by rw [← hAc, set_ne hct]; exact R.t)
  have cB : ∀ U : Tb Str, (Ac ++ [MO.dct (tabV U)])[c]? = some (.lkd (callV C)) := fun U => app_at (by rw [← hAc]; exact set_at E.c)
  have vB : ∀ U : Tb Str, (Ac ++ [MO.dct (tabV U)])[A.length]? = some (.dct (tabV U)) := fun U => by rw [← lAc]; exact new_at
  have sB : ∀ {U : Tb Str} {o : MO}, (Ac ++ [MO.dct (tabV U)]).set A.length o = Ac ++ [o] := by intro U o; rw [← lAc]; exact set_mid
  have fcB : ∀ U : Tb Str, fldM "Edit" "calls" (.ref d) (Ac ++ [MO.dct (tabV U)]) = .ok (.ref c) (Ac ++ [MO.dct (tabV U)]) := fun U => fld_at (by rw [dB, E.d]) rfl
  have fhB : ∀ U : Tb Str, fldM "Edit" "home" (.ref d) (Ac ++ [MO.dct (tabV U)]) = .ok (.ref r) (Ac ++ [MO.dct (tabV U)]) := fun U => fld_at (by rw [dB, E.d]) rfl
  have ftB : ∀ U : Tb Str, fldM "Refs" "table" (.ref r) (Ac ++ [MO.dct (tabV U)]) = .ok (.ref t) (Ac ++ [MO.dct (tabV U)]) := fun U => fld_at (by rw [rB, R.r]) rfl
  have dtB : ∀ U : Tb Str, dctV (Ac ++ [MO.dct (tabV U)]) (.ref t) = some (tabV T) := fun U => dctV_at (by rw [tB, R.t])
  have lkB : ∀ U : Tb Str, lkdOf (Ac ++ [MO.dct (tabV U)]) (.ref c) = some (callV C) := fun U => by unfold lkdOf; dsimp only; rw [cB]
  obtain ⟨a', b', c', h1⟩ := stale_loop (B := Ac ++ [MO.dct (tabV T)]) (T := T) (x0 := some (.ref d)) (x1 := some (.ref A.length)) (x5 := none) (body := sIf (bAnd (tB' (eBin neM (eVar 4) (eC (.str "")))) (tB' (eBin neM (eGet1 (eFld "Refs" "table" (eFld "Edit" "home" (eVar 0))) (eVar 2)) (eVar 4)))) (sRaise "Stale" mk_Stale (eVar 2)) sNext) (fun p => by
    have g1 := get1_tab (k := p.1) (fo := eFld "Refs" "table" (eFld "Edit" "home" (eVar 0))) (fe := eVar 2) (ρ := [some (.ref d), some (.ref A.length), some (.str p.1), some (oV p.2.1), some (oV p.2.2), none]) (dtB T) (by simp only [defM, sSeq, sIf, sSet, sRet, sRetN, sExpr, sNext, sFld_def, sSub, sRaise, eVar, eC, eBin, eUn, tB', eB, bNot, bAnd, bOr, bIf, eIf, eAnd, eOr, eNot, aNil, aCons, eTup, aLst, eFrz, eRef, pN, pA, pK, pAK, eCall, eMeth_def, eFld_def, eMake_def, bind_ok, bind_err, bind_bad, fs_ok, fs_err, fs_bad, List.map_cons, List.map_nil, List.length_cons, List.length_nil, List.replicate, List.cons_append, List.nil_append, List.getElem?_cons_zero, List.getElem?_cons_succ, List.set_cons_zero, List.set_cons_succ, sz0, sz1, sz2, sz3, sz4, sz5, if_true, and_self, Nat.reduceSub, Nat.reduceAdd, List.lookup_cons, List.lookup_nil, fhB, ftB]) (by simp only [defM, sSeq, sIf, sSet, sRet, sRetN, sExpr, sNext, sFld_def, sSub, sRaise, eVar, eC, eBin, eUn, tB', eB, bNot, bAnd, bOr, bIf, eIf, eAnd, eOr, eNot, aNil, aCons, eTup, aLst, eFrz, eRef, pN, pA, pK, pAK, eCall, eMeth_def, eFld_def, eMake_def, bind_ok, bind_err, bind_bad, fs_ok, fs_err, fs_bad, List.map_cons, List.map_nil, List.length_cons, List.length_nil, List.replicate, List.cons_append, List.nil_append, List.getElem?_cons_zero, List.getElem?_cons_succ, List.set_cons_zero, List.set_cons_succ, sz0, sz1, sz2, sz3, sz4, sz5, if_true, and_self, Nat.reduceSub, Nat.reduceAdd, List.lookup_cons, List.lookup_nil])
    simp only [defM, sSeq, sIf, sSet, sRet, sRetN, sExpr, sNext, sFld_def, sSub, sRaise, eVar, eC, eBin, eUn, tB', eB, bNot, bAnd, bOr, bIf, eIf, eAnd, eOr, eNot, aNil, aCons, eTup, aLst, eFrz, eRef, pN, pA, pK, pAK, eCall, eMeth_def, eFld_def, eMake_def, bind_ok, bind_err, bind_bad, fs_ok, fs_err, fs_bad, List.map_cons, List.map_nil, List.length_cons, List.length_nil, List.replicate, List.cons_append, List.nil_append, List.getElem?_cons_zero, List.getElem?_cons_succ, List.set_cons_zero, List.set_cons_succ, sz0, sz1, sz2, sz3, sz4, sz5, if_true, and_self, Nat.reduceSub, Nat.reduceAdd, List.lookup_cons, List.lookup_nil, ne_old, g1, ne_o]
    unfold isSt
    cases decide (p.2.2 = some ("" : Str)) with
    | true => rfl
    | false => simp only [defM, sSeq, sIf, sSet, sRet, sRetN, sExpr, sNext, sFld_def, sSub, sRaise, eVar, eC, eBin, eUn, tB', eB, bNot, bAnd, bOr, bIf, eIf, eAnd, eOr, eNot, aNil, aCons, eTup, aLst, eFrz, eRef, pN, pA, pK, pAK, eCall, eMeth_def, eFld_def, eMake_def, bind_ok, bind_err, bind_bad, fs_ok, fs_err, fs_bad, List.map_cons, List.map_nil, List.length_cons, List.length_nil, List.replicate, List.cons_append, List.nil_append, List.getElem?_cons_zero, List.getElem?_cons_succ, List.set_cons_zero, List.set_cons_succ, sz0, sz1, sz2, sz3, sz4, sz5, if_true, and_self, Nat.reduceSub, Nat.reduceAdd, List.lookup_cons, List.lookup_nil, Bool.not_false, Bool.true_and, g1, ne_o]; cases decide (get T p.1 = p.2.2) <;> rfl) C none none none
  unfold F_Edit_check b_Edit_check checkR
  simp only [defM, sSeq, sIf, sSet, sRet, sRetN, sExpr, sNext, sFld_def, sSub, sRaise, eVar, eC, eBin, eUn, tB', eB, bNot, bAnd, bOr, bIf, eIf, eAnd, eOr, eNot, aNil, aCons, eTup, aLst, eFrz, eRef, pN, pA, pK, pAK, eCall, eMeth_def, eFld_def, eMake_def, bind_ok, bind_err, bind_bad, fs_ok, fs_err, fs_bad, List.map_cons, List.map_nil, List.length_cons, List.length_nil, List.replicate, List.cons_append, List.nil_append, List.getElem?_cons_zero, List.getElem?_cons_succ, List.set_cons_zero, List.set_cons_succ, sz0, sz1, sz2, sz3, sz4, sz5, if_true, and_self, Nat.reduceSub, Nat.reduceAdd, List.lookup_cons, List.lookup_nil, m1, check_open_ok E, E.fh, R.ft, dm, sLk, fc, sLock, c1, lkO, eB, sFor, Mv.iItems, fcB, lkB, items_call, h1]
  cases hs : staleOf T C with
  | some k =>
    simp only [defM, sSeq, sIf, sSet, sRet, sRetN, sExpr, sNext, sFld_def, sSub, sRaise, eVar, eC, eBin, eUn, tB', eB, bNot, bAnd, bOr, bIf, eIf, eAnd, eOr, eNot, aNil, aCons, eTup, aLst, eFrz, eRef, pN, pA, pK, pAK, eCall, eMeth_def, eFld_def, eMake_def, bind_ok, bind_err, bind_bad, fs_ok, fs_err, fs_bad, List.map_cons, List.map_nil, List.length_cons, List.length_nil, List.replicate, List.cons_append, List.nil_append, List.getElem?_cons_zero, List.getElem?_cons_succ, List.set_cons_zero, List.set_cons_succ, sz0, sz1, sz2, sz3, sz4, sz5, if_true, and_self, Nat.reduceSub, Nat.reduceAdd, List.lookup_cons, List.lookup_nil, unlk, back]
  | none =>
    simp only [defM, sSeq, sIf, sSet, sRet, sRetN, sExpr, sNext, sFld_def, sSub, sRaise, eVar, eC, eBin, eUn, tB', eB, bNot, bAnd, bOr, bIf, eIf, eAnd, eOr, eNot, aNil, aCons, eTup, aLst, eFrz, eRef, pN, pA, pK, pAK, eCall, eMeth_def, eFld_def, eMake_def, bind_ok, bind_err, bind_bad, fs_ok, fs_err, fs_bad, List.map_cons, List.map_nil, List.length_cons, List.length_nil, List.replicate, List.cons_append, List.nil_append, List.getElem?_cons_zero, List.getElem?_cons_succ, List.set_cons_zero, List.set_cons_succ, sz0, sz1, sz2, sz3, sz4, sz5, if_true, and_self, Nat.reduceSub, Nat.reduceAdd, List.lookup_cons, List.lookup_nil, unlk, back, hA1, fc, c1, eB, fcB, lkB, items_call]
    obtain ⟨a2, b2, c2, h2⟩ := appl_loop (B := Ac) (x0 := some (.ref d)) (x5 := none) (v := A.length) (body := sSeq (sExpr (ePop2 (eVar 1) (eVar 2) (eC .non))) (sIf (tB' (eBin notNM (eVar 3) (eC .non))) (sSub (eVar 3) (eVar 1) (eVar 2)) sNext)) (fun U p hU => by
      have g1 := pop_tab (k := p.1) (fo := eVar 1) (fe := eVar 2) (ρ := [some (.ref d), some (.ref A.length), some (.str p.1), some (oV p.2.1), some (oV p.2.2), none]) (vB U) (by simp only [defM, sSeq, sIf, sSet, sRet, sRetN, sExpr, sNext, sFld_def, sSub, sRaise, eVar, eC, eBin, eUn, tB', eB, bNot, bAnd, bOr, bIf, eIf, eAnd, eOr, eNot, aNil, aCons, eTup, aLst, eFrz, eRef, pN, pA, pK, pAK, eCall, eMeth_def, eFld_def, eMake_def, bind_ok, bind_err, bind_bad, fs_ok, fs_err, fs_bad, List.map_cons, List.map_nil, List.length_cons, List.length_nil, List.replicate, List.cons_append, List.nil_append, List.getElem?_cons_zero, List.getElem?_cons_succ, List.set_cons_zero, List.set_cons_succ, sz0, sz1, sz2, sz3, sz4, sz5, if_true, and_self, Nat.reduceSub, Nat.reduceAdd, List.lookup_cons, List.lookup_nil]) (by simp only [defM, sSeq, sIf, sSet, sRet, sRetN, sExpr, sNext, sFld_def, sSub, sRaise, eVar, eC, eBin, eUn, tB', eB, bNot, bAnd, bOr, bIf, eIf, eAnd, eOr, eNot, aNil, aCons, eTup, aLst, eFrz, eRef, pN, pA, pK, pAK, eCall, eMeth_def, eFld_def, eMake_def, bind_ok, bind_err, bind_bad, fs_ok, fs_err, fs_bad, List.map_cons, List.map_nil, List.length_cons, List.length_nil, List.replicate, List.cons_append, List.nil_append, List.getElem?_cons_zero, List.getElem?_cons_succ, List.set_cons_zero, List.set_cons_succ, sz0, sz1, sz2, sz3, sz4, sz5, if_true, and_self, Nat.reduceSub, Nat.reduceAdd, List.lookup_cons, List.lookup_nil])
      rw [sB] at g1
      simp only [defM, sSeq, sIf, sSet, sRet, sRetN, sExpr, sNext, sFld_def, sSub, sRaise, eVar, eC, eBin, eUn, tB', eB, bNot, bAnd, bOr, bIf, eIf, eAnd, eOr, eNot, aNil, aCons, eTup, aLst, eFrz, eRef, pN, pA, pK, pAK, eCall, eMeth_def, eFld_def, eMake_def, bind_ok, bind_err, bind_bad, fs_ok, fs_err, fs_bad, List.map_cons, List.map_nil, List.length_cons, List.length_nil, List.replicate, List.cons_append, List.nil_append, List.getElem?_cons_zero, List.getElem?_cons_succ, List.set_cons_zero, List.set_cons_succ, sz0, sz1, sz2, sz3, sz4, sz5, if_true, and_self, Nat.reduceSub, Nat.reduceAdd, List.lookup_cons, List.lookup_nil, g1]
      unfold appl1
      cases hp : p.2.1 with
      | none => rfl
      | some x =>
        have s1 := sub_tab (k := p.1) (x := x) (vB (drop U p.1)) (by have := keysT_len hU; have : (drop U p.1).length ≤ U.length := List.length_filter_le _ _; omega)
        rw [sB] at s1
        simp only [defM, sSeq, sIf, sSet, sRet, sRetN, sExpr, sNext, sFld_def, sSub, sRaise, eVar, eC, eBin, eUn, tB', eB, bNot, bAnd, bOr, bIf, eIf, eAnd, eOr, eNot, aNil, aCons, eTup, aLst, eFrz, eRef, pN, pA, pK, pAK, eCall, eMeth_def, eFld_def, eMake_def, bind_ok, bind_err, bind_bad, fs_ok, fs_err, fs_bad, List.map_cons, List.map_nil, List.length_cons, List.length_nil, List.replicate, List.cons_append, List.nil_append, List.getElem?_cons_zero, List.getElem?_cons_succ, List.set_cons_zero, List.set_cons_succ, sz0, sz1, sz2, sz3, sz4, sz5, if_true, and_self, Nat.reduceSub, Nat.reduceAdd, List.lookup_cons, List.lookup_nil, oV, notNM, isN, Bool.not_false, s1]) C T a' b' c' hT hC.all
    simp only [defM, sSeq, sIf, sSet, sRet, sRetN, sExpr, sNext, sFld_def, sSub, sRaise, eVar, eC, eBin, eUn, tB', eB, bNot, bAnd, bOr, bIf, eIf, eAnd, eOr, eNot, aNil, aCons, eTup, aLst, eFrz, eRef, pN, pA, pK, pAK, eCall, eMeth_def, eFld_def, eMake_def, bind_ok, bind_err, bind_bad, fs_ok, fs_err, fs_bad, List.map_cons, List.map_nil, List.length_cons, List.length_nil, List.replicate, List.cons_append, List.nil_append, List.getElem?_cons_zero, List.getElem?_cons_succ, List.set_cons_zero, List.set_cons_succ, sz0, sz1, sz2, sz3, sz4, sz5, if_true, and_self, Nat.reduceSub, Nat.reduceAdd, List.lookup_cons, List.lookup_nil, h2, unlk, back]
    have hV := appl_ok hT hC.all
    generalize hV' : appl T C = V at hV
    have nA : (A ++ [MO.dct (tabV V)])[A.length]? = some (.dct (tabV V)) := new_at
    have sA : (A ++ [MO.dct (tabV V)]).set A.length (.lkd (tabV V)) = A ++ [.lkd (tabV V)] := set_mid
    have nL : (A ++ [MO.lkd (tabV V)])[A.length]? = some (.lkd (tabV V)) := new_at
    have sL : (A ++ [MO.lkd (tabV V)]).set A.length (.dct (tabV V)) = A ++ [.dct (tabV V)] := set_mid
    have dL : dctV (A ++ [MO.lkd (tabV V)]) (.ref A.length) = some (tabV V) := dctV_lk nL
    have it : itV (A ++ [MO.lkd (tabV V)]) (.ref A.length) = some ((keys V).map MV.str) := by
      unfold itV lklOf lkdOf
      dsimp only [tupOf]
      rw [nL]
      dsimp only
      unfold tabV mapK keys
      rw [List.map_map, List.map_map]
      rfl
    simp only [defM, sSeq, sIf, sSet, sRet, sRetN, sExpr, sNext, sFld_def, sSub, sRaise, eVar, eC, eBin, eUn, tB', eB, bNot, bAnd, bOr, bIf, eIf, eAnd, eOr, eNot, aNil, aCons, eTup, aLst, eFrz, eRef, pN, pA, pK, pAK, eCall, eMeth_def, eFld_def, eMake_def, bind_ok, bind_err, bind_bad, fs_ok, fs_err, fs_bad, List.map_cons, List.map_nil, List.length_cons, List.length_nil, List.replicate, List.cons_append, List.nil_append, List.getElem?_cons_zero, List.getElem?_cons_succ, List.set_cons_zero, List.set_cons_succ, sz0, sz1, sz2, sz3, sz4, sz5, if_true, and_self, Nat.reduceSub, Nat.reduceAdd, List.lookup_cons, List.lookup_nil, aLk, aLock, nA, lkO, sA]
    rw [lc_ys (ys := keys V) (inj := MV.str) (h := fun y => (abv y).map fun p => MV.bl (decide (p ∈ keys V)))]
    · rw [flat_pfx]
      simp only [defM, sSeq, sIf, sSet, sRet, sRetN, sExpr, sNext, sFld_def, sSub, sRaise, eVar, eC, eBin, eUn, tB', eB, bNot, bAnd, bOr, bIf, eIf, eAnd, eOr, eNot, aNil, aCons, eTup, aLst, eFrz, eRef, pN, pA, pK, pAK, eCall, eMeth_def, eFld_def, eMake_def, bind_ok, bind_err, bind_bad, fs_ok, fs_err, fs_bad, List.map_cons, List.map_nil, List.length_cons, List.length_nil, List.replicate, List.cons_append, List.nil_append, List.getElem?_cons_zero, List.getElem?_cons_succ, List.set_cons_zero, List.set_cons_succ, sz0, sz1, sz2, sz3, sz4, sz5, if_true, and_self, Nat.reduceSub, Nat.reduceAdd, List.lookup_cons, List.lookup_nil, sL, all_bls]
      rw [show ((keys V).flatMap fun y => (abv y).map fun p => decide (p ∈ keys V)).any id = pfx (keys V) from rfl]
      cases pfx (keys V) <;> rfl
    · simp only [defM, sSeq, sIf, sSet, sRet, sRetN, sExpr, sNext, sFld_def, sSub, sRaise, eVar, eC, eBin, eUn, tB', eB, bNot, bAnd, bOr, bIf, eIf, eAnd, eOr, eNot, aNil, aCons, eTup, aLst, eFrz, eRef, pN, pA, pK, pAK, eCall, eMeth_def, eFld_def, eMake_def, bind_ok, bind_err, bind_bad, fs_ok, fs_err, fs_bad, List.map_cons, List.map_nil, List.length_cons, List.length_nil, List.replicate, List.cons_append, List.nil_append, List.getElem?_cons_zero, List.getElem?_cons_succ, List.set_cons_zero, List.set_cons_succ, sz0, sz1, sz2, sz3, sz4, sz5, if_true, and_self, Nat.reduceSub, Nat.reduceAdd, List.lookup_cons, List.lookup_nil, iAny, it]
    · intro y hy
      refine ⟨[.str y], rfl, ?_⟩
      simp only [defM, sSeq, sIf, sSet, sRet, sRetN, sExpr, sNext, sFld_def, sSub, sRaise, eVar, eC, eBin, eUn, tB', eB, bNot, bAnd, bOr, bIf, eIf, eAnd, eOr, eNot, aNil, aCons, eTup, aLst, eFrz, eRef, pN, pA, pK, pAK, eCall, eMeth_def, eFld_def, eMake_def, bind_ok, bind_err, bind_bad, fs_ok, fs_err, fs_bad, List.map_cons, List.map_nil, List.length_cons, List.length_nil, List.replicate, List.cons_append, List.nil_append, List.getElem?_cons_zero, List.getElem?_cons_succ, List.set_cons_zero, List.set_cons_succ, sz0, sz1, sz2, sz3, sz4, sz5, if_true, and_self, Nat.reduceSub, Nat.reduceAdd, List.lookup_cons, List.lookup_nil, qIn, bYes, wipeM, setAllM, iFrz, above_ok y (hV.key hy)]
      rw [qRun_ys (ys := abv y) (inj := MV.str) (h := fun p => [MV.bl (decide (p ∈ keys V))])]
      · rw [flat_one]
      · intro p _
        refine ⟨[.str p], rfl, ?_⟩
        simp only [defM, sSeq, sIf, sSet, sRet, sRetN, sExpr, sNext, sFld_def, sSub, sRaise, eVar, eC, eBin, eUn, tB', eB, bNot, bAnd, bOr, bIf, eIf, eAnd, eOr, eNot, aNil, aCons, eTup, aLst, eFrz, eRef, pN, pA, pK, pAK, eCall, eMeth_def, eFld_def, eMake_def, bind_ok, bind_err, bind_bad, fs_ok, fs_err, fs_bad, List.map_cons, List.map_nil, List.length_cons, List.length_nil, List.replicate, List.cons_append, List.nil_append, List.getElem?_cons_zero, List.getElem?_cons_succ, List.set_cons_zero, List.set_cons_succ, sz0, sz1, sz2, sz3, sz4, sz5, if_true, and_self, Nat.reduceSub, Nat.reduceAdd, List.lookup_cons, List.lookup_nil, qElt, bYes, setAllM, in_tab dL]
    · rw [flat_pfx]
      exact szL_le (by rw [List.length_map]; have := pfxs_len (js := keys V) (fun k hk => hV.key hk); have := hV.len; omega)
end
end Rp
/-! RpB: Edit.moves, behind, finish -/
namespace Rp
open PySem PySem.Spec PyProof.Rows Mv Rf
def mvs (T V : Tb Str) (C : Tb Cl2) : List Str := (skeys C).filter fun k => !decide (get T k = get V k)
def mvV (T V : Tb Str) (k : Str) : MV := .tup [.str k, oV (get T k), oV (get V k)]
theorem sorted_call {A : AH} {c : Nat} {C : Tb Cl2} (d : A[c]? = some (.dct (callV C))) (ok : (keys C).length < 64) : sortedL [.ref c] A = .ok ((skeys C).map MV.str) A := by
  unfold sortedL
  dsimp only
  rw [dctV_at d]
  dsimp only
  unfold callV
  rw [keyStrs_mapK]
  dsimp only
  rw [if_pos ok]
  rfl
theorem CallsOk.key {C : Tb Cl2} (h : CallsOk C) {k : Str} (hk : k ∈ keys C) : k ∈ nms := by
  obtain ⟨p, hp, e⟩ := List.mem_map.mp hk
  rw [← e]
  exact (h.all p hp).1
theorem CallsOk.len {C : Tb Cl2} (h : CallsOk C) : (keys C).length ≤ 14 := nodup_le h.nd fun k hk => h.key hk
theorem flat_if {α : Type} {f : α → Bool} {h : α → MV} : ∀ {ys : List α}, ys.flatMap (fun y => if f y then [h y] else []) = (ys.filter f).map h
  | [] => rfl
  | y :: ys => by
    rw [List.flatMap_cons, flat_if (ys := ys), List.filter_cons]
    cases f y <;> rfl
theorem mvs_len {T V : Tb Str} {C : Tb Cl2} (h : CallsOk C) : (mvs T V C).length ≤ 14 := by
  have : (mvs T V C).length ≤ (skeys C).length := List.length_filter_le _ _
  rw [skeys_len] at this
  exact Nat.le_trans this h.len
section
variable {A : AH} {r e t l d c g n : Nat} {T : Tb Str} {sp : Str × Str} {L : Tb (List Ent)} {es : List MV} {tn : Int} {sg : MV} {st : Option (Str × Str)} {C : Tb Cl2} {G : List MV}
theorem moves_err {x : Str} {fs : List (Str × MV)} {A' : AH} (R : RefsAt A r e t l T sp L es) (E : EditAt A d r c g tn sg st true C G) (hct : c ≠ t) (hT : TabOk T) (hC : CallsOk C) (h : checkR A T C = .err x fs A') : F_Edit_moves [.ref d] A = .err x fs A' := by
  have m1 : mthB "Edit" "check" (.ref d) A = true := mth_at E.d rfl
  have q := check_ok R E hct hT hC
  rw [h] at q
  unfold F_Edit_moves b_Edit_moves
  simp only [defM, sSeq, sIf, sSet, sRet, sRetN, sExpr, sNext, sFld_def, sSub, sRaise, eVar, eC, eBin, eUn, tB', eB, bNot, bAnd, bOr, bIf, eIf, eAnd, eOr, eNot, aNil, aCons, eTup, aLst, eFrz, eRef, pN, pA, pK, pAK, eCall, eMeth_def, eFld_def, eMake_def, bind_ok, bind_err, bind_bad, fs_ok, fs_err, fs_bad, List.map_cons, List.map_nil, List.length_cons, List.length_nil, List.replicate, List.cons_append, List.nil_append, List.getElem?_cons_zero, List.getElem?_cons_succ, List.set_cons_zero, List.set_cons_succ, sz0, sz1, sz2, sz3, sz4, sz5, if_true, and_self, Nat.reduceSub, Nat.reduceAdd, List.lookup_cons, List.lookup_nil, sAsg, m1, q]
theorem moves_ok (R : RefsAt A r e t l T sp L es) (E : EditAt A d r c g tn sg st true C G) (hct : c ≠ t) (hT : TabOk T) (hC : CallsOk C) (h : checkR A T C = .ok (.ref A.length) (A ++ [.dct (tabV (appl T C))])) :
    F_Edit_moves [.ref d] A = .ok (.tup ((mvs T (appl T C) C).map (mvV T (appl T C)))) (A ++ [.dct (tabV (appl T C))]) := by
  have m1 : mthB "Edit" "check" (.ref d) A = true := mth_at E.d rfl
  have q := check_ok R E hct hT hC
  rw [h] at q
  generalize hV : appl T C = V at q
  have f : Fr (fun _ => False) A (A ++ [MO.dct (tabV V)]) := Fr.app
  have R1 := R.fr f id id id id
  have E1 := E.fr f id id id
  have nV : dctV (A ++ [MO.dct (tabV V)]) (.ref A.length) = some (tabV V) := dctV_at new_at
  generalize hA1 : A ++ [MO.dct (tabV V)] = A1 at *
  have kl : (keys C).length < 64 := by have := hC.len; omega
  unfold F_Edit_moves b_Edit_moves
  simp only [defM, sSeq, sIf, sSet, sRet, sRetN, sExpr, sNext, sFld_def, sSub, sRaise, eVar, eC, eBin, eUn, tB', eB, bNot, bAnd, bOr, bIf, eIf, eAnd, eOr, eNot, aNil, aCons, eTup, aLst, eFrz, eRef, pN, pA, pK, pAK, eCall, eMeth_def, eFld_def, eMake_def, bind_ok, bind_err, bind_bad, fs_ok, fs_err, fs_bad, List.map_cons, List.map_nil, List.length_cons, List.length_nil, List.replicate, List.cons_append, List.nil_append, List.getElem?_cons_zero, List.getElem?_cons_succ, List.set_cons_zero, List.set_cons_succ, sz0, sz1, sz2, sz3, sz4, sz5, if_true, and_self, Nat.reduceSub, Nat.reduceAdd, List.lookup_cons, List.lookup_nil, sAsg, m1, q, E1.fh, R1.ft, gTupM, tupOf, gConsM, gNm, gNilM, setAllM, E1.fc, sorted_call E1.c kl]
  rw [lc_ys (ys := skeys C) (inj := MV.str) (h := fun k => if !decide (get T k = get V k) then [MV.str k] else [])]
  · rw [flat_if]
    simp only [defM, sSeq, sIf, sSet, sRet, sRetN, sExpr, sNext, sFld_def, sSub, sRaise, eVar, eC, eBin, eUn, tB', eB, bNot, bAnd, bOr, bIf, eIf, eAnd, eOr, eNot, aNil, aCons, eTup, aLst, eFrz, eRef, pN, pA, pK, pAK, eCall, eMeth_def, eFld_def, eMake_def, bind_ok, bind_err, bind_bad, fs_ok, fs_err, fs_bad, List.map_cons, List.map_nil, List.length_cons, List.length_nil, List.replicate, List.cons_append, List.nil_append, List.getElem?_cons_zero, List.getElem?_cons_succ, List.set_cons_zero, List.set_cons_succ, sz0, sz1, sz2, sz3, sz4, sz5, if_true, and_self, Nat.reduceSub, Nat.reduceAdd, List.lookup_cons, List.lookup_nil]
    rw [lc_ys (ys := mvs T V C) (inj := MV.str) (h := fun k => [mvV T V k])]
    · rw [flat_one]
      simp only [defM, sSeq, sIf, sSet, sRet, sRetN, sExpr, sNext, sFld_def, sSub, sRaise, eVar, eC, eBin, eUn, tB', eB, bNot, bAnd, bOr, bIf, eIf, eAnd, eOr, eNot, aNil, aCons, eTup, aLst, eFrz, eRef, pN, pA, pK, pAK, eCall, eMeth_def, eFld_def, eMake_def, bind_ok, bind_err, bind_bad, fs_ok, fs_err, fs_bad, List.map_cons, List.map_nil, List.length_cons, List.length_nil, List.replicate, List.cons_append, List.nil_append, List.getElem?_cons_zero, List.getElem?_cons_succ, List.set_cons_zero, List.set_cons_succ, sz0, sz1, sz2, sz3, sz4, sz5, if_true, and_self, Nat.reduceSub, Nat.reduceAdd, List.lookup_cons, List.lookup_nil, tupleM, tupOf, lstV]
    · simp only [defM, sSeq, sIf, sSet, sRet, sRetN, sExpr, sNext, sFld_def, sSub, sRaise, eVar, eC, eBin, eUn, tB', eB, bNot, bAnd, bOr, bIf, eIf, eAnd, eOr, eNot, aNil, aCons, eTup, aLst, eFrz, eRef, pN, pA, pK, pAK, eCall, eMeth_def, eFld_def, eMake_def, bind_ok, bind_err, bind_bad, fs_ok, fs_err, fs_bad, List.map_cons, List.map_nil, List.length_cons, List.length_nil, List.replicate, List.cons_append, List.nil_append, List.getElem?_cons_zero, List.getElem?_cons_succ, List.set_cons_zero, List.set_cons_succ, sz0, sz1, sz2, sz3, sz4, sz5, if_true, and_self, Nat.reduceSub, Nat.reduceAdd, List.lookup_cons, List.lookup_nil, iFrz]
      rfl
    · intro k _
      refine ⟨[.str k], rfl, ?_⟩
      have g1 := get1_tab (k := k) (fo := eVar 2) (fe := eVar 4) (ρ := [some (.ref d), some (.ref A.length), some (.ref t), some (.lst ((mvs T V C).map MV.str)), some (.str k)]) R1.dt (by simp only [defM, sSeq, sIf, sSet, sRet, sRetN, sExpr, sNext, sFld_def, sSub, sRaise, eVar, eC, eBin, eUn, tB', eB, bNot, bAnd, bOr, bIf, eIf, eAnd, eOr, eNot, aNil, aCons, eTup, aLst, eFrz, eRef, pN, pA, pK, pAK, eCall, eMeth_def, eFld_def, eMake_def, bind_ok, bind_err, bind_bad, fs_ok, fs_err, fs_bad, List.map_cons, List.map_nil, List.length_cons, List.length_nil, List.replicate, List.cons_append, List.nil_append, List.getElem?_cons_zero, List.getElem?_cons_succ, List.set_cons_zero, List.set_cons_succ, sz0, sz1, sz2, sz3, sz4, sz5, if_true, and_self, Nat.reduceSub, Nat.reduceAdd, List.lookup_cons, List.lookup_nil]) (by simp only [defM, sSeq, sIf, sSet, sRet, sRetN, sExpr, sNext, sFld_def, sSub, sRaise, eVar, eC, eBin, eUn, tB', eB, bNot, bAnd, bOr, bIf, eIf, eAnd, eOr, eNot, aNil, aCons, eTup, aLst, eFrz, eRef, pN, pA, pK, pAK, eCall, eMeth_def, eFld_def, eMake_def, bind_ok, bind_err, bind_bad, fs_ok, fs_err, fs_bad, List.map_cons, List.map_nil, List.length_cons, List.length_nil, List.replicate, List.cons_append, List.nil_append, List.getElem?_cons_zero, List.getElem?_cons_succ, List.set_cons_zero, List.set_cons_succ, sz0, sz1, sz2, sz3, sz4, sz5, if_true, and_self, Nat.reduceSub, Nat.reduceAdd, List.lookup_cons, List.lookup_nil])
      have g2 := get1_tab (k := k) (fo := eVar 1) (fe := eVar 4) (ρ := [some (.ref d), some (.ref A.length), some (.ref t), some (.lst ((mvs T V C).map MV.str)), some (.str k)]) nV (by simp only [defM, sSeq, sIf, sSet, sRet, sRetN, sExpr, sNext, sFld_def, sSub, sRaise, eVar, eC, eBin, eUn, tB', eB, bNot, bAnd, bOr, bIf, eIf, eAnd, eOr, eNot, aNil, aCons, eTup, aLst, eFrz, eRef, pN, pA, pK, pAK, eCall, eMeth_def, eFld_def, eMake_def, bind_ok, bind_err, bind_bad, fs_ok, fs_err, fs_bad, List.map_cons, List.map_nil, List.length_cons, List.length_nil, List.replicate, List.cons_append, List.nil_append, List.getElem?_cons_zero, List.getElem?_cons_succ, List.set_cons_zero, List.set_cons_succ, sz0, sz1, sz2, sz3, sz4, sz5, if_true, and_self, Nat.reduceSub, Nat.reduceAdd, List.lookup_cons, List.lookup_nil]) (by simp only [defM, sSeq, sIf, sSet, sRet, sRetN, sExpr, sNext, sFld_def, sSub, sRaise, eVar, eC, eBin, eUn, tB', eB, bNot, bAnd, bOr, bIf, eIf, eAnd, eOr, eNot, aNil, aCons, eTup, aLst, eFrz, eRef, pN, pA, pK, pAK, eCall, eMeth_def, eFld_def, eMake_def, bind_ok, bind_err, bind_bad, fs_ok, fs_err, fs_bad, List.map_cons, List.map_nil, List.length_cons, List.length_nil, List.replicate, List.cons_append, List.nil_append, List.getElem?_cons_zero, List.getElem?_cons_succ, List.set_cons_zero, List.set_cons_succ, sz0, sz1, sz2, sz3, sz4, sz5, if_true, and_self, Nat.reduceSub, Nat.reduceAdd, List.lookup_cons, List.lookup_nil])
      unfold mvs at g1 g2
      simp only [defM, sSeq, sIf, sSet, sRet, sRetN, sExpr, sNext, sFld_def, sSub, sRaise, eVar, eC, eBin, eUn, tB', eB, bNot, bAnd, bOr, bIf, eIf, eAnd, eOr, eNot, aNil, aCons, eTup, aLst, eFrz, eRef, pN, pA, pK, pAK, eCall, eMeth_def, eFld_def, eMake_def, bind_ok, bind_err, bind_bad, fs_ok, fs_err, fs_bad, List.map_cons, List.map_nil, List.length_cons, List.length_nil, List.replicate, List.cons_append, List.nil_append, List.getElem?_cons_zero, List.getElem?_cons_succ, List.set_cons_zero, List.set_cons_succ, sz0, sz1, sz2, sz3, sz4, sz5, if_true, and_self, Nat.reduceSub, Nat.reduceAdd, List.lookup_cons, List.lookup_nil, qElt, bYes, wipeM, setAllM, g1, g2]
      rfl
    · rw [flat_one]
      exact szL_le (by rw [List.length_map]; have := mvs_len (T := T) (V := V) hC; omega)
  · simp only [defM, sSeq, sIf, sSet, sRet, sRetN, sExpr, sNext, sFld_def, sSub, sRaise, eVar, eC, eBin, eUn, tB', eB, bNot, bAnd, bOr, bIf, eIf, eAnd, eOr, eNot, aNil, aCons, eTup, aLst, eFrz, eRef, pN, pA, pK, pAK, eCall, eMeth_def, eFld_def, eMake_def, bind_ok, bind_err, bind_bad, fs_ok, fs_err, fs_bad, List.map_cons, List.map_nil, List.length_cons, List.length_nil, List.replicate, List.cons_append, List.nil_append, List.getElem?_cons_zero, List.getElem?_cons_succ, List.set_cons_zero, List.set_cons_succ, sz0, sz1, sz2, sz3, sz4, sz5, if_true, and_self, Nat.reduceSub, Nat.reduceAdd, List.lookup_cons, List.lookup_nil, iFrz, E1.fc, sorted_call E1.c kl]
  · intro k _
    refine ⟨[.str k], rfl, ?_⟩
    have g1 := get1_tab (k := k) (fo := eVar 2) (fe := eVar 4) (ρ := [some (.ref d), some (.ref A.length), some (.ref t), none, some (.str k)]) R1.dt (by simp only [defM, sSeq, sIf, sSet, sRet, sRetN, sExpr, sNext, sFld_def, sSub, sRaise, eVar, eC, eBin, eUn, tB', eB, bNot, bAnd, bOr, bIf, eIf, eAnd, eOr, eNot, aNil, aCons, eTup, aLst, eFrz, eRef, pN, pA, pK, pAK, eCall, eMeth_def, eFld_def, eMake_def, bind_ok, bind_err, bind_bad, fs_ok, fs_err, fs_bad, List.map_cons, List.map_nil, List.length_cons, List.length_nil, List.replicate, List.cons_append, List.nil_append, List.getElem?_cons_zero, List.getElem?_cons_succ, List.set_cons_zero, List.set_cons_succ, sz0, sz1, sz2, sz3, sz4, sz5, if_true, and_self, Nat.reduceSub, Nat.reduceAdd, List.lookup_cons, List.lookup_nil]) (by simp only [defM, sSeq, sIf, sSet, sRet, sRetN, sExpr, sNext, sFld_def, sSub, sRaise, eVar, eC, eBin, eUn, tB', eB, bNot, bAnd, bOr, bIf, eIf, eAnd, eOr, eNot, aNil, aCons, eTup, aLst, eFrz, eRef, pN, pA, pK, pAK, eCall, eMeth_def, eFld_def, eMake_def, bind_ok, bind_err, bind_bad, fs_ok, fs_err, fs_bad, List.map_cons, List.map_nil, List.length_cons, List.length_nil, List.replicate, List.cons_append, List.nil_append, List.getElem?_cons_zero, List.getElem?_cons_succ, List.set_cons_zero, List.set_cons_succ, sz0, sz1, sz2, sz3, sz4, sz5, if_true, and_self, Nat.reduceSub, Nat.reduceAdd, List.lookup_cons, List.lookup_nil])
    have g2 := get1_tab (k := k) (fo := eVar 1) (fe := eVar 4) (ρ := [some (.ref d), some (.ref A.length), some (.ref t), none, some (.str k)]) nV (by simp only [defM, sSeq, sIf, sSet, sRet, sRetN, sExpr, sNext, sFld_def, sSub, sRaise, eVar, eC, eBin, eUn, tB', eB, bNot, bAnd, bOr, bIf, eIf, eAnd, eOr, eNot, aNil, aCons, eTup, aLst, eFrz, eRef, pN, pA, pK, pAK, eCall, eMeth_def, eFld_def, eMake_def, bind_ok, bind_err, bind_bad, fs_ok, fs_err, fs_bad, List.map_cons, List.map_nil, List.length_cons, List.length_nil, List.replicate, List.cons_append, List.nil_append, List.getElem?_cons_zero, List.getElem?_cons_succ, List.set_cons_zero, List.set_cons_succ, sz0, sz1, sz2, sz3, sz4, sz5, if_true, and_self, Nat.reduceSub, Nat.reduceAdd, List.lookup_cons, List.lookup_nil]) (by simp only [defM, sSeq, sIf, sSet, sRet, sRetN, sExpr, sNext, sFld_def, sSub, sRaise, eVar, eC, eBin, eUn, tB', eB, bNot, bAnd, bOr, bIf, eIf, eAnd, eOr, eNot, aNil, aCons, eTup, aLst, eFrz, eRef, pN, pA, pK, pAK, eCall, eMeth_def, eFld_def, eMake_def, bind_ok, bind_err, bind_bad, fs_ok, fs_err, fs_bad, List.map_cons, List.map_nil, List.length_cons, List.length_nil, List.replicate, List.cons_append, List.nil_append, List.getElem?_cons_zero, List.getElem?_cons_succ, List.set_cons_zero, List.set_cons_succ, sz0, sz1, sz2, sz3, sz4, sz5, if_true, and_self, Nat.reduceSub, Nat.reduceAdd, List.lookup_cons, List.lookup_nil])
    simp only [defM, sSeq, sIf, sSet, sRet, sRetN, sExpr, sNext, sFld_def, sSub, sRaise, eVar, eC, eBin, eUn, tB', eB, bNot, bAnd, bOr, bIf, eIf, eAnd, eOr, eNot, aNil, aCons, eTup, aLst, eFrz, eRef, pN, pA, pK, pAK, eCall, eMeth_def, eFld_def, eMake_def, bind_ok, bind_err, bind_bad, fs_ok, fs_err, fs_bad, List.map_cons, List.map_nil, List.length_cons, List.length_nil, List.replicate, List.cons_append, List.nil_append, List.getElem?_cons_zero, List.getElem?_cons_succ, List.set_cons_zero, List.set_cons_succ, sz0, sz1, sz2, sz3, sz4, sz5, if_true, and_self, Nat.reduceSub, Nat.reduceAdd, List.lookup_cons, List.lookup_nil, qElt, wipeM, setAllM, g1, g2, ne_o]
    cases decide (get T k = get V k) <;> rfl
  · rw [flat_if]
    exact szL_le (by rw [List.length_map]; have := mvs_len (T := T) (V := V) hC; unfold mvs at this; omega)
/-! ### logs grow -/
def note1 (L : Tb (List Ent)) (k : Str) (x : Ent) : Tb (List Ent) := put L k (lg L k ++ [x])
theorem lg_note {L : Tb (List Ent)} {k j : Str} {x : Ent} : lg (note1 L k x) j = if j = k then lg L k ++ [x] else lg L j := by
  unfold note1 lg
  rw [get_put]
  split
  · rename_i h; rfl
  · rfl
theorem lg_len (h : LogOk L n) {k : Str} : (lg L k).length ≤ n := by
  unfold lg
  cases e : get L k with
  | none => exact Nat.zero_le _
  | some v => exact (h.all _ (get_mem e)).2.2
theorem lg_ent (h : LogOk L n) {k : Str} : ∀ x ∈ lg L k, EntOk x := by
  unfold lg
  cases e : get L k with
  | none => intro x hx; cases hx
  | some v => exact (h.all _ (get_mem e)).2.1
theorem LogOk.up (h : LogOk L n) {m : Nat} (hm : n ≤ m) : LogOk L m := ⟨h.nd, fun p hp => ⟨(h.all p hp).1, (h.all p hp).2.1, Nat.le_trans (h.all p hp).2.2 hm⟩⟩
theorem note1_ok (h : LogOk L n) {k : Str} (hk : k ∈ nms ∨ k = "HEAD") {x : Ent} (hx : EntOk x) : LogOk (note1 L k x) (n + 1) :=
  ⟨nodup_put h.nd, all_put (P := fun (a : Str) (b : List Ent) => (a ∈ nms ∨ a = "HEAD") ∧ (∀ e ∈ b, EntOk e) ∧ b.length ≤ n + 1) (h.up (Nat.le_succ n)).all ⟨hk, fun y hy => by
    rcases List.mem_append.mp hy with hy | hy
    · exact lg_ent h y hy
    · rw [List.mem_singleton] at hy; rw [hy]; exact hx, by rw [List.length_append]; exact Nat.succ_le_succ (lg_len h)⟩⟩
theorem note_ok (R : RefsAt A r e t l T sp L es) (hn : LogOk L n) (hl : n ≤ 900) {k : Str} {x : Ent} : F_Refs_note [.ref r, .str k, entV x] A = .ok .non (A.set l (.dct (logV (note1 L k x)))) := by
  have g := get2_log (k := k) (ρ := [some (.ref r), some (.str k), some (entV x)]) (fo := eFld "Refs" "logs" (eVar 0)) (fe := eVar 1) (f2 := eFrz (aLst aNil)) R.dl (by simp only [defM, sSeq, sIf, sSet, sRet, sRetN, sExpr, sNext, sFld_def, sSub, sRaise, eVar, eC, eBin, eUn, tB', eB, bNot, bAnd, bOr, bIf, eIf, eAnd, eOr, eNot, aNil, aCons, eTup, aLst, eFrz, eRef, pN, pA, pK, pAK, eCall, eMeth_def, eFld_def, eMake_def, bind_ok, bind_err, bind_bad, fs_ok, fs_err, fs_bad, List.map_cons, List.map_nil, List.length_cons, List.length_nil, List.replicate, List.cons_append, List.nil_append, List.getElem?_cons_zero, List.getElem?_cons_succ, List.set_cons_zero, List.set_cons_succ, sz0, sz1, sz2, sz3, sz4, sz5, if_true, and_self, Nat.reduceSub, Nat.reduceAdd, List.lookup_cons, List.lookup_nil, R.fl]) (by simp only [defM, sSeq, sIf, sSet, sRet, sRetN, sExpr, sNext, sFld_def, sSub, sRaise, eVar, eC, eBin, eUn, tB', eB, bNot, bAnd, bOr, bIf, eIf, eAnd, eOr, eNot, aNil, aCons, eTup, aLst, eFrz, eRef, pN, pA, pK, pAK, eCall, eMeth_def, eFld_def, eMake_def, bind_ok, bind_err, bind_bad, fs_ok, fs_err, fs_bad, List.map_cons, List.map_nil, List.length_cons, List.length_nil, List.replicate, List.cons_append, List.nil_append, List.getElem?_cons_zero, List.getElem?_cons_succ, List.set_cons_zero, List.set_cons_succ, sz0, sz1, sz2, sz3, sz4, sz5, if_true, and_self, Nat.reduceSub, Nat.reduceAdd, List.lookup_cons, List.lookup_nil]) rfl
  have cat : catL (entsV (lg L k)) (.lst [entV x]) A = .ok ((lg L k ++ [x]).map entV) A := by
    unfold catL entsV
    dsimp only [lstV]
    rw [if_pos (by rw [List.length_map]; have := lg_len hn (k := k); show _ + 1 ≤ _; omega), List.map_append]
    rfl
  have st1 : setM (.ref l) (.str k) (.lst ((lg L k ++ [x]).map entV)) A = some (A.set l (.dct (logV (note1 L k x)))) := by
    unfold setM dctW
    dsimp only
    rw [R.l]
    dsimp only [keyOf]
    rw [if_pos (by unfold logV; rw [len_mapK]; have := hn.len; unfold keys at this; rw [List.length_map] at this; omega)]
    unfold logV note1
    rw [show MV.lst ((lg L k ++ [x]).map entV) = entsV (lg L k ++ [x]) from rfl, put_mapK]
  unfold F_Refs_note b_Refs_note
  simp only [defM, sSeq, sIf, sSet, sRet, sRetN, sExpr, sNext, sFld_def, sSub, sRaise, eVar, eC, eBin, eUn, tB', eB, bNot, bAnd, bOr, bIf, eIf, eAnd, eOr, eNot, aNil, aCons, eTup, aLst, eFrz, eRef, pN, pA, pK, pAK, eCall, eMeth_def, eFld_def, eMake_def, bind_ok, bind_err, bind_bad, fs_ok, fs_err, fs_bad, List.map_cons, List.map_nil, List.length_cons, List.length_nil, List.replicate, List.cons_append, List.nil_append, List.getElem?_cons_zero, List.getElem?_cons_succ, List.set_cons_zero, List.set_cons_succ, sz0, sz1, sz2, sz3, sz4, sz5, if_true, and_self, Nat.reduceSub, Nat.reduceAdd, List.lookup_cons, List.lookup_nil, aCat, g, cat, R.fl, st1]
structure Sg where
  w : Str
  t : Int
  x : Str
def Sg.v (s : Sg) : MV := sgV s.w s.t s.x
structure SgOk (s : Sg) : Prop where
  w : s.w ∈ whos
  t0 : 0 ≤ s.t
  t1 : s.t ≤ 1000
  x : s.x ∈ msgs
def Sg.ent (s : Sg) (a b : Option Str) : Ent := ⟨a, b, s.w, s.t, s.x⟩
theorem add_ent {s : Sg} {a b : Option Str} {A : AH} : addM (.tup [oV a, oV b]) s.v A = .ok (entV (s.ent a b)) A := rfl
def notes (T V : Tb Str) (s : Sg) : List Str → Tb (List Ent) → Tb (List Ent)
  | [], L => L
  | k :: ks, L => notes T V s ks (note1 L k (s.ent (get T k) (get V k)))
theorem tab_val {T : Tb Str} (h : TabOk T) {k x : Str} (e : get T k = some x) : x ∈ ids := (h.all _ (get_mem e)).2
theorem ent_ok {s : Sg} (hs : SgOk s) {a b : Option Str} (ha : ∀ x, a = some x → x ∈ ids) (hb : ∀ x, b = some x → x ∈ ids) : EntOk (s.ent a b) := ⟨ha, hb, hs.w, hs.t0, hs.t1, hs.x⟩
theorem notes_ok {V : Tb Str} {s : Sg} (hT : TabOk T) (hV : TabOk V) (hs : SgOk s) : ∀ {ks : List Str} {L : Tb (List Ent)} {n : Nat}, (∀ k ∈ ks, k ∈ nms) → LogOk L n → LogOk (notes T V s ks L) (n + ks.length)
  | [], L, n, _, h => h
  | k :: ks, L, n, hk, h => by
    have := notes_ok (V := V) hT hV hs (ks := ks) (fun j hj => hk j (List.mem_cons_of_mem _ hj)) (note1_ok h (.inl (hk k (List.mem_cons_self ..))) (ent_ok (a := get T k) (b := get V k) hs (fun x e => tab_val hT e) fun x e => tab_val hV e))
    show LogOk (notes T V s ks (note1 L k (s.ent (get T k) (get V k)))) _
    rw [List.length_cons]
    exact this.up (by omega)
theorem lg_notes {V : Tb Str} {s : Sg} : ∀ {ks : List Str} {L L' : Tb (List Ent)}, (∀ k, lg L k = lg L' k) → ∀ k, lg (notes T V s ks L) k = lg (notes T V s ks L') k
  | [], L, L', h => h
  | j :: ks, L, L', h => lg_notes (ks := ks) fun k => by rw [lg_note, lg_note, h, h]
abbrev g3m : MV → Option (List MV) := gTupM 3 (gConsM gNm (gConsM gNm (gConsM gNm gNilM)))
/-- the loop that notes the moves -/
theorem note_loop {A0 : AH} {V : Tb Str} {s : Sg} {r e t l : Nat} {sp : Str × Str} {W : Tb Str} {es : List MV} {x0 x1 x2 x3 : Option MV} {body : FS} (hT : TabOk T) (hV : TabOk V) (hs : SgOk s)
    (hb : ∀ (A : AH) (L : Tb (List Ent)) (n : Nat) (k : Str), Fr (fun n => n = l) A0 A → RefsAt A r e t l W sp L es → LogOk L n → n ≤ 900 → body [x0, x1, x2, x3, some (.str k), some (oV (get T k)), some (oV (get V k))] A = .nx [x0, x1, x2, x3, some (.str k), some (oV (get T k)), some (oV (get V k))] (A.set l (.dct (logV (note1 L k (s.ent (get T k) (get V k))))))) :
    ∀ (ks : List Str) (A : AH) (L : Tb (List Ent)) (n : Nat) (a b c : Option MV), Fr (fun n => n = l) A0 A → RefsAt A r e t l W sp L es → l ≠ t → LogOk L n → n + ks.length ≤ 900 → (∀ k ∈ ks, k ∈ nms) → ∃ a' b' c' A', runL (turn [4, 5, 6] g3m body) (ks.map (mvV T V)) [x0, x1, x2, x3, a, b, c] A = .nx [x0, x1, x2, x3, a', b', c'] A' ∧ RefsAt A' r e t l W sp (notes T V s ks L) es ∧ Fr (fun n => n = l) A0 A' ∧ A'.length = A.length
  | [], A, L, n, a, b, c, f, R, _, _, _, _ => ⟨a, b, c, A, rfl, R, f, rfl⟩
  | k :: ks, A, L, n, a, b, c, f, R, hlt, hL, hn, hk => by
    rw [List.length_cons] at hn
    have e1 : ∀ B, turn [4, 5, 6] g3m body (mvV T V k) [x0, x1, x2, x3, a, b, c] B = body [x0, x1, x2, x3, some (.str k), some (oV (get T k)), some (oV (get V k))] B := fun _ => rfl
    have hle : l ≠ e := at_ne R.l R.e (by intro z; cases z)
    have hlr : l ≠ r := at_ne R.l R.r (by intro z; cases z)
    have R1 : RefsAt (A.set l (.dct (logV (note1 L k (s.ent (get T k) (get V k)))))) r e t l W sp (note1 L k (s.ent (get T k) (get V k))) es := ⟨by rw [set_ne hlr]; exact R.r, by rw [set_ne hle]; exact R.e, by rw [set_ne hlt]; exact R.t, set_at R.l⟩
    obtain ⟨a', b', c', A', q, R', f', l'⟩ := note_loop hT hV hs hb ks _ _ (n + 1) (some (.str k)) (some (oV (get T k))) (some (oV (get V k))) (f.trans (Fr.set rfl)) R1 hlt (note1_ok hL (.inl (hk k (List.mem_cons_self ..))) (ent_ok hs (fun x e => tab_val hT e) fun x e => tab_val hV e)) (by omega) fun j hj => hk j (List.mem_cons_of_mem _ hj)
    refine ⟨a', b', c', A', ?_, R', f', by rw [l', List.length_set]⟩
    rw [List.map_cons]
    unfold runL
    rw [e1, hb A L n k f R hL (by omega)]
    exact q
end
end Rp
/-! RpC: Edit.behind, finish -/
namespace Rp
open PySem PySem.Spec PyProof.Rows Mv Rf
structure OkC (T : Tb Str) (C : Tb Cl2) : Prop where
  s : staleOf T C = none
  p : pfx (keys (appl T C)) = false
theorem OkC.chk {T : Tb Str} {C : Tb Cl2} (h : OkC T C) (A : AH) : checkR A T C = .ok (.ref A.length) (A ++ [.dct (tabV (appl T C))]) := by
  unfold checkR
  rw [h.s]
  dsimp only
  rw [h.p]
  rfl
def chg (sp sp2 : Str × Str) (a b : Option Str) : Bool := !decide (sp2 = sp) || !decide (b = a)
def logs2 (T V : Tb Str) (sp sp2 : Str × Str) (s : Sg) (L1 : Tb (List Ent)) : Tb (List Ent) := if chg sp sp2 (hd T sp) (hd V sp2) then note1 L1 "HEAD" (s.ent (hd T sp) (hd V sp2)) else L1
theorem hd_srt {T : Tb Str} {sp : Str × Str} : hd (srt T) sp = hd T sp := by unfold hd; rw [get_srt]
theorem hd_val {T : Tb Str} {sp : Str × Str} (h : TabOk T) (hs : SpOk sp) {x : Str} (e : hd T sp = some x) : x ∈ ids := by
  unfold hd at e
  split at e
  · rename_i q
    cases e
    rcases hs with ⟨h1, _⟩ | ⟨_, h2⟩
    · rw [q] at h1; exact absurd h1 (by decide)
    · exact h2
  · exact tab_val h e
structure Rdy (A : AH) (r e t l d c g : Nat) (T : Tb Str) (sp : Str × Str) (L : Tb (List Ent)) (n : Nat) (es : List MV) (tn : Int) (s : Sg) (st : Option (Str × Str)) (C : Tb Cl2) (G : List MV) : Prop where
  R : RefsAt A r e t l T sp L es
  E : EditAt A d r c g tn s.v st true C G
  ct : c ≠ t
  cl : c ≠ l
  lt : l ≠ t
  tT : TabOk T
  tL : LogOk L n
  tsp : SpOk sp
  tst : ∀ p, st = some p → SpOk p
  ap : pfx (keys T) = false
  tC : CallsOk C
  ts : SgOk s
section
variable {A : AH} {r e t l d c g n : Nat} {T : Tb Str} {sp : Str × Str} {L : Tb (List Ent)} {es : List MV} {tn : Int} {s : Sg} {st : Option (Str × Str)} {C : Tb Cl2} {G : List MV}
theorem sp2_ok (h : Rdy A r e t l d c g T sp L n es tn s st C G) : SpOk (st.getD sp) := by
  cases e : st with
  | none => exact h.tsp
  | some p => exact h.tst p e
def logsB (T : Tb Str) (sp : Str × Str) (L : Tb (List Ent)) (s : Sg) (st : Option (Str × Str)) (C : Tb Cl2) : Tb (List Ent) := logs2 T (appl T C) sp (st.getD sp) s (notes T (appl T C) s (mvs T (appl T C) C) (srtL L))
theorem logsB_ok (h : Rdy A r e t l d c g T sp L n es tn s st C G) : LogOk (logsB T sp L s st C) (n + 15) := by
  have hV := appl_ok h.tT h.tC.all
  have h1 := notes_ok (V := appl T C) h.tT hV h.ts (ks := mvs T (appl T C) C) (fun k hk => h.tC.key (mem_skeys.mp (List.mem_filter.mp hk).1)) (srtL_ok h.tL)
  have hl := mvs_len (T := T) (V := appl T C) h.tC
  unfold logsB logs2
  split
  · exact (note1_ok h1 (.inr rfl) (ent_ok h.ts (fun x e => hd_val h.tT h.tsp e) fun x e => hd_val hV (sp2_ok h) e)).up (by omega)
  · exact h1.up (by omega)
theorem st_none : stV none = .non := rfl
theorem isNo {A : AH} : isNM .non .non A = .ok (.bl true) A := rfl
theorem isSo {p : Str × Str} {A : AH} : isNM (spV p) .non A = .ok (.bl false) A := rfl
theorem st_some {p : Str × Str} : stV (some p) = spV p := rfl
theorem isN_st {st : Option (Str × Str)} {A : AH} : isNM (stV st) .non A = .ok (.bl st.isNone) A := by cases st <;> rfl
theorem notN_st {st : Option (Str × Str)} {A : AH} : notNM (stV st) .non A = .ok (.bl st.isSome) A := by cases st <;> rfl
theorem behind_err {x : Str} {fs : List (Str × MV)} {A' : AH} (h : Rdy A r e t l d c g T sp L n es tn s st C G) (q : checkR A T C = .err x fs A') : F_Edit_behind [.ref d] A = .err x fs A' := by
  have m1 : mthB "Edit" "moves" (.ref d) A = true := mth_at h.E.d rfl
  unfold F_Edit_behind b_Edit_behind
  simp only [defM, sSeq, sIf, sSet, sRet, sRetN, sExpr, sNext, sFld_def, sSub, sRaise, eVar, eC, eBin, eUn, tB', eB, bNot, bAnd, bOr, bIf, eIf, eAnd, eOr, eNot, aNil, aCons, eTup, aLst, eFrz, eRef, pN, pA, pK, pAK, eCall, eMeth_def, eFld_def, eMake_def, bind_ok, bind_err, bind_bad, fs_ok, fs_err, fs_bad, List.map_cons, List.map_nil, List.length_cons, List.length_nil, List.replicate, List.cons_append, List.nil_append, List.getElem?_cons_zero, List.getElem?_cons_succ, List.set_cons_zero, List.set_cons_succ, sz0, sz1, sz2, sz3, sz4, sz5, if_true, and_self, Nat.reduceSub, Nat.reduceAdd, List.lookup_cons, List.lookup_nil, m1, moves_err h.R h.E h.ct h.tT h.tC q]
theorem behind_ok (h : Rdy A r e t l d c g T sp L n es tn s st C G) (hn : n + 20 ≤ 900) (ok : OkC T C) : ∃ A', F_Edit_behind [.ref d] A = .ok (statV (srt (appl T C)) (st.getD sp) (srtL (logsB T sp L s st C))) A' ∧ Fr (fun _ => False) A A' := by
  have dl := at_lt h.E.d
  have rl := at_lt h.R.r
  have hV := appl_ok h.tT h.tC.all
  have m1 : mthB "Edit" "moves" (.ref d) A = true := mth_at h.E.d rfl
  have mv := moves_ok h.R h.E h.ct h.tT h.tC (ok.chk A)
  have LB := logsB_ok h
  unfold logsB at LB
  generalize hVe : appl T C = V at mv hV LB
  have f1 : Fr (fun _ => False) A (A ++ [MO.dct (tabV V)]) := Fr.app
  have l1 : (A ++ [MO.dct (tabV V)]).length = A.length + 1 := by rw [List.length_append]; rfl
  generalize hA1 : A ++ [MO.dct (tabV V)] = A1 at mv f1 l1
  have R1 := h.R.fr f1 id id id id
  have E1 := h.E.fr f1 id id id
  have m2 : mthB "Refs" "copied" (.ref r) A1 = true := mth_at R1.r rfl
  obtain ⟨A2, cp, R2, f2, l2⟩ := copied_ok R1 h.tT h.tL (by omega) h.tsp h.ap
  have f12 := f1.trans f2
  have R2h := h.R.fr f12 id id id id
  have E2 := h.E.fr f12 id id id
  have m3 : mthB "Refs" "at_head" (.ref A1.length) A2 = true := mth_at R2.r rfl
  have ah := at_head_ok R2
  rw [hd_srt] at ah
  have m4 : mthB "Edit" "check" (.ref d) A2 = true := mth_at E2.d rfl
  have ck := check_ok R2h E2 h.ct h.tT h.tC
  rw [ok.chk A2, hVe] at ck
  have f3 : Fr (fun _ => False) A2 (A2 ++ [MO.dct (tabV V)]) := Fr.app
  have v3 : (A2 ++ [MO.dct (tabV V)])[A2.length]? = some (.dct (tabV V)) := new_at
  have R3 := R2.fr f3 id id id id
  generalize hA3 : A2 ++ [MO.dct (tabV V)] = A3 at ck f3 v3 R3
  have p1 : putFld "Refs" "table" (.ref A1.length) (.ref A2.length) A3 = some (A3.set A1.length (.ins "Refs" [("edits", .ref (A1.length + 1)), ("table", .ref A2.length), ("spot", spV sp), ("logs", .ref (A1.length + 3))])) := putFld_at R3.r (by show 4 < 900; decide)
  have r4 : (A3.set A1.length (.ins "Refs" [("edits", .ref (A1.length + 1)), ("table", .ref A2.length), ("spot", spV sp), ("logs", .ref (A1.length + 3))]))[A1.length]? = some (.ins "Refs" [("edits", .ref (A1.length + 1)), ("table", .ref A2.length), ("spot", spV sp), ("logs", .ref (A1.length + 3))]) := set_at R3.r
  have d4 : (A3.set A1.length (.ins "Refs" [("edits", .ref (A1.length + 1)), ("table", .ref A2.length), ("spot", spV sp), ("logs", .ref (A1.length + 3))]))[d]? = A[d]? := by rw [set_ne (by omega), h.E.d]; exact f3.same _ _ id E2.d
  generalize hA4 : A3.set A1.length (.ins "Refs" [("edits", .ref (A1.length + 1)), ("table", .ref A2.length), ("spot", spV sp), ("logs", .ref (A1.length + 3))]) = A4 at p1 r4 d4
  have s4 : fldM "Refs" "spot" (.ref A1.length) A4 = .ok (spV sp) A4 := fld_at r4 rfl
  have st4 : fldM "Edit" "stands" (.ref d) A4 = .ok (stV st) A4 := fld_at (d4.trans h.E.d) rfl
  have p2 : putFld "Refs" "spot" (.ref A1.length) (spV (st.getD sp)) A4 = some (A4.set A1.length (.ins "Refs" [("edits", .ref (A1.length + 1)), ("table", .ref A2.length), ("spot", spV (st.getD sp)), ("logs", .ref (A1.length + 3))])) := putFld_at r4 (by show 4 < 900; decide)
  generalize hsp2 : st.getD sp = sp2 at p2 LB
  have hs : (st = none ∧ spV sp = spV sp2) ∨ st = some sp2 := by
    cases st with
    | none => exact .inl ⟨rfl, congrArg spV hsp2⟩
    | some p => exact .inr (congrArg some hsp2)
  have f34 : Fr (fun n => n = A1.length) A3 (A4.set A1.length (.ins "Refs" [("edits", .ref (A1.length + 1)), ("table", .ref A2.length), ("spot", spV sp2), ("logs", .ref (A1.length + 3))])) := by
    rw [← hA4]
    exact Fr.trans (S := fun n => n = A1.length) (Fr.set rfl) (Fr.set rfl)
  have R5 : RefsAt (A4.set A1.length (.ins "Refs" [("edits", .ref (A1.length + 1)), ("table", .ref A2.length), ("spot", spV sp2), ("logs", .ref (A1.length + 3))])) A1.length (A1.length + 1) A2.length (A1.length + 3) V sp2 (srtL L) [] := ⟨set_at r4, f34.same _ _ (by omega) R3.e, f34.same _ _ (by omega) v3, f34.same _ _ (by omega) R3.l⟩
  generalize hA5 : A4.set A1.length (.ins "Refs" [("edits", .ref (A1.length + 1)), ("table", .ref A2.length), ("spot", spV sp2), ("logs", .ref (A1.length + 3))]) = A5 at p2 f34 R5
  have f5 : Fr (fun _ => False) A A5 := ((f12.trans f3).cut (f34.mono fun n e => .inr (by omega)))
  have hml := mvs_len (T := T) (V := V) h.tC
  obtain ⟨a', b', c', A6, lp, R6, f6, l6⟩ := note_loop (A0 := A5) (V := V) (s := s) (x0 := some (.ref d)) (x1 := some (.tup ((mvs T V C).map (mvV T V)))) (x2 := some (.ref A1.length)) (x3 := some (oV (hd T sp))) (body := sExpr (eMeth "Refs" "note" 3 0 (fun ms _ => ms) F_Refs_note (eVar 2) (pA (aCons (eVar 4) (aCons (eBin addM (eTup (aCons (eVar 5) (aCons (eVar 6) aNil))) (eFld "Edit" "signed" (eVar 0))) aNil))))) h.tT hV h.ts (fun B L' n' k f R' hL' hn' => by
    have m : mthB "Refs" "note" (.ref A1.length) B = true := mth_at R'.r rfl
    have sg : fldM "Edit" "signed" (.ref d) B = .ok s.v B := fld_at (f.same _ _ (by omega) (f5.same _ _ id h.E.d)) rfl
    simp only [defM, sSeq, sIf, sSet, sRet, sRetN, sExpr, sNext, sFld_def, sSub, sRaise, eVar, eC, eBin, eUn, tB', eB, bNot, bAnd, bOr, bIf, eIf, eAnd, eOr, eNot, aNil, aCons, eTup, aLst, eFrz, eRef, pN, pA, pK, pAK, eCall, eMeth_def, eFld_def, eMake_def, bind_ok, bind_err, bind_bad, fs_ok, fs_err, fs_bad, List.map_cons, List.map_nil, List.length_cons, List.length_nil, List.replicate, List.cons_append, List.nil_append, List.getElem?_cons_zero, List.getElem?_cons_succ, List.set_cons_zero, List.set_cons_succ, sz0, sz1, sz2, sz3, sz4, sz5, if_true, and_self, Nat.reduceSub, Nat.reduceAdd, List.lookup_cons, List.lookup_nil, m, sg, add_ent, note_ok R' hL' hn']) (mvs T V C) A5 (srtL L) n none none none Fr.refl R5 (by omega) (srtL_ok h.tL) (by omega) (fun k hk => h.tC.key (mem_skeys.mp (List.mem_filter.mp hk).1))
  have f6' : Fr (fun _ => False) A A6 := f5.cut (f6.mono fun n e => .inr (by omega))
  have L6 := notes_ok (V := V) h.tT hV h.ts (ks := mvs T V C) (fun k hk => h.tC.key (mem_skeys.mp (List.mem_filter.mp hk).1)) (srtL_ok h.tL)
  have E6 := h.E.fr f6' id id id
  have R6h := h.R.fr f6' id id id id
  have m6 : mthB "Refs" "at_head" (.ref A1.length) A6 = true := mth_at R6.r rfl
  have m6s : mthB "Refs" "state" (.ref A1.length) A6 = true := mth_at R6.r rfl
  have m6n : mthB "Refs" "note" (.ref A1.length) A6 = true := mth_at R6.r rfl
  have ah6 := at_head_ok R6
  have sl : ∀ {x : FS} {v2 v3 v4 v5 v6 : Option MV} {B : AH}, sLk (eVar 1) x [some (.ref d), some (.tup ((mvs T V C).map (mvV T V))), v2, v3, v4, v5, v6] B = x [some (.ref d), some (.tup ((mvs T V C).map (mvV T V))), v2, v3, v4, v5, v6] B := by
    intro x v2 v3 v4 v5 v6 B
    rfl
  have it : ∀ {B : AH} {xs : List MV}, itV B (.tup xs) = some xs := by intro B xs; rfl
  -- the state that is told
  have fin : ∀ (L' : Tb (List Ent)) (B : AH), RefsAt B A1.length (A1.length + 1) A2.length (A1.length + 3) V sp2 L' [] → LogOk L' (n + 15) → F_Refs_state [.ref A1.length] B = .ok (statV (srt V) sp2 (srtL L')) B := fun L' B R' hL' => state_ok R' hV hL'
  by_cases hc : chg sp sp2 (hd T sp) (hd V sp2) = true
  · have nh := note_ok R6 (L6.up (show _ ≤ n + 14 by omega)) (by omega) (k := "HEAD") (x := s.ent (hd T sp) (hd V sp2))
    have f7 : Fr (fun n => n = A1.length + 3) A6 (A6.set (A1.length + 3) (.dct (logV (note1 (notes T V s (mvs T V C) (srtL L)) "HEAD" (s.ent (hd T sp) (hd V sp2)))))) := Fr.set rfl
    have R7 : RefsAt (A6.set (A1.length + 3) (.dct (logV (note1 (notes T V s (mvs T V C) (srtL L)) "HEAD" (s.ent (hd T sp) (hd V sp2)))))) A1.length (A1.length + 1) A2.length (A1.length + 3) V sp2 (note1 (notes T V s (mvs T V C) (srtL L)) "HEAD" (s.ent (hd T sp) (hd V sp2))) [] := ⟨f7.same _ _ (by omega) R6.r, f7.same _ _ (by omega) R6.e, f7.same _ _ (by omega) R6.t, set_at R6.l⟩
    have e7 : logsB T sp L s st C = note1 (notes T V s (mvs T V C) (srtL L)) "HEAD" (s.ent (hd T sp) (hd V sp2)) := by
      unfold logsB logs2
      rw [hVe, hsp2, if_pos hc]
    have LB7 : LogOk (note1 (notes T V s (mvs T V C) (srtL L)) "HEAD" (s.ent (hd T sp) (hd V sp2))) (n + 15) := by
      unfold logs2 at LB
      rw [if_pos hc] at LB
      exact LB
    have m7s : mthB "Refs" "state" (.ref A1.length) (A6.set (A1.length + 3) (.dct (logV (note1 (notes T V s (mvs T V C) (srtL L)) "HEAD" (s.ent (hd T sp) (hd V sp2)))))) = true := mth_at R7.r rfl
    refine ⟨_, ?_, f6'.cut (f7.mono fun n e => .inr (by omega))⟩
    have fn := fin _ _ R7 LB7
    rw [hsp2, e7, ← hVe] at *
    rcases hs with ⟨h1, h2⟩ | h1
    · rw [h1, st_none] at st4
      rw [h2] at s4
      unfold F_Edit_behind b_Edit_behind
      simp only [defM, sSeq, sIf, sSet, sRet, sRetN, sExpr, sNext, sFld_def, sSub, sRaise, eVar, eC, eBin, eUn, tB', eB, bNot, bAnd, bOr, bIf, eIf, eAnd, eOr, eNot, aNil, aCons, eTup, aLst, eFrz, eRef, pN, pA, pK, pAK, eCall, eMeth_def, eFld_def, eMake_def, bind_ok, bind_err, bind_bad, fs_ok, fs_err, fs_bad, List.map_cons, List.map_nil, List.length_cons, List.length_nil, List.replicate, List.cons_append, List.nil_append, List.getElem?_cons_zero, List.getElem?_cons_succ, List.set_cons_zero, List.set_cons_succ, sz0, sz1, sz2, sz3, sz4, sz5, if_true, and_self, Nat.reduceSub, Nat.reduceAdd, List.lookup_cons, List.lookup_nil, m1, mv, E1.fh, m2, cp, m3, ah, m4, ck, p1, st4, isNo, isSo, s4, p2, sl, sFor, iAny, it, lp, R6.fs, E6.fh, R6h.fs, ne_sp, m6, ah6, ne_o]
      unfold chg at hc
      cases hx : decide (sp2 = sp) with
      | false => simp only [defM, sSeq, sIf, sSet, sRet, sRetN, sExpr, sNext, sFld_def, sSub, sRaise, eVar, eC, eBin, eUn, tB', eB, bNot, bAnd, bOr, bIf, eIf, eAnd, eOr, eNot, aNil, aCons, eTup, aLst, eFrz, eRef, pN, pA, pK, pAK, eCall, eMeth_def, eFld_def, eMake_def, bind_ok, bind_err, bind_bad, fs_ok, fs_err, fs_bad, List.map_cons, List.map_nil, List.length_cons, List.length_nil, List.replicate, List.cons_append, List.nil_append, List.getElem?_cons_zero, List.getElem?_cons_succ, List.set_cons_zero, List.set_cons_succ, sz0, sz1, sz2, sz3, sz4, sz5, if_true, and_self, Nat.reduceSub, Nat.reduceAdd, List.lookup_cons, List.lookup_nil, Bool.not_false, m6n, m6, ah6, E6.fsg, add_ent, nh, m7s, fn]
      | true =>
        rw [hx] at hc
        cases hy : decide (hd (appl T C) sp2 = hd T sp) with
        | true => rw [hy] at hc; cases hc
        | false => simp only [defM, sSeq, sIf, sSet, sRet, sRetN, sExpr, sNext, sFld_def, sSub, sRaise, eVar, eC, eBin, eUn, tB', eB, bNot, bAnd, bOr, bIf, eIf, eAnd, eOr, eNot, aNil, aCons, eTup, aLst, eFrz, eRef, pN, pA, pK, pAK, eCall, eMeth_def, eFld_def, eMake_def, bind_ok, bind_err, bind_bad, fs_ok, fs_err, fs_bad, List.map_cons, List.map_nil, List.length_cons, List.length_nil, List.replicate, List.cons_append, List.nil_append, List.getElem?_cons_zero, List.getElem?_cons_succ, List.set_cons_zero, List.set_cons_succ, sz0, sz1, sz2, sz3, sz4, sz5, if_true, and_self, Nat.reduceSub, Nat.reduceAdd, List.lookup_cons, List.lookup_nil, Bool.not_true, Bool.not_false, m6n, m6, ah6, hy, ne_o, E6.fsg, add_ent, nh, m7s, fn]
    · rw [h1, st_some] at st4
      unfold F_Edit_behind b_Edit_behind
      simp only [defM, sSeq, sIf, sSet, sRet, sRetN, sExpr, sNext, sFld_def, sSub, sRaise, eVar, eC, eBin, eUn, tB', eB, bNot, bAnd, bOr, bIf, eIf, eAnd, eOr, eNot, aNil, aCons, eTup, aLst, eFrz, eRef, pN, pA, pK, pAK, eCall, eMeth_def, eFld_def, eMake_def, bind_ok, bind_err, bind_bad, fs_ok, fs_err, fs_bad, List.map_cons, List.map_nil, List.length_cons, List.length_nil, List.replicate, List.cons_append, List.nil_append, List.getElem?_cons_zero, List.getElem?_cons_succ, List.set_cons_zero, List.set_cons_succ, sz0, sz1, sz2, sz3, sz4, sz5, if_true, and_self, Nat.reduceSub, Nat.reduceAdd, List.lookup_cons, List.lookup_nil, m1, mv, E1.fh, m2, cp, m3, ah, m4, ck, p1, st4, isNo, isSo, s4, p2, sl, sFor, iAny, it, lp, R6.fs, E6.fh, R6h.fs, ne_sp, m6, ah6, ne_o]
      unfold chg at hc
      cases hx : decide (sp2 = sp) with
      | false => simp only [defM, sSeq, sIf, sSet, sRet, sRetN, sExpr, sNext, sFld_def, sSub, sRaise, eVar, eC, eBin, eUn, tB', eB, bNot, bAnd, bOr, bIf, eIf, eAnd, eOr, eNot, aNil, aCons, eTup, aLst, eFrz, eRef, pN, pA, pK, pAK, eCall, eMeth_def, eFld_def, eMake_def, bind_ok, bind_err, bind_bad, fs_ok, fs_err, fs_bad, List.map_cons, List.map_nil, List.length_cons, List.length_nil, List.replicate, List.cons_append, List.nil_append, List.getElem?_cons_zero, List.getElem?_cons_succ, List.set_cons_zero, List.set_cons_succ, sz0, sz1, sz2, sz3, sz4, sz5, if_true, and_self, Nat.reduceSub, Nat.reduceAdd, List.lookup_cons, List.lookup_nil, Bool.not_false, m6n, m6, ah6, E6.fsg, add_ent, nh, m7s, fn]
      | true =>
        rw [hx] at hc
        cases hy : decide (hd (appl T C) sp2 = hd T sp) with
        | true => rw [hy] at hc; cases hc
        | false => simp only [defM, sSeq, sIf, sSet, sRet, sRetN, sExpr, sNext, sFld_def, sSub, sRaise, eVar, eC, eBin, eUn, tB', eB, bNot, bAnd, bOr, bIf, eIf, eAnd, eOr, eNot, aNil, aCons, eTup, aLst, eFrz, eRef, pN, pA, pK, pAK, eCall, eMeth_def, eFld_def, eMake_def, bind_ok, bind_err, bind_bad, fs_ok, fs_err, fs_bad, List.map_cons, List.map_nil, List.length_cons, List.length_nil, List.replicate, List.cons_append, List.nil_append, List.getElem?_cons_zero, List.getElem?_cons_succ, List.set_cons_zero, List.set_cons_succ, sz0, sz1, sz2, sz3, sz4, sz5, if_true, and_self, Nat.reduceSub, Nat.reduceAdd, List.lookup_cons, List.lookup_nil, Bool.not_true, Bool.not_false, m6n, m6, ah6, hy, ne_o, E6.fsg, add_ent, nh, m7s, fn]
  · have e7 : logsB T sp L s st C = notes T V s (mvs T V C) (srtL L) := by
      unfold logsB logs2
      rw [hVe, hsp2, if_neg hc]
    refine ⟨A6, ?_, f6'⟩
    have fn := fin _ _ R6 (L6.up (by omega))
    rw [hsp2, e7, ← hVe] at *
    rcases hs with ⟨h1, h2⟩ | h1
    · rw [h1, st_none] at st4
      rw [h2] at s4
      unfold F_Edit_behind b_Edit_behind
      simp only [defM, sSeq, sIf, sSet, sRet, sRetN, sExpr, sNext, sFld_def, sSub, sRaise, eVar, eC, eBin, eUn, tB', eB, bNot, bAnd, bOr, bIf, eIf, eAnd, eOr, eNot, aNil, aCons, eTup, aLst, eFrz, eRef, pN, pA, pK, pAK, eCall, eMeth_def, eFld_def, eMake_def, bind_ok, bind_err, bind_bad, fs_ok, fs_err, fs_bad, List.map_cons, List.map_nil, List.length_cons, List.length_nil, List.replicate, List.cons_append, List.nil_append, List.getElem?_cons_zero, List.getElem?_cons_succ, List.set_cons_zero, List.set_cons_succ, sz0, sz1, sz2, sz3, sz4, sz5, if_true, and_self, Nat.reduceSub, Nat.reduceAdd, List.lookup_cons, List.lookup_nil, m1, mv, E1.fh, m2, cp, m3, ah, m4, ck, p1, st4, isNo, isSo, s4, p2, sl, sFor, iAny, it, lp, R6.fs, E6.fh, R6h.fs, ne_sp, m6, ah6, ne_o]
      unfold chg at hc
      cases hx : decide (sp2 = sp) with
      | false => rw [hx] at hc; exact absurd rfl hc
      | true =>
        rw [hx] at hc
        cases hy : decide (hd (appl T C) sp2 = hd T sp) with
        | false => rw [hy] at hc; exact absurd rfl hc
        | true => simp only [defM, sSeq, sIf, sSet, sRet, sRetN, sExpr, sNext, sFld_def, sSub, sRaise, eVar, eC, eBin, eUn, tB', eB, bNot, bAnd, bOr, bIf, eIf, eAnd, eOr, eNot, aNil, aCons, eTup, aLst, eFrz, eRef, pN, pA, pK, pAK, eCall, eMeth_def, eFld_def, eMake_def, bind_ok, bind_err, bind_bad, fs_ok, fs_err, fs_bad, List.map_cons, List.map_nil, List.length_cons, List.length_nil, List.replicate, List.cons_append, List.nil_append, List.getElem?_cons_zero, List.getElem?_cons_succ, List.set_cons_zero, List.set_cons_succ, sz0, sz1, sz2, sz3, sz4, sz5, if_true, and_self, Nat.reduceSub, Nat.reduceAdd, List.lookup_cons, List.lookup_nil, Bool.not_true, m6, ah6, hy, ne_o, m6s, fn]
    · rw [h1, st_some] at st4
      unfold F_Edit_behind b_Edit_behind
      simp only [defM, sSeq, sIf, sSet, sRet, sRetN, sExpr, sNext, sFld_def, sSub, sRaise, eVar, eC, eBin, eUn, tB', eB, bNot, bAnd, bOr, bIf, eIf, eAnd, eOr, eNot, aNil, aCons, eTup, aLst, eFrz, eRef, pN, pA, pK, pAK, eCall, eMeth_def, eFld_def, eMake_def, bind_ok, bind_err, bind_bad, fs_ok, fs_err, fs_bad, List.map_cons, List.map_nil, List.length_cons, List.length_nil, List.replicate, List.cons_append, List.nil_append, List.getElem?_cons_zero, List.getElem?_cons_succ, List.set_cons_zero, List.set_cons_succ, sz0, sz1, sz2, sz3, sz4, sz5, if_true, and_self, Nat.reduceSub, Nat.reduceAdd, List.lookup_cons, List.lookup_nil, m1, mv, E1.fh, m2, cp, m3, ah, m4, ck, p1, st4, isNo, isSo, s4, p2, sl, sFor, iAny, it, lp, R6.fs, E6.fh, R6h.fs, ne_sp, m6, ah6, ne_o]
      unfold chg at hc
      cases hx : decide (sp2 = sp) with
      | false => rw [hx] at hc; exact absurd rfl hc
      | true =>
        rw [hx] at hc
        cases hy : decide (hd (appl T C) sp2 = hd T sp) with
        | false => rw [hy] at hc; exact absurd rfl hc
        | true => simp only [defM, sSeq, sIf, sSet, sRet, sRetN, sExpr, sNext, sFld_def, sSub, sRaise, eVar, eC, eBin, eUn, tB', eB, bNot, bAnd, bOr, bIf, eIf, eAnd, eOr, eNot, aNil, aCons, eTup, aLst, eFrz, eRef, pN, pA, pK, pAK, eCall, eMeth_def, eFld_def, eMake_def, bind_ok, bind_err, bind_bad, fs_ok, fs_err, fs_bad, List.map_cons, List.map_nil, List.length_cons, List.length_nil, List.replicate, List.cons_append, List.nil_append, List.getElem?_cons_zero, List.getElem?_cons_succ, List.set_cons_zero, List.set_cons_succ, sz0, sz1, sz2, sz3, sz4, sz5, if_true, and_self, Nat.reduceSub, Nat.reduceAdd, List.lookup_cons, List.lookup_nil, Bool.not_true, m6, ah6, hy, ne_o, m6s, fn]
end
end Rp
/-! RpD: Edit.finish -/
namespace Rp
open PySem PySem.Spec PyProof.Rows Mv Rf
theorem lc_ys2 {γ : Type} {fi : FL} {own is : List Nat} {g : MV → Option (List MV)} {q : FQ} {ρ : ME} {A B : AH} {inj : γ → MV} {h : γ → List MV} {ys : List γ} (h1 : fi ρ A = .ok (ys.map inj) B) (H : ∀ y ∈ ys, ∃ ms, g (inj y) = some ms ∧ q (setAllM (wipeM ρ own) is ms) B = .ok (h y) B) (z : szL (ys.flatMap h) = true) : aLc fi own is g q ρ A = .ok (ys.flatMap h) B := by
  unfold aLc
  rw [h1, bind_ok, qRun_ys H]
  dsimp only
  rw [if_pos z]
section
variable {A : AH} {r e t l d c g n : Nat} {T : Tb Str} {sp : Str × Str} {L : Tb (List Ent)} {es : List MV} {tn : Int} {s : Sg} {st : Option (Str × Str)} {C : Tb Cl2} {G : List MV}
theorem finish_err {x : Str} {fs : List (Str × MV)} {A' : AH} (h : Rdy A r e t l d c g T sp L n es tn s st C G) (q : checkR A T C = .err x fs A') : F_Edit_finish [.ref d] A = .err x fs A' := by
  have m1 : mthB "Edit" "behind" (.ref d) A = true := mth_at h.E.d rfl
  unfold F_Edit_finish b_Edit_finish
  simp only [defM, sSeq, sIf, sSet, sRet, sRetN, sExpr, sNext, sFld_def, sSub, sRaise, eVar, eC, eBin, eUn, tB', eB, bNot, bAnd, bOr, bIf, eIf, eAnd, eOr, eNot, aNil, aCons, eTup, aLst, eFrz, eRef, pN, pA, pK, pAK, eCall, eMeth_def, eFld_def, eMake_def, bind_ok, bind_err, bind_bad, fs_ok, fs_err, fs_bad, List.map_cons, List.map_nil, List.length_cons, List.length_nil, List.replicate, List.cons_append, List.nil_append, List.getElem?_cons_zero, List.getElem?_cons_succ, List.set_cons_zero, List.set_cons_succ, sz0, sz1, sz2, sz3, sz4, sz5, if_true, and_self, Nat.reduceSub, Nat.reduceAdd, List.lookup_cons, List.lookup_nil, m1, behind_err h q]
theorem Rdy.fr {A' : AH} (h : Rdy A r e t l d c g T sp L n es tn s st C G) (f : Fr (fun _ => False) A A') : Rdy A' r e t l d c g T sp L n es tn s st C G := ⟨h.R.fr f id id id id, h.E.fr f id id id, h.ct, h.cl, h.lt, h.tT, h.tL, h.tsp, h.tst, h.ap, h.tC, h.ts⟩
theorem finish_ok (h : Rdy A r e t l d c g T sp L n es tn s st C G) (hn : n + 20 ≤ 900) (ok : OkC T C) : ∃ t' l' A', F_Edit_finish [.ref d] A = .ok .non A' ∧ RefsAt A' r e t' l' (srt (appl T C)) (st.getD sp) (srtL (logsB T sp L s st C)) es ∧ l' ≠ t' ∧ A.length ≤ t' ∧ A.length ≤ l' ∧ Fr (fun n => n = r ∨ n = d) A A' ∧
    A'[d]? = some (.ins "Edit" [("home", .ref r), ("turn", .int tn), ("signed", s.v), ("calls", .ref c), ("grips", .ref g), ("stands", stV st), ("is_open", .bl false), ("keeper", .non)]) := by
  have rl := at_lt h.R.r
  have dl := at_lt h.E.d
  have el := at_lt h.R.e
  have hrd : r ≠ d := at_ne h.R.r h.E.d (by intro z; cases z)
  have hre : r ≠ e := at_ne h.R.r h.R.e (by intro z; cases z)
  have hde : d ≠ e := at_ne h.E.d h.R.e (by intro z; cases z)
  have m1 : mthB "Edit" "behind" (.ref d) A = true := mth_at h.E.d rfl
  obtain ⟨A1, bh, f1⟩ := behind_ok h hn ok
  have h1 := h.fr f1
  have m2 : mthB "Edit" "moves" (.ref d) A1 = true := mth_at h1.E.d rfl
  have mv := moves_ok h1.R h1.E h.ct h.tT h.tC (ok.chk A1)
  have hV := appl_ok h.tT h.tC.all
  have SB := stOk_srt hV (logsB_ok h) (by omega) (sp2_ok h) ok.p
  obtain ⟨nb, _, LB⟩ := SB.l
  generalize hST : srt (appl T C) = ST at bh SB
  generalize hSL : srtL (logsB T sp L s st C) = SL at bh SB LB
  generalize appl T C = V at mv
  have f2 : Fr (fun _ => False) A1 (A1 ++ [MO.dct (tabV V)]) := Fr.app
  generalize hA2 : A1 ++ [MO.dct (tabV V)] = A2 at mv f2
  have h2 := h1.fr f2
  obtain ⟨ns, hns, lc⟩ : ∃ ns : List MV, ns.length ≤ 14 ∧ aLc (iAny (eMeth "Edit" "moves" 1 0 (fun ms _ => ms) F_Edit_moves (eVar 0) pN)) [3, 4, 5] [3, 4, 5] (gTupM 3 (gConsM gNm (gConsM gNm (gConsM gNm gNilM)))) (qElt (tB' (eBin notNM (eVar 5) (eC .non))) (eVar 5)) [some (.ref d), some (statV ST (st.getD sp) SL), none, none, none, none] A1 = .ok ns A2 := by
    have hl : ((mvs T V C).flatMap fun k => (match get V k with | some x => [MV.str x] | none => [])).length ≤ (mvs T V C).length := by
      generalize mvs T V C = ks
      induction ks with
      | nil => exact Nat.le_refl _
      | cons k ks ih =>
        rw [List.flatMap_cons, List.length_append, List.length_cons]
        cases get V k with
        | none => show 0 + _ ≤ _; omega
        | some x => show 1 + _ ≤ _; omega
    have hm := mvs_len (T := T) (V := V) h.tC
    refine ⟨_, Nat.le_trans hl hm, lc_ys2 (ys := mvs T V C) (inj := mvV T V) ?_ ?_ (szL_le (by omega))⟩
    · simp only [defM, sSeq, sIf, sSet, sRet, sRetN, sExpr, sNext, sFld_def, sSub, sRaise, eVar, eC, eBin, eUn, tB', eB, bNot, bAnd, bOr, bIf, eIf, eAnd, eOr, eNot, aNil, aCons, eTup, aLst, eFrz, eRef, pN, pA, pK, pAK, eCall, eMeth_def, eFld_def, eMake_def, bind_ok, bind_err, bind_bad, fs_ok, fs_err, fs_bad, List.map_cons, List.map_nil, List.length_cons, List.length_nil, List.replicate, List.cons_append, List.nil_append, List.getElem?_cons_zero, List.getElem?_cons_succ, List.set_cons_zero, List.set_cons_succ, sz0, sz1, sz2, sz3, sz4, sz5, if_true, and_self, Nat.reduceSub, Nat.reduceAdd, List.lookup_cons, List.lookup_nil, iAny, m2, mv, itV, tupOf]
    · intro k _
      refine ⟨[.str k, oV (get T k), oV (get V k)], rfl, ?_⟩
      simp only [defM, sSeq, sIf, sSet, sRet, sRetN, sExpr, sNext, sFld_def, sSub, sRaise, eVar, eC, eBin, eUn, tB', eB, bNot, bAnd, bOr, bIf, eIf, eAnd, eOr, eNot, aNil, aCons, eTup, aLst, eFrz, eRef, pN, pA, pK, pAK, eCall, eMeth_def, eFld_def, eMake_def, bind_ok, bind_err, bind_bad, fs_ok, fs_err, fs_bad, List.map_cons, List.map_nil, List.length_cons, List.length_nil, List.replicate, List.cons_append, List.nil_append, List.getElem?_cons_zero, List.getElem?_cons_succ, List.set_cons_zero, List.set_cons_succ, sz0, sz1, sz2, sz3, sz4, sz5, if_true, and_self, Nat.reduceSub, Nat.reduceAdd, List.lookup_cons, List.lookup_nil, qElt, wipeM, setAllM]
      cases get V k <;> rfl
  have lkm : sLk (eMeth "Edit" "moves" 1 0 (fun ms _ => ms) F_Edit_moves (eVar 0) pN) (sSet 2 (eRef (aLc (iAny (eMeth "Edit" "moves" 1 0 (fun ms _ => ms) F_Edit_moves (eVar 0) pN)) [3, 4, 5] [3, 4, 5] (gTupM 3 (gConsM gNm (gConsM gNm (gConsM gNm gNilM)))) (qElt (tB' (eBin notNM (eVar 5) (eC .non))) (eVar 5))))) [some (.ref d), some (statV ST (st.getD sp) SL), none, none, none, none] A1 = .nx [some (.ref d), some (statV ST (st.getD sp) SL), some (.ref A2.length), none, none, none] (A2 ++ [.lst ns]) := by
    simp only [defM, sSeq, sIf, sSet, sRet, sRetN, sExpr, sNext, sFld_def, sSub, sRaise, eVar, eC, eBin, eUn, tB', eB, bNot, bAnd, bOr, bIf, eIf, eAnd, eOr, eNot, aNil, aCons, eTup, aLst, eFrz, eRef, pN, pA, pK, pAK, eCall, eMeth_def, eFld_def, eMake_def, bind_ok, bind_err, bind_bad, fs_ok, fs_err, fs_bad, List.map_cons, List.map_nil, List.length_cons, List.length_nil, List.replicate, List.cons_append, List.nil_append, List.getElem?_cons_zero, List.getElem?_cons_succ, List.set_cons_zero, List.set_cons_succ, sz0, sz1, sz2, sz3, sz4, sz5, if_true, and_self, Nat.reduceSub, Nat.reduceAdd, List.lookup_cons, List.lookup_nil, sLk, m2, mv]
    rw [lc]
    simp only [defM, sSeq, sIf, sSet, sRet, sRetN, sExpr, sNext, sFld_def, sSub, sRaise, eVar, eC, eBin, eUn, tB', eB, bNot, bAnd, bOr, bIf, eIf, eAnd, eOr, eNot, aNil, aCons, eTup, aLst, eFrz, eRef, pN, pA, pK, pAK, eCall, eMeth_def, eFld_def, eMake_def, bind_ok, bind_err, bind_bad, fs_ok, fs_err, fs_bad, List.map_cons, List.map_nil, List.length_cons, List.length_nil, List.replicate, List.cons_append, List.nil_append, List.getElem?_cons_zero, List.getElem?_cons_succ, List.set_cons_zero, List.set_cons_succ, sz0, sz1, sz2, sz3, sz4, sz5, if_true, and_self, Nat.reduceSub, Nat.reduceAdd, List.lookup_cons, List.lookup_nil]
  have f3 : Fr (fun _ => False) A2 (A2 ++ [MO.lst ns]) := Fr.app
  have n3 : (A2 ++ [MO.lst ns])[A2.length]? = some (.lst ns) := new_at
  generalize hA3 : A2 ++ [MO.lst ns] = A3 at f3 n3 lkm
  have h3 := h2.fr f3
  obtain ⟨A4, f4, ifr⟩ : ∃ A4, Fr (fun n => n = A2.length) A3 A4 ∧ (sIf (bAnd (tB' (eBin notNM (eFld "Edit" "stands" (eVar 0)) (eC .non))) (tB' (eBin eqM (eBin ixM (eFld "Edit" "stands" (eVar 0)) (eC (.int 0))) (eC (.str "id"))))) (sExpr (eApp (eVar 2) (eBin ixM (eFld "Edit" "stands" (eVar 0)) (eC (.int 1))))) sNext) [some (.ref d), some (statV ST (st.getD sp) SL), some (.ref A2.length), none, none, none] A3 = .nx [some (.ref d), some (statV ST (st.getD sp) SL), some (.ref A2.length), none, none, none] A4 := by
    have lw : lstW A3 (.ref A2.length) = some (A2.length, ns) := by unfold lstW; dsimp only; rw [n3]
    have lb : lstB A3 (.ref A2.length) = true := by unfold lstB; rw [lstV_at n3]; rfl
    have lt : ns.length < 1000000 := by omega
    have fs := h3.E.fst
    cases hst : st with
    | none =>
      rw [hst, st_none] at fs
      exact ⟨A3, Fr.refl, by simp only [defM, sSeq, sIf, sSet, sRet, sRetN, sExpr, sNext, sFld_def, sSub, sRaise, eVar, eC, eBin, eUn, tB', eB, bNot, bAnd, bOr, bIf, eIf, eAnd, eOr, eNot, aNil, aCons, eTup, aLst, eFrz, eRef, pN, pA, pK, pAK, eCall, eMeth_def, eFld_def, eMake_def, bind_ok, bind_err, bind_bad, fs_ok, fs_err, fs_bad, List.map_cons, List.map_nil, List.length_cons, List.length_nil, List.replicate, List.cons_append, List.nil_append, List.getElem?_cons_zero, List.getElem?_cons_succ, List.set_cons_zero, List.set_cons_succ, sz0, sz1, sz2, sz3, sz4, sz5, if_true, and_self, Nat.reduceSub, Nat.reduceAdd, List.lookup_cons, List.lookup_nil, fs, notNM, isN, Bool.not_true]⟩
    | some p =>
      rw [hst, st_some] at fs
      have i0 : ixM (spV p) (.int 0) A3 = .ok (.str p.1) A3 := ix_tup rfl
      have i1 : ixM (spV p) (.int 1) A3 = .ok (.str p.2) A3 := ix_tup rfl
      have nn : notNM (spV p) .non A3 = .ok (.bl true) A3 := rfl
      by_cases hp : p.1 = "id"
      · exact ⟨A3.set A2.length (.lst (ns ++ [.str p.2])), Fr.set rfl, by simp only [defM, sSeq, sIf, sSet, sRet, sRetN, sExpr, sNext, sFld_def, sSub, sRaise, eVar, eC, eBin, eUn, tB', eB, bNot, bAnd, bOr, bIf, eIf, eAnd, eOr, eNot, aNil, aCons, eTup, aLst, eFrz, eRef, pN, pA, pK, pAK, eCall, eMeth_def, eFld_def, eMake_def, bind_ok, bind_err, bind_bad, fs_ok, fs_err, fs_bad, List.map_cons, List.map_nil, List.length_cons, List.length_nil, List.replicate, List.cons_append, List.nil_append, List.getElem?_cons_zero, List.getElem?_cons_succ, List.set_cons_zero, List.set_cons_succ, sz0, sz1, sz2, sz3, sz4, sz5, if_true, and_self, Nat.reduceSub, Nat.reduceAdd, List.lookup_cons, List.lookup_nil, fs, nn, i0, eq_str, decide_eq_true hp, eApp, lb, i1, lw, if_pos lt]⟩
      · exact ⟨A3, Fr.refl, by simp only [defM, sSeq, sIf, sSet, sRet, sRetN, sExpr, sNext, sFld_def, sSub, sRaise, eVar, eC, eBin, eUn, tB', eB, bNot, bAnd, bOr, bIf, eIf, eAnd, eOr, eNot, aNil, aCons, eTup, aLst, eFrz, eRef, pN, pA, pK, pAK, eCall, eMeth_def, eFld_def, eMake_def, bind_ok, bind_err, bind_bad, fs_ok, fs_err, fs_bad, List.map_cons, List.map_nil, List.length_cons, List.length_nil, List.replicate, List.cons_append, List.nil_append, List.getElem?_cons_zero, List.getElem?_cons_succ, List.set_cons_zero, List.set_cons_succ, sz0, sz1, sz2, sz3, sz4, sz5, if_true, and_self, Nat.reduceSub, Nat.reduceAdd, List.lookup_cons, List.lookup_nil, fs, nn, i0, eq_str, decide_eq_false hp]⟩
  have l12 : A.length ≤ A2.length := Nat.le_trans f1.len f2.len
  have f14 : Fr (fun _ => False) A A4 := ((f1.trans f2).trans f3).cut (f4.mono fun n e => .inr (by omega))
  have h4 := h.fr f14
  have m4 : mthB "Refs" "take" (.ref r) A4 = true := mth_at h4.R.r rfl
  have ll : SL.length < 64 := by have := LB.len; unfold keys at this; rwa [List.length_map] at this
  obtain ⟨A5, tk, a1, a2, a3, a4, a5⟩ := take_ok (b := false) (T := ST) (sp := st.getD sp) (L := SL) h4.R.r (by show 4 < 100; decide) SB.t.nd LB.nd ll
  have d5 : A5[d]? = _ := a4.same _ _ (Ne.symm hrd) h4.E.d
  have pf : putFld "Edit" "is_open" (.ref d) (.bl false) A5 = some (A5.set d (.ins "Edit" [("home", .ref r), ("turn", .int tn), ("signed", s.v), ("calls", .ref c), ("grips", .ref g), ("stands", stV st), ("is_open", .bl false), ("keeper", .non)])) := putFld_at d5 (by show 8 < 900; decide)
  have l4 := f14.len
  refine ⟨A4.length, A4.length + 1, A5.set d (.ins "Edit" [("home", .ref r), ("turn", .int tn), ("signed", s.v), ("calls", .ref c), ("grips", .ref g), ("stands", stV st), ("is_open", .bl false), ("keeper", .non)]), ?_, ⟨?_, ?_, ?_, ?_⟩, by omega, by omega, by omega, ?_, set_at d5⟩
  · unfold F_Edit_finish b_Edit_finish
    simp only [defM, sSeq, List.map_cons, List.map_nil, List.length_cons, List.length_nil, Nat.reduceSub, Nat.reduceAdd, List.replicate, List.cons_append, List.nil_append, sSet, eMeth_def, eVar, List.getElem?_cons_zero, bind_ok, m1, if_true, pN, and_self, bh, fs_ok, List.set_cons_succ, List.set_cons_zero]
    simp only [sSet, eMeth_def, eVar] at lkm ifr
    rw [lkm]
    dsimp only
    rw [ifr]
    simp only [defM, sSeq, sIf, sSet, sRet, sRetN, sExpr, sNext, sFld_def, sSub, sRaise, eVar, eC, eBin, eUn, tB', eB, bNot, bAnd, bOr, bIf, eIf, eAnd, eOr, eNot, aNil, aCons, eTup, aLst, eFrz, eRef, pN, pA, pK, pAK, eCall, eMeth_def, eFld_def, eMake_def, bind_ok, bind_err, bind_bad, fs_ok, fs_err, fs_bad, List.map_cons, List.map_nil, List.length_cons, List.length_nil, List.replicate, List.cons_append, List.nil_append, List.getElem?_cons_zero, List.getElem?_cons_succ, List.set_cons_zero, List.set_cons_succ, sz0, sz1, sz2, sz3, sz4, sz5, if_true, and_self, Nat.reduceSub, Nat.reduceAdd, List.lookup_cons, List.lookup_nil, h4.E.fk, notNM, isN, Bool.not_true, h4.E.fh, m4, statV_is, tk, pf]
  · rw [set_ne (Ne.symm hrd)]; exact a1
  · rw [set_ne hde]; exact a4.same _ _ (Ne.symm hre) h4.R.e
  · rw [set_ne (by omega)]; exact a2
  · rw [set_ne (by omega)]; exact a3
  · exact (f14.mono fun n z => z.elim).trans ((a4.mono fun n e => .inl e).trans (Fr.set (.inr rfl)))
end
end Rp
/-! RpE: the law's own model: _law_new, _law_at_head, _law_behind -/
namespace Rp
open PySem PySem.Spec PyProof.Rows Mv Rf
def modK (mt ml : Nat) (sp : Str × Str) : List (L2.Key × MV) := [(.inr "table", .ref mt), (.inr "head", spV sp), (.inr "logs", .ref ml)]
structure ModAt (A : AH) (m mt ml : Nat) (T : Tb Str) (sp : Str × Str) (L : Tb (List Ent)) : Prop where
  m : A[m]? = some (.dct (modK mt ml sp))
  t : A[mt]? = some (.dct (tabV T))
  l : A[ml]? = some (.dct (logV L))
section
variable {A : AH} {m mt ml q n : Nat} {T : Tb Str} {sp : Str × Str} {L : Tb (List Ent)}
theorem ModAt.xt (M : ModAt A m mt ml T sp L) : ixM (.ref m) (.str "table") A = .ok (.ref mt) A := ix_dct (dctV_at M.m) rfl
theorem ModAt.xh (M : ModAt A m mt ml T sp L) : ixM (.ref m) (.str "head") A = .ok (spV sp) A := ix_dct (dctV_at M.m) rfl
theorem ModAt.xl (M : ModAt A m mt ml T sp L) : ixM (.ref m) (.str "logs") A = .ok (.ref ml) A := ix_dct (dctV_at M.m) rfl
theorem ModAt.dt (M : ModAt A m mt ml T sp L) : dctV A (.ref mt) = some (tabV T) := dctV_at M.t
theorem ModAt.dl (M : ModAt A m mt ml T sp L) : dctV A (.ref ml) = some (logV L) := dctV_at M.l
theorem ModAt.fr {A' : AH} {S : Nat → Prop} (M : ModAt A m mt ml T sp L) (f : Fr S A A') (h1 : ¬ S m) (h2 : ¬ S mt) (h3 : ¬ S ml) : ModAt A' m mt ml T sp L := ⟨f.same _ _ h1 M.m, f.same _ _ h2 M.t, f.same _ _ h3 M.l⟩
theorem law_new_ok : F__law_new [] A = .ok (.ref (A.length + 2)) (A ++ [.dct (tabV []), .dct (logV []), .dct (modK A.length (A.length + 1) ("ref", "main"))]) := by
  unfold F__law_new b__law_new
  simp only [defM, sSeq, sIf, sSet, sRet, sRetN, sExpr, sNext, sFld_def, sSub, sRaise, eVar, eC, eBin, eUn, tB', eB, bNot, bAnd, bOr, bIf, eIf, eAnd, eOr, eNot, aNil, aCons, eTup, aLst, eFrz, eRef, pN, pA, pK, pAK, eCall, eMeth_def, eFld_def, eMake_def, bind_ok, bind_err, bind_bad, fs_ok, fs_err, fs_bad, List.map_cons, List.map_nil, List.length_cons, List.length_nil, List.replicate, List.cons_append, List.nil_append, List.getElem?_cons_zero, List.getElem?_cons_succ, List.set_cons_zero, List.set_cons_succ, sz0, sz1, sz2, sz3, sz4, sz5, if_true, and_self, Nat.reduceSub, Nat.reduceAdd, List.lookup_cons, List.lookup_nil, eDisp, prsM, eDict0, keyOf]
  rw [if_pos (by decide)]
  simp only [List.length_append, List.length_cons, List.length_nil, List.append_assoc, List.cons_append, List.nil_append]
  rfl
theorem law_hd_ok (M : ModAt A m mt ml T sp L) : F__law_at_head [.ref m] A = .ok (oV (hd T sp)) A := by
  have i0 : ixM (spV sp) (.int 0) A = .ok (.str sp.1) A := ix_tup rfl
  have i1 : ixM (spV sp) (.int 1) A = .ok (.str sp.2) A := ix_tup rfl
  have g1 := get1_tab (k := sp.2) (fo := eBin ixM (eVar 0) (eC (.str "table"))) (fe := eBin ixM (eBin ixM (eVar 0) (eC (.str "head"))) (eC (.int 1))) (ρ := [some (.ref m)]) M.dt (by simp only [defM, sSeq, sIf, sSet, sRet, sRetN, sExpr, sNext, sFld_def, sSub, sRaise, eVar, eC, eBin, eUn, tB', eB, bNot, bAnd, bOr, bIf, eIf, eAnd, eOr, eNot, aNil, aCons, eTup, aLst, eFrz, eRef, pN, pA, pK, pAK, eCall, eMeth_def, eFld_def, eMake_def, bind_ok, bind_err, bind_bad, fs_ok, fs_err, fs_bad, List.map_cons, List.map_nil, List.length_cons, List.length_nil, List.replicate, List.cons_append, List.nil_append, List.getElem?_cons_zero, List.getElem?_cons_succ, List.set_cons_zero, List.set_cons_succ, sz0, sz1, sz2, sz3, sz4, sz5, if_true, and_self, Nat.reduceSub, Nat.reduceAdd, List.lookup_cons, List.lookup_nil, M.xt]) (by simp only [defM, sSeq, sIf, sSet, sRet, sRetN, sExpr, sNext, sFld_def, sSub, sRaise, eVar, eC, eBin, eUn, tB', eB, bNot, bAnd, bOr, bIf, eIf, eAnd, eOr, eNot, aNil, aCons, eTup, aLst, eFrz, eRef, pN, pA, pK, pAK, eCall, eMeth_def, eFld_def, eMake_def, bind_ok, bind_err, bind_bad, fs_ok, fs_err, fs_bad, List.map_cons, List.map_nil, List.length_cons, List.length_nil, List.replicate, List.cons_append, List.nil_append, List.getElem?_cons_zero, List.getElem?_cons_succ, List.set_cons_zero, List.set_cons_succ, sz0, sz1, sz2, sz3, sz4, sz5, if_true, and_self, Nat.reduceSub, Nat.reduceAdd, List.lookup_cons, List.lookup_nil, M.xh, i1])
  unfold F__law_at_head b__law_at_head
  simp only [defM, sSeq, sIf, sSet, sRet, sRetN, sExpr, sNext, sFld_def, sSub, sRaise, eVar, eC, eBin, eUn, tB', eB, bNot, bAnd, bOr, bIf, eIf, eAnd, eOr, eNot, aNil, aCons, eTup, aLst, eFrz, eRef, pN, pA, pK, pAK, eCall, eMeth_def, eFld_def, eMake_def, bind_ok, bind_err, bind_bad, fs_ok, fs_err, fs_bad, List.map_cons, List.map_nil, List.length_cons, List.length_nil, List.replicate, List.cons_append, List.nil_append, List.getElem?_cons_zero, List.getElem?_cons_succ, List.set_cons_zero, List.set_cons_succ, sz0, sz1, sz2, sz3, sz4, sz5, if_true, and_self, Nat.reduceSub, Nat.reduceAdd, List.lookup_cons, List.lookup_nil, M.xh, i0, eq_str]
  unfold hd
  by_cases h : sp.1 = "id"
  · rw [decide_eq_true h, if_pos h]
    simp only [defM, sSeq, sIf, sSet, sRet, sRetN, sExpr, sNext, sFld_def, sSub, sRaise, eVar, eC, eBin, eUn, tB', eB, bNot, bAnd, bOr, bIf, eIf, eAnd, eOr, eNot, aNil, aCons, eTup, aLst, eFrz, eRef, pN, pA, pK, pAK, eCall, eMeth_def, eFld_def, eMake_def, bind_ok, bind_err, bind_bad, fs_ok, fs_err, fs_bad, List.map_cons, List.map_nil, List.length_cons, List.length_nil, List.replicate, List.cons_append, List.nil_append, List.getElem?_cons_zero, List.getElem?_cons_succ, List.set_cons_zero, List.set_cons_succ, sz0, sz1, sz2, sz3, sz4, sz5, if_true, and_self, Nat.reduceSub, Nat.reduceAdd, List.lookup_cons, List.lookup_nil, M.xh, i1]
    rfl
  · rw [decide_eq_false h, if_neg h]
    dsimp only
    rw [g1]
    rfl
def c3 (p : Str × Cl2) : MV := .tup [.str p.1, oV p.2.1, oV p.2.2]
theorem lstale_loop {B : AH} {x0 x1 x2 x3 x7 x8 x9 x10 : Option MV} {body : FS} (hb : ∀ (p : Str × Cl2), body [x0, x1, x2, x3, some (.str p.1), some (oV p.2.1), some (oV p.2.2), x7, x8, x9, x10] B = if isSt T p.1 p.2 then .rt (.tup [.str "stale", .str p.1]) B else .nx [x0, x1, x2, x3, some (.str p.1), some (oV p.2.1), some (oV p.2.2), x7, x8, x9, x10] B) :
    ∀ (C : Tb Cl2) (a b c : Option MV), ∃ a' b' c', runL (turn [4, 5, 6] g3m body) (C.map c3) [x0, x1, x2, x3, a, b, c, x7, x8, x9, x10] B = match staleOf T C with
      | none => .nx [x0, x1, x2, x3, a', b', c', x7, x8, x9, x10] B
      | some k => .rt (.tup [.str "stale", .str k]) B
  | [], a, b, c => ⟨a, b, c, rfl⟩
  | p :: C, a, b, c => by
    have e : turn [4, 5, 6] g3m body (c3 p) [x0, x1, x2, x3, a, b, c, x7, x8, x9, x10] B = body [x0, x1, x2, x3, some (.str p.1), some (oV p.2.1), some (oV p.2.2), x7, x8, x9, x10] B := rfl
    by_cases h : isSt T p.1 p.2 = true
    · refine ⟨none, none, none, ?_⟩
      rw [List.map_cons]
      unfold runL
      rw [e, hb, if_pos h]
      unfold staleOf
      rw [if_pos h]
    · obtain ⟨a', b', c', q⟩ := lstale_loop hb C (some (.str p.1)) (some (oV p.2.1)) (some (oV p.2.2))
      refine ⟨a', b', c', ?_⟩
      rw [List.map_cons]
      unfold runL
      rw [e, hb, if_neg h]
      dsimp only
      rw [q]
      conv => rhs; unfold staleOf
      rw [if_neg h]
theorem lappl_loop {Hh : Tb Str → AH} {x0 x1 x2 x3 x7 x8 x9 x10 : Option MV} {body : FS} (hb : ∀ (U : Tb Str) (p : Str × Cl2), TabOk U → body [x0, x1, x2, x3, some (.str p.1), some (oV p.2.1), some (oV p.2.2), x7, x8, x9, x10] (Hh U) = .nx [x0, x1, x2, x3, some (.str p.1), some (oV p.2.1), some (oV p.2.2), x7, x8, x9, x10] (Hh (appl1 U p.1 p.2))) :
    ∀ (C : Tb Cl2) (U : Tb Str) (a b c : Option MV), TabOk U → (∀ p ∈ C, p.1 ∈ nms ∧ (∀ x, p.2.1 = some x → x ∈ ids) ∧ OldOk p.2.2) → ∃ a' b' c', runL (turn [4, 5, 6] g3m body) (C.map c3) [x0, x1, x2, x3, a, b, c, x7, x8, x9, x10] (Hh U) = .nx [x0, x1, x2, x3, a', b', c', x7, x8, x9, x10] (Hh (appl U C))
  | [], U, a, b, c, _, _ => ⟨a, b, c, rfl⟩
  | p :: C, U, a, b, c, hU, hC => by
    have e : ∀ B, turn [4, 5, 6] g3m body (c3 p) [x0, x1, x2, x3, a, b, c, x7, x8, x9, x10] B = body [x0, x1, x2, x3, some (.str p.1), some (oV p.2.1), some (oV p.2.2), x7, x8, x9, x10] B := fun _ => rfl
    obtain ⟨a', b', c', q⟩ := lappl_loop hb C (appl1 U p.1 p.2) (some (.str p.1)) (some (oV p.2.1)) (some (oV p.2.2)) (appl1_ok hU (hC p (List.mem_cons_self ..)).1 (hC p (List.mem_cons_self ..)).2.1) fun q hq => hC q (List.mem_cons_of_mem _ hq)
    refine ⟨a', b', c', ?_⟩
    rw [List.map_cons]
    unfold runL
    rw [e, hb U p hU]
    dsimp only
    rw [q]
    rfl
/-- a loop over names that may return -/
theorem find_loop {B : AH} {x0 x1 x2 x3 x5 x6 x7 x8 x9 x10 : Option MV} {body : FS} {f : Str → Bool} {v : MV} : ∀ (ks : List Str) (a : Option MV), (∀ k ∈ ks, body [x0, x1, x2, x3, some (.str k), x5, x6, x7, x8, x9, x10] B = if f k then .rt v B else .nx [x0, x1, x2, x3, some (.str k), x5, x6, x7, x8, x9, x10] B) →
    ∃ a', runL (turn [4] gNm body) (ks.map MV.str) [x0, x1, x2, x3, a, x5, x6, x7, x8, x9, x10] B = if ks.any f then .rt v B else .nx [x0, x1, x2, x3, a', x5, x6, x7, x8, x9, x10] B
  | [], a, _ => ⟨a, rfl⟩
  | k :: ks, a, hb => by
    have e : turn [4] gNm body (.str k) [x0, x1, x2, x3, a, x5, x6, x7, x8, x9, x10] B = body [x0, x1, x2, x3, some (.str k), x5, x6, x7, x8, x9, x10] B := rfl
    obtain ⟨a', q⟩ := find_loop (f := f) (v := v) ks (some (.str k)) fun j hj => hb j (List.mem_cons_of_mem _ hj)
    refine ⟨a', ?_⟩
    rw [List.map_cons, List.any_cons]
    unfold runL
    rw [e, hb k (List.mem_cons_self ..)]
    cases hf : f k with
    | true => rfl
    | false =>
      rw [if_neg Bool.false_ne_true, Bool.false_or]
      dsimp only
      rw [q]
theorem lnote_loop {V : Tb Str} {s : Sg} {Hh : Tb (List Ent) → AH} {x0 x1 x2 x3 x5 x6 x7 x9 x10 : Option MV} {body : FS} (hT : TabOk T) (hV : TabOk V) (hs : SgOk s)
    (hb : ∀ (L : Tb (List Ent)) (n : Nat) (k : Str) (x8 : Option MV), LogOk L n → n ≤ 900 → ∃ y8, body [x0, x1, x2, x3, some (.str k), x5, x6, x7, x8, x9, x10] (Hh L) = .nx [x0, x1, x2, x3, some (.str k), x5, x6, x7, y8, x9, x10] (Hh (if !decide (get T k = get V k) then note1 L k (s.ent (get T k) (get V k)) else L))) :
    ∀ (ks : List Str) (L : Tb (List Ent)) (n : Nat) (a x8 : Option MV), LogOk L n → n + ks.length ≤ 900 → (∀ k ∈ ks, k ∈ nms) → ∃ a' y8, runL (turn [4] gNm body) (ks.map MV.str) [x0, x1, x2, x3, a, x5, x6, x7, x8, x9, x10] (Hh L) = .nx [x0, x1, x2, x3, a', x5, x6, x7, y8, x9, x10] (Hh (notes T V s (ks.filter fun k => !decide (get T k = get V k)) L))
  | [], L, n, a, x8, _, _, _ => ⟨a, x8, rfl⟩
  | k :: ks, L, n, a, x8, hL, hn, hk => by
    rw [List.length_cons] at hn
    have e : ∀ B, turn [4] gNm body (.str k) [x0, x1, x2, x3, a, x5, x6, x7, x8, x9, x10] B = body [x0, x1, x2, x3, some (.str k), x5, x6, x7, x8, x9, x10] B := fun _ => rfl
    obtain ⟨y8, q1⟩ := hb L n k x8 hL (by omega)
    have hL1 : LogOk (if !decide (get T k = get V k) then note1 L k (s.ent (get T k) (get V k)) else L) (n + 1) := by
      split
      · exact note1_ok hL (.inl (hk k (List.mem_cons_self ..))) (ent_ok hs (fun x e => tab_val hT e) fun x e => tab_val hV e)
      · exact hL.up (Nat.le_succ n)
    obtain ⟨a', z8, q⟩ := lnote_loop hT hV hs hb ks _ (n + 1) (some (.str k)) y8 hL1 (by omega) fun j hj => hk j (List.mem_cons_of_mem _ hj)
    refine ⟨a', z8, ?_⟩
    rw [List.map_cons]
    unfold runL
    rw [e, q1]
    dsimp only
    rw [q, List.filter_cons]
    cases decide (get T k = get V k) <;> rfl
end
theorem strs_map : ∀ ks : List Str, strsOf (ks.map MV.str) = some ks
  | [] => rfl
  | k :: ks => by
    show (strsOf (ks.map MV.str)).map (k :: ·) = _
    rw [strs_map ks]
    rfl
theorem ne_strs_nil {ks : List Str} {A : AH} : neM (.lst (ks.map MV.str)) (.lst []) A = .ok (.bl (!ks.isEmpty)) A := by
  have h : datA A (.lst (ks.map MV.str)) = some (.list (ks.map PyData.str)) := by
    show (datMs (ks.map MV.str)).map PyData.list = _
    rw [datMs_str]
    rfl
  have h' : datA A (.lst []) = some (.list []) := rfl
  unfold neM
  rw [h, h']
  simp only [okD_strs, Bool.true_and]
  rw [if_pos (by decide)]
  cases ks with
  | nil => rfl
  | cons e es => simp [PyData.eqv, PyData.eqvAll]
def pf1 (ks : List Str) (k : Str) : Bool := !((abv k).filter fun p => decide (p ∈ ks)).isEmpty
theorem pf1_pfx {ks : List Str} : ks.any (pf1 ks) = pfx ks := by
  rw [Bool.eq_iff_iff, pfx_iff, List.any_eq_true]
  constructor
  · rintro ⟨k, hk, h⟩
    unfold pf1 at h
    cases e : (abv k).filter fun p => decide (p ∈ ks) with
    | nil => rw [e] at h; cases h
    | cons p r =>
      have : p ∈ (abv k).filter fun p => decide (p ∈ ks) := by rw [e]; exact List.mem_cons_self ..
      obtain ⟨h1, h2⟩ := List.mem_filter.mp this
      exact ⟨k, hk, p, h1, of_decide_eq_true h2⟩
  · rintro ⟨k, hk, p, h1, h2⟩
    refine ⟨k, hk, ?_⟩
    unfold pf1
    cases e : (abv k).filter fun p => decide (p ∈ ks) with
    | nil =>
      have : p ∈ (abv k).filter fun p => decide (p ∈ ks) := List.mem_filter.mpr ⟨h1, decide_eq_true h2⟩
      rw [e] at this
      cases this
    | cons _ _ => rfl
end Rp
/-! RpF: _law_behind -/
namespace Rp
open PySem PySem.Spec PyProof.Rows Mv Rf
section
variable {A : AH} {m mt ml q n : Nat} {T : Tb Str} {sp : Str × Str} {L : Tb (List Ent)} {s : Sg} {st : Option (Str × Str)} {C : Tb Cl2}
structure LB (A : AH) (m mt ml q : Nat) (T : Tb Str) (sp : Str × Str) (L : Tb (List Ent)) (n : Nat) (s : Sg) (st : Option (Str × Str)) (C : Tb Cl2) : Prop where
  M : ModAt A m mt ml T sp L
  q : A[q]? = some (.lst (C.map c3))
  tT : TabOk T
  tL : LogOk L n
  tsp : SpOk sp
  tst : ∀ p, st = some p → SpOk p
  tC : CallsOk C
  ts : SgOk s
def modL (T : Tb Str) (sp : Str × Str) (L : Tb (List Ent)) (s : Sg) (st : Option (Str × Str)) (C : Tb Cl2) : Tb (List Ent) := logs2 T (appl T C) sp (st.getD sp) s (notes T (appl T C) s (mvs T (appl T C) C) L)
theorem strs_c3 (C : Tb Cl2) : C.flatMap (fun p => [MV.str p.1]) = (keys C).map MV.str := by
  rw [flat_one]
  unfold keys
  rw [List.map_map]
  rfl
def ltail : FS := (sSeq (sFor (iFrz (eFrz (fun ρ A => ((aCons (eFrz (aLk (eVar 1) (aLc (iAny (eVar 1)) [10] [10] gNm (qElt bYes (eBin ixM (eVar 10) (eC (.int 0))))))) aNil) ρ A).bind sortedL))) [4] gNm (sIf (tB' (eBin neM (eGet1 (eBin ixM (eVar 0) (eC (.str "table"))) (eVar 4)) (eGet1 (eBin ixM (eVar 7) (eC (.str "table"))) (eVar 4)))) (sSeq (sSet 8 (eBin addM (eTup (aCons (eGet1 (eBin ixM (eVar 0) (eC (.str "table"))) (eVar 4)) (aCons (eGet1 (eBin ixM (eVar 7) (eC (.str "table"))) (eVar 4)) aNil))) (eVar 3))) (sSub (eFrz (aCat (eGet2 (eBin ixM (eVar 7) (eC (.str "logs"))) (eVar 4) (eFrz (aLst aNil))) (eFrz (aLst (aCons (eVar 8) aNil))))) (eBin ixM (eVar 7) (eC (.str "logs"))) (eVar 4))) sNext)) (sSeq (sIf (bOr (tB' (eBin neM (eBin ixM (eVar 7) (eC (.str "head"))) (eBin ixM (eVar 0) (eC (.str "head"))))) (tB' (eBin neM (eCall 1 0 (fun ms _ => ms) F__law_at_head (pA (aCons (eVar 7) aNil))) (eCall 1 0 (fun ms _ => ms) F__law_at_head (pA (aCons (eVar 0) aNil)))))) (sSeq (sSet 8 (eBin addM (eTup (aCons (eCall 1 0 (fun ms _ => ms) F__law_at_head (pA (aCons (eVar 0) aNil))) (aCons (eCall 1 0 (fun ms _ => ms) F__law_at_head (pA (aCons (eVar 7) aNil))) aNil))) (eVar 3))) (sSub (eFrz (aCat (eGet2 (eBin ixM (eVar 7) (eC (.str "logs"))) (eC (.str "HEAD")) (eFrz (aLst aNil))) (eFrz (aLst (aCons (eVar 8) aNil))))) (eBin ixM (eVar 7) (eC (.str "logs"))) (eC (.str "HEAD")))) sNext) (sRet (eVar 7))))
theorem law_behind_split : F__law_behind = defM 11 (sSeq (sLk (eVar 1) (sFor (iAny (eVar 1)) [4, 5, 6] (gTupM 3 (gConsM gNm (gConsM gNm (gConsM gNm gNilM)))) (sIf (bAnd (tB' (eBin neM (eVar 6) (eC (.str "")))) (tB' (eBin neM (eGet1 (eBin ixM (eVar 0) (eC (.str "table"))) (eVar 4)) (eVar 6)))) (sRet (eTup (aCons (eC (.str "stale")) (aCons (eVar 4) aNil)))) sNext))) (sSeq (sSet 7 (eDisp [((eC (.str "table")), (fun ρ A => ((aCons (eBin ixM (eVar 0) (eC (.str "table"))) aNil) ρ A).bind dictM)), ((eC (.str "head")), (eBin ixM (eVar 0) (eC (.str "head")))), ((eC (.str "logs")), (fun ρ A => ((aCons (eBin ixM (eVar 0) (eC (.str "logs"))) aNil) ρ A).bind dictM))])) (sSeq (sLk (eVar 1) (sFor (iAny (eVar 1)) [4, 5, 6] (gTupM 3 (gConsM gNm (gConsM gNm (gConsM gNm gNilM)))) (sSeq (sExpr (ePop2 (eBin ixM (eVar 7) (eC (.str "table"))) (eVar 4) (eC .non))) (sIf (tB' (eBin notNM (eVar 5) (eC .non))) (sSub (eVar 5) (eBin ixM (eVar 7) (eC (.str "table"))) (eVar 4)) sNext)))) (sSeq (sLk (eBin ixM (eVar 7) (eC (.str "table"))) (sFor (iAny (eBin ixM (eVar 7) (eC (.str "table")))) [4] gNm (sIf (tB' (eBin neM (eFrz (aLc (iFrz (eCall 1 0 (fun ms _ => ms) F__law_above (pA (aCons (eVar 4) aNil)))) [9] [9] gNm (qElt (tB' (eBin inM (eVar 9) (eBin ixM (eVar 7) (eC (.str "table"))))) (eVar 9)))) (eFrz (aLst aNil)))) (sRet (eTup (aCons (eC (.str "ref")) (aCons (eC .non) aNil)))) sNext))) (sSeq (sIf (tB' (eBin notNM (eVar 2) (eC .non))) (sSub (eVar 2) (eVar 7) (eC (.str "head"))) sNext) ltail))))) := rfl
theorem ltail_ok {V : Tb Str} {a b c : Option MV} (h : LB A m mt ml q T sp L n s st C) (hn : n + 20 ≤ 900) (hV : TabOk V) (sp2 : Str × Str) : ∃ A', Fr (fun _ => False) A A' ∧ ltail [some (.ref m), some (.ref q), some (stV st), some s.v, a, b, c, some (.ref (A.length + 2)), none, none, none] (A ++ [.dct (tabV V), .dct (logV L), .dct (modK A.length (A.length + 1) sp2)]) = .rt (.ref (A.length + 2)) A' ∧
    ModAt A' (A.length + 2) A.length (A.length + 1) V sp2 (logs2 T V sp sp2 s (notes T V s (mvs T V C) L)) := by
  have ql := at_lt h.q
  have kl : (keys C).length < 64 := by have := h.tC.len; omega
  have cl : C.length < 64 := by unfold keys at kl; rwa [List.length_map] at kl
  have lc : (A.set q (.lkl (C.map c3))).length = A.length := List.length_set ..
  have nt : ∀ {B X : AH} {o : MO}, B.length = A.length → (B ++ o :: X)[A.length]? = some o := by intro B X o e; rw [← e]; exact at_mid
  have nl : ∀ {B X : AH} {o o1 : MO}, B.length = A.length → (B ++ o :: o1 :: X)[A.length + 1]? = some o1 := by
    intro B X o o1 e
    rw [List.getElem?_append_right (by omega), e, show A.length + 1 - A.length = 1 by omega]
    rfl
  have nm : ∀ {B X : AH} {o o1 o2 : MO}, B.length = A.length → (B ++ o :: o1 :: o2 :: X)[A.length + 2]? = some o2 := by
    intro B X o o1 o2 e
    rw [List.getElem?_append_right (by omega), e, show A.length + 2 - A.length = 2 by omega]
    rfl
  have pl : ∀ {B X : AH} {o o1 o' : MO}, B.length = A.length → (B ++ o :: o1 :: X).set (A.length + 1) o' = B ++ o :: o' :: X := by
    intro B X o o1 o' e
    rw [List.set_append_right _ _ (by omega), e, show A.length + 1 - A.length = 1 by omega]
    rfl
  have qA : ∀ X : AH, (A ++ X)[q]? = some (.lst (C.map c3)) := fun X => app_at h.q
  have sq : ∀ X : AH, (A ++ X).set q (.lkl (C.map c3)) = A.set q (.lkl (C.map c3)) ++ X := fun X => List.set_append_left _ _ ql
  have bq : ∀ X : AH, (A.set q (.lkl (C.map c3)) ++ X).set q (.lst (C.map c3)) = A ++ X := fun X => by rw [List.set_append_left _ _ (by rw [lc]; exact ql), set_back h.q]
  have it1 : ∀ X : AH, itV (A.set q (.lkl (C.map c3)) ++ X) (.ref q) = some (C.map c3) := fun X => by
    unfold itV lklOf
    dsimp only [tupOf]
    rw [app_at (set_at h.q)]
  have Mn : ∀ L', ModAt (A ++ [.dct (tabV V), .dct (logV L'), .dct (modK A.length (A.length + 1) sp2)]) (A.length + 2) A.length (A.length + 1) V sp2 L' := fun L' => ⟨nm rfl, nt rfl, nl rfl⟩
  have Mo : ∀ L', ModAt (A ++ [.dct (tabV V), .dct (logV L'), .dct (modK A.length (A.length + 1) sp2)]) m mt ml T sp L := fun L' => h.M.fr (S := fun _ => False) Fr.app id id id
  have put_log : ∀ (L' : Tb (List Ent)) (n' : Nat) (k : Str) (x : Ent), LogOk L' n' → n' ≤ 900 → setM (.ref (A.length + 1)) (.str k) (.lst ((lg L' k ++ [x]).map entV)) (A ++ [.dct (tabV V), .dct (logV L'), .dct (modK A.length (A.length + 1) sp2)]) = some (A ++ [.dct (tabV V), .dct (logV (note1 L' k x)), .dct (modK A.length (A.length + 1) sp2)]) := fun L' n' k x hL' hn' => by
    unfold setM dctW
    dsimp only
    rw [(Mn L').l]
    dsimp only [keyOf]
    rw [if_pos (by unfold logV; rw [len_mapK]; have := hL'.len; unfold keys at this; rw [List.length_map] at this; omega), pl rfl]
    unfold logV note1
    rw [show MV.lst ((lg L' k ++ [x]).map entV) = entsV (lg L' k ++ [x]) from rfl, put_mapK]
  have cat : ∀ (L' : Tb (List Ent)) (n' : Nat) (k : Str) (x : Ent) (B : AH), LogOk L' n' → n' ≤ 900 → catL (entsV (lg L' k)) (.lst [entV x]) B = .ok ((lg L' k ++ [x]).map entV) B := fun L' n' k x B hL' hn' => by
    unfold catL entsV
    dsimp only [lstV]
    rw [if_pos (by rw [List.length_map]; have := lg_len hL' (k := k); show _ + 1 ≤ _; omega), List.map_append]
    rfl
  obtain ⟨a4, y8, h4⟩ := lnote_loop (T := T) (V := V) (s := s) (Hh := fun L' => A ++ [.dct (tabV V), .dct (logV L'), .dct (modK A.length (A.length + 1) sp2)]) (x0 := some (.ref m)) (x1 := some (.ref q)) (x2 := some (stV st)) (x3 := some s.v) (x5 := b) (x6 := c) (x7 := some (.ref (A.length + 2))) (x9 := none) (x10 := none) (body := sIf (tB' (eBin neM (eGet1 (eBin ixM (eVar 0) (eC (.str "table"))) (eVar 4)) (eGet1 (eBin ixM (eVar 7) (eC (.str "table"))) (eVar 4)))) (sSeq (sSet 8 (eBin addM (eTup (aCons (eGet1 (eBin ixM (eVar 0) (eC (.str "table"))) (eVar 4)) (aCons (eGet1 (eBin ixM (eVar 7) (eC (.str "table"))) (eVar 4)) aNil))) (eVar 3))) (sSub (eFrz (aCat (eGet2 (eBin ixM (eVar 7) (eC (.str "logs"))) (eVar 4) (eFrz (aLst aNil))) (eFrz (aLst (aCons (eVar 8) aNil))))) (eBin ixM (eVar 7) (eC (.str "logs"))) (eVar 4))) sNext) h.tT hV h.ts (fun L' n' k x8 hL' hn' => by
    have g1 := get1_tab (k := k) (fo := eBin ixM (eVar 0) (eC (.str "table"))) (fe := eVar 4) (ρ := [some (.ref m), some (.ref q), some (stV st), some s.v, some (.str k), b, c, some (.ref (A.length + 2)), x8, none, none]) (Mo L').dt (by simp only [defM, sSeq, sIf, sSet, sRet, sRetN, sExpr, sNext, sFld_def, sSub, sRaise, eVar, eC, eBin, eUn, tB', eB, bNot, bAnd, bOr, bIf, eIf, eAnd, eOr, eNot, aNil, aCons, eTup, aLst, eFrz, eRef, pN, pA, pK, pAK, eCall, eMeth_def, eFld_def, eMake_def, bind_ok, bind_err, bind_bad, fs_ok, fs_err, fs_bad, List.map_cons, List.map_nil, List.length_cons, List.length_nil, List.replicate, List.cons_append, List.nil_append, List.getElem?_cons_zero, List.getElem?_cons_succ, List.set_cons_zero, List.set_cons_succ, sz0, sz1, sz2, sz3, sz4, sz5, if_true, and_self, Nat.reduceSub, Nat.reduceAdd, Nat.reduceLeDiff, List.lookup_cons, List.lookup_nil, (Mo L').xt]) (by simp only [defM, sSeq, sIf, sSet, sRet, sRetN, sExpr, sNext, sFld_def, sSub, sRaise, eVar, eC, eBin, eUn, tB', eB, bNot, bAnd, bOr, bIf, eIf, eAnd, eOr, eNot, aNil, aCons, eTup, aLst, eFrz, eRef, pN, pA, pK, pAK, eCall, eMeth_def, eFld_def, eMake_def, bind_ok, bind_err, bind_bad, fs_ok, fs_err, fs_bad, List.map_cons, List.map_nil, List.length_cons, List.length_nil, List.replicate, List.cons_append, List.nil_append, List.getElem?_cons_zero, List.getElem?_cons_succ, List.set_cons_zero, List.set_cons_succ, sz0, sz1, sz2, sz3, sz4, sz5, if_true, and_self, Nat.reduceSub, Nat.reduceAdd, Nat.reduceLeDiff, List.lookup_cons, List.lookup_nil])
    have g2 := get1_tab (k := k) (fo := eBin ixM (eVar 7) (eC (.str "table"))) (fe := eVar 4) (ρ := [some (.ref m), some (.ref q), some (stV st), some s.v, some (.str k), b, c, some (.ref (A.length + 2)), x8, none, none]) (Mn L').dt (by simp only [defM, sSeq, sIf, sSet, sRet, sRetN, sExpr, sNext, sFld_def, sSub, sRaise, eVar, eC, eBin, eUn, tB', eB, bNot, bAnd, bOr, bIf, eIf, eAnd, eOr, eNot, aNil, aCons, eTup, aLst, eFrz, eRef, pN, pA, pK, pAK, eCall, eMeth_def, eFld_def, eMake_def, bind_ok, bind_err, bind_bad, fs_ok, fs_err, fs_bad, List.map_cons, List.map_nil, List.length_cons, List.length_nil, List.replicate, List.cons_append, List.nil_append, List.getElem?_cons_zero, List.getElem?_cons_succ, List.set_cons_zero, List.set_cons_succ, sz0, sz1, sz2, sz3, sz4, sz5, if_true, and_self, Nat.reduceSub, Nat.reduceAdd, Nat.reduceLeDiff, List.lookup_cons, List.lookup_nil, (Mn L').xt]) (by simp only [defM, sSeq, sIf, sSet, sRet, sRetN, sExpr, sNext, sFld_def, sSub, sRaise, eVar, eC, eBin, eUn, tB', eB, bNot, bAnd, bOr, bIf, eIf, eAnd, eOr, eNot, aNil, aCons, eTup, aLst, eFrz, eRef, pN, pA, pK, pAK, eCall, eMeth_def, eFld_def, eMake_def, bind_ok, bind_err, bind_bad, fs_ok, fs_err, fs_bad, List.map_cons, List.map_nil, List.length_cons, List.length_nil, List.replicate, List.cons_append, List.nil_append, List.getElem?_cons_zero, List.getElem?_cons_succ, List.set_cons_zero, List.set_cons_succ, sz0, sz1, sz2, sz3, sz4, sz5, if_true, and_self, Nat.reduceSub, Nat.reduceAdd, Nat.reduceLeDiff, List.lookup_cons, List.lookup_nil])
    cases hd : decide (get T k = get V k) with
    | true =>
      refine ⟨x8, ?_⟩
      simp only [defM, sSeq, sIf, sSet, sRet, sRetN, sExpr, sNext, sFld_def, sSub, sRaise, eVar, eC, eBin, eUn, tB', eB, bNot, bAnd, bOr, bIf, eIf, eAnd, eOr, eNot, aNil, aCons, eTup, aLst, eFrz, eRef, pN, pA, pK, pAK, eCall, eMeth_def, eFld_def, eMake_def, bind_ok, bind_err, bind_bad, fs_ok, fs_err, fs_bad, List.map_cons, List.map_nil, List.length_cons, List.length_nil, List.replicate, List.cons_append, List.nil_append, List.getElem?_cons_zero, List.getElem?_cons_succ, List.set_cons_zero, List.set_cons_succ, sz0, sz1, sz2, sz3, sz4, sz5, if_true, and_self, Nat.reduceSub, Nat.reduceAdd, Nat.reduceLeDiff, List.lookup_cons, List.lookup_nil, g1, g2, ne_o, hd, Bool.not_true]
      rfl
    | false =>
      refine ⟨some (entV (s.ent (get T k) (get V k))), ?_⟩
      have g3 := get2_log (k := k) (ρ := [some (.ref m), some (.ref q), some (stV st), some s.v, some (.str k), b, c, some (.ref (A.length + 2)), some (entV (s.ent (get T k) (get V k))), none, none]) (fo := eBin ixM (eVar 7) (eC (.str "logs"))) (fe := eVar 4) (f2 := eFrz (aLst aNil)) (Mn L').dl (by simp only [defM, sSeq, sIf, sSet, sRet, sRetN, sExpr, sNext, sFld_def, sSub, sRaise, eVar, eC, eBin, eUn, tB', eB, bNot, bAnd, bOr, bIf, eIf, eAnd, eOr, eNot, aNil, aCons, eTup, aLst, eFrz, eRef, pN, pA, pK, pAK, eCall, eMeth_def, eFld_def, eMake_def, bind_ok, bind_err, bind_bad, fs_ok, fs_err, fs_bad, List.map_cons, List.map_nil, List.length_cons, List.length_nil, List.replicate, List.cons_append, List.nil_append, List.getElem?_cons_zero, List.getElem?_cons_succ, List.set_cons_zero, List.set_cons_succ, sz0, sz1, sz2, sz3, sz4, sz5, if_true, and_self, Nat.reduceSub, Nat.reduceAdd, Nat.reduceLeDiff, List.lookup_cons, List.lookup_nil, (Mn L').xl]) (by simp only [defM, sSeq, sIf, sSet, sRet, sRetN, sExpr, sNext, sFld_def, sSub, sRaise, eVar, eC, eBin, eUn, tB', eB, bNot, bAnd, bOr, bIf, eIf, eAnd, eOr, eNot, aNil, aCons, eTup, aLst, eFrz, eRef, pN, pA, pK, pAK, eCall, eMeth_def, eFld_def, eMake_def, bind_ok, bind_err, bind_bad, fs_ok, fs_err, fs_bad, List.map_cons, List.map_nil, List.length_cons, List.length_nil, List.replicate, List.cons_append, List.nil_append, List.getElem?_cons_zero, List.getElem?_cons_succ, List.set_cons_zero, List.set_cons_succ, sz0, sz1, sz2, sz3, sz4, sz5, if_true, and_self, Nat.reduceSub, Nat.reduceAdd, Nat.reduceLeDiff, List.lookup_cons, List.lookup_nil]) rfl
      simp only [defM, sSeq, sIf, sSet, sRet, sRetN, sExpr, sNext, sFld_def, sSub, sRaise, eVar, eC, eBin, eUn, tB', eB, bNot, bAnd, bOr, bIf, eIf, eAnd, eOr, eNot, aNil, aCons, eTup, aLst, eFrz, eRef, pN, pA, pK, pAK, eCall, eMeth_def, eFld_def, eMake_def, bind_ok, bind_err, bind_bad, fs_ok, fs_err, fs_bad, List.map_cons, List.map_nil, List.length_cons, List.length_nil, List.replicate, List.cons_append, List.nil_append, List.getElem?_cons_zero, List.getElem?_cons_succ, List.set_cons_zero, List.set_cons_succ, sz0, sz1, sz2, sz3, sz4, sz5, if_true, and_self, Nat.reduceSub, Nat.reduceAdd, Nat.reduceLeDiff, List.lookup_cons, List.lookup_nil, g1, g2, ne_o, hd, Bool.not_false, add_ent, aCat, g3, cat L' n' k _ _ hL' hn', (Mn L').xl, put_log L' n' k _ hL' hn']) (skeys C) L n a none h.tL (by rw [skeys_len]; have := h.tC.len; omega) (fun k hk => h.tC.key (mem_skeys.mp hk))
  have hL1 := notes_ok (V := V) h.tT hV h.ts (ks := mvs T V C) (fun k hk => h.tC.key (mem_skeys.mp (List.mem_filter.mp hk).1)) h.tL
  have hml' := mvs_len (T := T) (V := V) h.tC
  rw [show ((skeys C).filter fun k => !decide (get T k = get V k)) = mvs T V C from rfl] at h4
  generalize hL1e : notes T V s (mvs T V C) L = L1 at h4 hL1 ⊢
  have e8 : ∀ X : AH, sortedL [.lst ((keys C).map MV.str)] X = .ok ((skeys C).map MV.str) X := fun X => by
    unfold sortedL
    dsimp only [dctV, lstV]
    rw [strs_map]
    dsimp only
    rw [if_pos kl]
    rfl
  have i0 : ∀ (p : Str × Cl2) (X : AH), ixM (c3 p) (.int 0) X = .ok (.str p.1) X := fun p X => ix_tup rfl
  have g4 := get2_log (k := "HEAD") (ρ := [some (.ref m), some (.ref q), some (stV st), some s.v, a4, b, c, some (.ref (A.length + 2)), some (entV (s.ent (hd T sp) (hd V sp2))), none, none]) (fo := eBin ixM (eVar 7) (eC (.str "logs"))) (fe := eC (.str "HEAD")) (f2 := eFrz (aLst aNil)) (Mn L1).dl (by simp only [defM, sSeq, sIf, sSet, sRet, sRetN, sExpr, sNext, sFld_def, sSub, sRaise, eVar, eC, eBin, eUn, tB', eB, bNot, bAnd, bOr, bIf, eIf, eAnd, eOr, eNot, aNil, aCons, eTup, aLst, eFrz, eRef, pN, pA, pK, pAK, eCall, eMeth_def, eFld_def, eMake_def, bind_ok, bind_err, bind_bad, fs_ok, fs_err, fs_bad, List.map_cons, List.map_nil, List.length_cons, List.length_nil, List.replicate, List.cons_append, List.nil_append, List.getElem?_cons_zero, List.getElem?_cons_succ, List.set_cons_zero, List.set_cons_succ, sz0, sz1, sz2, sz3, sz4, sz5, if_true, and_self, Nat.reduceSub, Nat.reduceAdd, Nat.reduceLeDiff, List.lookup_cons, List.lookup_nil, (Mn L1).xl]) (by simp only [defM, sSeq, sIf, sSet, sRet, sRetN, sExpr, sNext, sFld_def, sSub, sRaise, eVar, eC, eBin, eUn, tB', eB, bNot, bAnd, bOr, bIf, eIf, eAnd, eOr, eNot, aNil, aCons, eTup, aLst, eFrz, eRef, pN, pA, pK, pAK, eCall, eMeth_def, eFld_def, eMake_def, bind_ok, bind_err, bind_bad, fs_ok, fs_err, fs_bad, List.map_cons, List.map_nil, List.length_cons, List.length_nil, List.replicate, List.cons_append, List.nil_append, List.getElem?_cons_zero, List.getElem?_cons_succ, List.set_cons_zero, List.set_cons_succ, sz0, sz1, sz2, sz3, sz4, sz5, if_true, and_self, Nat.reduceSub, Nat.reduceAdd, Nat.reduceLeDiff, List.lookup_cons, List.lookup_nil]) rfl
  have go : ∀ Y : Fs, (∀ X, X = Y → X = Y) := fun _ _ e => e
  have run : ltail [some (.ref m), some (.ref q), some (stV st), some s.v, a, b, c, some (.ref (A.length + 2)), none, none, none] (A ++ [.dct (tabV V), .dct (logV L), .dct (modK A.length (A.length + 1) sp2)]) = .rt (.ref (A.length + 2)) (A ++ [.dct (tabV V), .dct (logV (logs2 T V sp sp2 s L1)), .dct (modK A.length (A.length + 1) sp2)]) := by
    unfold ltail
    simp only [defM, sSeq, sIf, sSet, sRet, sRetN, sExpr, sNext, sFld_def, sSub, sRaise, eVar, eC, eBin, eUn, tB', eB, bNot, bAnd, bOr, bIf, eIf, eAnd, eOr, eNot, aNil, aCons, eTup, aLst, eFrz, eRef, pN, pA, pK, pAK, eCall, eMeth_def, eFld_def, eMake_def, bind_ok, bind_err, bind_bad, fs_ok, fs_err, fs_bad, List.map_cons, List.map_nil, List.length_cons, List.length_nil, List.replicate, List.cons_append, List.nil_append, List.getElem?_cons_zero, List.getElem?_cons_succ, List.set_cons_zero, List.set_cons_succ, sz0, sz1, sz2, sz3, sz4, sz5, if_true, and_self, Nat.reduceSub, Nat.reduceAdd, Nat.reduceLeDiff, List.lookup_cons, List.lookup_nil, sFor, iFrz, aLk, aLock, qA, lkO, sq]
    rw [lc_ys (ys := C) (inj := c3) (h := fun p => [MV.str p.1])]
    · rw [strs_c3]
      simp only [defM, sSeq, sIf, sSet, sRet, sRetN, sExpr, sNext, sFld_def, sSub, sRaise, eVar, eC, eBin, eUn, tB', eB, bNot, bAnd, bOr, bIf, eIf, eAnd, eOr, eNot, aNil, aCons, eTup, aLst, eFrz, eRef, pN, pA, pK, pAK, eCall, eMeth_def, eFld_def, eMake_def, bind_ok, bind_err, bind_bad, fs_ok, fs_err, fs_bad, List.map_cons, List.map_nil, List.length_cons, List.length_nil, List.replicate, List.cons_append, List.nil_append, List.getElem?_cons_zero, List.getElem?_cons_succ, List.set_cons_zero, List.set_cons_succ, sz0, sz1, sz2, sz3, sz4, sz5, if_true, and_self, Nat.reduceSub, Nat.reduceAdd, Nat.reduceLeDiff, List.lookup_cons, List.lookup_nil, bq, e8, h4, (Mn L1).xh, (Mo L1).xh, ne_sp, law_hd_ok (Mn L1), law_hd_ok (Mo L1), ne_o]
      unfold logs2 chg
      cases hx : decide (sp2 = sp) with
      | false => simp only [defM, sSeq, sIf, sSet, sRet, sRetN, sExpr, sNext, sFld_def, sSub, sRaise, eVar, eC, eBin, eUn, tB', eB, bNot, bAnd, bOr, bIf, eIf, eAnd, eOr, eNot, aNil, aCons, eTup, aLst, eFrz, eRef, pN, pA, pK, pAK, eCall, eMeth_def, eFld_def, eMake_def, bind_ok, bind_err, bind_bad, fs_ok, fs_err, fs_bad, List.map_cons, List.map_nil, List.length_cons, List.length_nil, List.replicate, List.cons_append, List.nil_append, List.getElem?_cons_zero, List.getElem?_cons_succ, List.set_cons_zero, List.set_cons_succ, sz0, sz1, sz2, sz3, sz4, sz5, if_true, and_self, Nat.reduceSub, Nat.reduceAdd, Nat.reduceLeDiff, List.lookup_cons, List.lookup_nil, Bool.not_false, Bool.true_or, law_hd_ok (Mn L1), law_hd_ok (Mo L1), add_ent, aCat, g4, cat L1 _ "HEAD" _ _ hL1 (by omega), (Mn L1).xl, put_log L1 _ "HEAD" _ hL1 (by omega)]
      | true =>
        cases hy : decide (hd V sp2 = hd T sp) with
        | false => simp only [defM, sSeq, sIf, sSet, sRet, sRetN, sExpr, sNext, sFld_def, sSub, sRaise, eVar, eC, eBin, eUn, tB', eB, bNot, bAnd, bOr, bIf, eIf, eAnd, eOr, eNot, aNil, aCons, eTup, aLst, eFrz, eRef, pN, pA, pK, pAK, eCall, eMeth_def, eFld_def, eMake_def, bind_ok, bind_err, bind_bad, fs_ok, fs_err, fs_bad, List.map_cons, List.map_nil, List.length_cons, List.length_nil, List.replicate, List.cons_append, List.nil_append, List.getElem?_cons_zero, List.getElem?_cons_succ, List.set_cons_zero, List.set_cons_succ, sz0, sz1, sz2, sz3, sz4, sz5, if_true, and_self, Nat.reduceSub, Nat.reduceAdd, Nat.reduceLeDiff, List.lookup_cons, List.lookup_nil, Bool.not_true, Bool.not_false, Bool.false_or, law_hd_ok (Mn L1), law_hd_ok (Mo L1), ne_o, hy, add_ent, aCat, g4, cat L1 _ "HEAD" _ _ hL1 (by omega), (Mn L1).xl, put_log L1 _ "HEAD" _ hL1 (by omega)]
        | true => simp only [defM, sSeq, sIf, sSet, sRet, sRetN, sExpr, sNext, sFld_def, sSub, sRaise, eVar, eC, eBin, eUn, tB', eB, bNot, bAnd, bOr, bIf, eIf, eAnd, eOr, eNot, aNil, aCons, eTup, aLst, eFrz, eRef, pN, pA, pK, pAK, eCall, eMeth_def, eFld_def, eMake_def, bind_ok, bind_err, bind_bad, fs_ok, fs_err, fs_bad, List.map_cons, List.map_nil, List.length_cons, List.length_nil, List.replicate, List.cons_append, List.nil_append, List.getElem?_cons_zero, List.getElem?_cons_succ, List.set_cons_zero, List.set_cons_succ, sz0, sz1, sz2, sz3, sz4, sz5, if_true, and_self, Nat.reduceSub, Nat.reduceAdd, Nat.reduceLeDiff, List.lookup_cons, List.lookup_nil, Bool.not_true, Bool.false_or, law_hd_ok (Mn L1), law_hd_ok (Mo L1), ne_o, hy]; rfl
    · simp only [defM, sSeq, sIf, sSet, sRet, sRetN, sExpr, sNext, sFld_def, sSub, sRaise, eVar, eC, eBin, eUn, tB', eB, bNot, bAnd, bOr, bIf, eIf, eAnd, eOr, eNot, aNil, aCons, eTup, aLst, eFrz, eRef, pN, pA, pK, pAK, eCall, eMeth_def, eFld_def, eMake_def, bind_ok, bind_err, bind_bad, fs_ok, fs_err, fs_bad, List.map_cons, List.map_nil, List.length_cons, List.length_nil, List.replicate, List.cons_append, List.nil_append, List.getElem?_cons_zero, List.getElem?_cons_succ, List.set_cons_zero, List.set_cons_succ, sz0, sz1, sz2, sz3, sz4, sz5, if_true, and_self, Nat.reduceSub, Nat.reduceAdd, Nat.reduceLeDiff, List.lookup_cons, List.lookup_nil, iAny, it1]
    · intro p _
      refine ⟨[c3 p], rfl, ?_⟩
      simp only [defM, sSeq, sIf, sSet, sRet, sRetN, sExpr, sNext, sFld_def, sSub, sRaise, eVar, eC, eBin, eUn, tB', eB, bNot, bAnd, bOr, bIf, eIf, eAnd, eOr, eNot, aNil, aCons, eTup, aLst, eFrz, eRef, pN, pA, pK, pAK, eCall, eMeth_def, eFld_def, eMake_def, bind_ok, bind_err, bind_bad, fs_ok, fs_err, fs_bad, List.map_cons, List.map_nil, List.length_cons, List.length_nil, List.replicate, List.cons_append, List.nil_append, List.getElem?_cons_zero, List.getElem?_cons_succ, List.set_cons_zero, List.set_cons_succ, sz0, sz1, sz2, sz3, sz4, sz5, if_true, and_self, Nat.reduceSub, Nat.reduceAdd, Nat.reduceLeDiff, List.lookup_cons, List.lookup_nil, qElt, bYes, wipeM, setAllM, i0]
    · rw [strs_c3]
      exact szL_le (by rw [List.length_map]; omega)
  exact ⟨_, Fr.app, run, Mn _⟩
/-- how it ends -/
theorem law_behind_ok (h : LB A m mt ml q T sp L n s st C) (hn : n + 20 ≤ 900) : ∃ A', Fr (fun _ => False) A A' ∧ F__law_behind [.ref m, .ref q, stV st, s.v] A = (match staleOf T C with
    | some k => .ok (.tup [.str "stale", .str k]) A'
    | none => if pfx (keys (appl T C)) then .ok (.tup [.str "ref", .non]) A' else .ok (.ref (A.length + 2)) A') ∧
    (OkC T C → ModAt A' (A.length + 2) A.length (A.length + 1) (appl T C) (st.getD sp) (modL T sp L s st C)) := by
  have ql := at_lt h.q
  have hmq : q ≠ m := at_ne h.q h.M.m (by intro z; cases z)
  have hmt : q ≠ mt := at_ne h.q h.M.t (by intro z; cases z)
  have hml : q ≠ ml := at_ne h.q h.M.l (by intro z; cases z)
  have kl : (keys C).length < 64 := by have := h.tC.len; omega
  have cl : C.length < 64 := by unfold keys at kl; rwa [List.length_map] at kl
  have lq : lkO (.lst (C.map c3)) = some (.lkl (C.map c3)) := rfl
  -- the first loop
  have hAc : ∀ X : AH, (A.set q (.lkl (C.map c3)) ++ X)[q]? = some (.lkl (C.map c3)) := fun X => app_at (set_at h.q)
  have M1 : ModAt (A.set q (.lkl (C.map c3))) m mt ml T sp L := h.M.fr (S := fun n => n = q) (Fr.set rfl) (Ne.symm hmq) (Ne.symm hmt) (Ne.symm hml)
  have it1 : ∀ X : AH, itV (A.set q (.lkl (C.map c3)) ++ X) (.ref q) = some (C.map c3) := fun X => by
    unfold itV lklOf
    dsimp only [tupOf]
    rw [hAc]
  have it0 : itV (A.set q (.lkl (C.map c3))) (.ref q) = some (C.map c3) := by
    have := it1 []
    rwa [List.append_nil] at this
  obtain ⟨a', b', c', h1⟩ := lstale_loop (B := A.set q (.lkl (C.map c3))) (T := T) (x0 := some (.ref m)) (x1 := some (.ref q)) (x2 := some (stV st)) (x3 := some s.v) (x7 := none) (x8 := none) (x9 := none) (x10 := none) (body := sIf (bAnd (tB' (eBin neM (eVar 6) (eC (.str "")))) (tB' (eBin neM (eGet1 (eBin ixM (eVar 0) (eC (.str "table"))) (eVar 4)) (eVar 6)))) (sRet (eTup (aCons (eC (.str "stale")) (aCons (eVar 4) aNil)))) sNext) (fun p => by
    have g1 := get1_tab (k := p.1) (fo := eBin ixM (eVar 0) (eC (.str "table"))) (fe := eVar 4) (ρ := [some (.ref m), some (.ref q), some (stV st), some s.v, some (.str p.1), some (oV p.2.1), some (oV p.2.2), none, none, none, none]) M1.dt (by simp only [defM, sSeq, sIf, sSet, sRet, sRetN, sExpr, sNext, sFld_def, sSub, sRaise, eVar, eC, eBin, eUn, tB', eB, bNot, bAnd, bOr, bIf, eIf, eAnd, eOr, eNot, aNil, aCons, eTup, aLst, eFrz, eRef, pN, pA, pK, pAK, eCall, eMeth_def, eFld_def, eMake_def, bind_ok, bind_err, bind_bad, fs_ok, fs_err, fs_bad, List.map_cons, List.map_nil, List.length_cons, List.length_nil, List.replicate, List.cons_append, List.nil_append, List.getElem?_cons_zero, List.getElem?_cons_succ, List.set_cons_zero, List.set_cons_succ, sz0, sz1, sz2, sz3, sz4, sz5, if_true, and_self, Nat.reduceSub, Nat.reduceAdd, Nat.reduceLeDiff, List.lookup_cons, List.lookup_nil, M1.xt]) (by simp only [defM, sSeq, sIf, sSet, sRet, sRetN, sExpr, sNext, sFld_def, sSub, sRaise, eVar, eC, eBin, eUn, tB', eB, bNot, bAnd, bOr, bIf, eIf, eAnd, eOr, eNot, aNil, aCons, eTup, aLst, eFrz, eRef, pN, pA, pK, pAK, eCall, eMeth_def, eFld_def, eMake_def, bind_ok, bind_err, bind_bad, fs_ok, fs_err, fs_bad, List.map_cons, List.map_nil, List.length_cons, List.length_nil, List.replicate, List.cons_append, List.nil_append, List.getElem?_cons_zero, List.getElem?_cons_succ, List.set_cons_zero, List.set_cons_succ, sz0, sz1, sz2, sz3, sz4, sz5, if_true, and_self, Nat.reduceSub, Nat.reduceAdd, Nat.reduceLeDiff, List.lookup_cons, List.lookup_nil])
    simp only [defM, sSeq, sIf, sSet, sRet, sRetN, sExpr, sNext, sFld_def, sSub, sRaise, eVar, eC, eBin, eUn, tB', eB, bNot, bAnd, bOr, bIf, eIf, eAnd, eOr, eNot, aNil, aCons, eTup, aLst, eFrz, eRef, pN, pA, pK, pAK, eCall, eMeth_def, eFld_def, eMake_def, bind_ok, bind_err, bind_bad, fs_ok, fs_err, fs_bad, List.map_cons, List.map_nil, List.length_cons, List.length_nil, List.replicate, List.cons_append, List.nil_append, List.getElem?_cons_zero, List.getElem?_cons_succ, List.set_cons_zero, List.set_cons_succ, sz0, sz1, sz2, sz3, sz4, sz5, if_true, and_self, Nat.reduceSub, Nat.reduceAdd, Nat.reduceLeDiff, List.lookup_cons, List.lookup_nil, ne_old, g1, ne_o]
    unfold isSt
    cases decide (p.2.2 = some ("" : Str)) with
    | true => rfl
    | false => simp only [defM, sSeq, sIf, sSet, sRet, sRetN, sExpr, sNext, sFld_def, sSub, sRaise, eVar, eC, eBin, eUn, tB', eB, bNot, bAnd, bOr, bIf, eIf, eAnd, eOr, eNot, aNil, aCons, eTup, aLst, eFrz, eRef, pN, pA, pK, pAK, eCall, eMeth_def, eFld_def, eMake_def, bind_ok, bind_err, bind_bad, fs_ok, fs_err, fs_bad, List.map_cons, List.map_nil, List.length_cons, List.length_nil, List.replicate, List.cons_append, List.nil_append, List.getElem?_cons_zero, List.getElem?_cons_succ, List.set_cons_zero, List.set_cons_succ, sz0, sz1, sz2, sz3, sz4, sz5, if_true, and_self, Nat.reduceSub, Nat.reduceAdd, Nat.reduceLeDiff, List.lookup_cons, List.lookup_nil, Bool.not_false, Bool.true_and, g1, ne_o]; cases decide (get T p.1 = p.2.2) <;> rfl) C none none none
  cases hs : staleOf T C with
  | some k =>
    rw [hs] at h1
    refine ⟨A, Fr.refl, ?_, fun o => by rw [o.s] at hs; cases hs⟩
    unfold F__law_behind b__law_behind
    simp only [defM, sSeq, sIf, sSet, sRet, sRetN, sExpr, sNext, sFld_def, sSub, sRaise, eVar, eC, eBin, eUn, tB', eB, bNot, bAnd, bOr, bIf, eIf, eAnd, eOr, eNot, aNil, aCons, eTup, aLst, eFrz, eRef, pN, pA, pK, pAK, eCall, eMeth_def, eFld_def, eMake_def, bind_ok, bind_err, bind_bad, fs_ok, fs_err, fs_bad, List.map_cons, List.map_nil, List.length_cons, List.length_nil, List.replicate, List.cons_append, List.nil_append, List.getElem?_cons_zero, List.getElem?_cons_succ, List.set_cons_zero, List.set_cons_succ, sz0, sz1, sz2, sz3, sz4, sz5, if_true, and_self, Nat.reduceSub, Nat.reduceAdd, Nat.reduceLeDiff, List.lookup_cons, List.lookup_nil, sLk, sLock, h.q, lkO, sFor, iAny, it0, h1, unlk, set_back h.q]
  | none =>
    rw [hs] at h1
    dsimp only at h1
    -- the new model
    have dm1 : dictM [.ref mt] A = .ok (.ref A.length) (A ++ [.dct (tabV T)]) := by
      unfold dictM
      dsimp only
      rw [h.M.dt]
    have M2 := h.M.fr (S := fun _ => False) (A' := A ++ [.dct (tabV T)]) Fr.app id id id
    have dm2 : dictM [.ref ml] (A ++ [.dct (tabV T)]) = .ok (.ref (A.length + 1)) (A ++ [.dct (tabV T), .dct (logV L)]) := by
      unfold dictM
      dsimp only
      rw [M2.dl]
      dsimp only
      rw [List.length_append, List.append_assoc]
      rfl
    have me : ∀ {a b c : MV}, mergeM [] [(.inr "table", a), (.inr "head", b), (.inr "logs", c)] = [(.inr "table", a), (.inr "head", b), (.inr "logs", c)] := by intro a b c; rfl
    have ln : ∀ {x y : MO}, (A ++ [x, y]).length = A.length + 2 := by intro x y; rw [List.length_append]; rfl
    have ap : ∀ {x y z : MO}, A ++ [x, y] ++ [z] = A ++ [x, y, z] := by intro x y z; rw [List.append_assoc]; rfl
    have mk : [((.inr "table" : L2.Key), MV.ref A.length), (.inr "head", spV sp), (.inr "logs", .ref (A.length + 1))] = modK A.length (A.length + 1) sp := rfl
    have me2 : ∀ {a b : Nat} {p : Str × Str}, mergeM [] (modK a b p) = modK a b p := by intro a b p; rfl
    have mlen : ∀ {a b : Nat} {p : Str × Str}, (modK a b p).length = 3 := by intro a b p; rfl
    have hV := appl_ok h.tT h.tC.all
    -- heaps behind it
    have lc : (A.set q (.lkl (C.map c3))).length = A.length := List.length_set ..
    have nt : ∀ {B X : AH} {o : MO}, B.length = A.length → (B ++ o :: X)[A.length]? = some o := by intro B X o e; rw [← e]; exact at_mid
    have nl : ∀ {B X : AH} {o o1 : MO}, B.length = A.length → (B ++ o :: o1 :: X)[A.length + 1]? = some o1 := by
      intro B X o o1 e
      rw [List.getElem?_append_right (by omega), e, show A.length + 1 - A.length = 1 by omega]
      rfl
    have nm : ∀ {B X : AH} {o o1 o2 : MO}, B.length = A.length → (B ++ o :: o1 :: o2 :: X)[A.length + 2]? = some o2 := by
      intro B X o o1 o2 e
      rw [List.getElem?_append_right (by omega), e, show A.length + 2 - A.length = 2 by omega]
      rfl
    have pt : ∀ {B X : AH} {o o' : MO}, B.length = A.length → (B ++ o :: X).set A.length o' = B ++ o' :: X := by intro B X o o' e; rw [← e]; exact set_mid
    have pl : ∀ {B X : AH} {o o1 o' : MO}, B.length = A.length → (B ++ o :: o1 :: X).set (A.length + 1) o' = B ++ o :: o' :: X := by
      intro B X o o1 o' e
      rw [List.set_append_right _ _ (by omega), e, show A.length + 1 - A.length = 1 by omega]
      rfl
    have pm : ∀ {B X : AH} {o o1 o2 o' : MO}, B.length = A.length → (B ++ o :: o1 :: o2 :: X).set (A.length + 2) o' = B ++ o :: o1 :: o' :: X := by
      intro B X o o1 o2 o' e
      rw [List.set_append_right _ _ (by omega), e, show A.length + 2 - A.length = 2 by omega]
      rfl
    have xt : ∀ {B : AH} {o o1 : MO} {p : Str × Str}, B.length = A.length → ixM (.ref (A.length + 2)) (.str "table") (B ++ [o, o1, .dct (modK A.length (A.length + 1) p)]) = .ok (.ref A.length) (B ++ [o, o1, .dct (modK A.length (A.length + 1) p)]) := by
      intro B o o1 p e
      exact ix_dct (dctV_at (nm e)) rfl
    have xl : ∀ {B : AH} {o o1 : MO} {p : Str × Str}, B.length = A.length → ixM (.ref (A.length + 2)) (.str "logs") (B ++ [o, o1, .dct (modK A.length (A.length + 1) p)]) = .ok (.ref (A.length + 1)) (B ++ [o, o1, .dct (modK A.length (A.length + 1) p)]) := by
      intro B o o1 p e
      exact ix_dct (dctV_at (nm e)) rfl
    have qA : ∀ X : AH, (A ++ X)[q]? = some (.lst (C.map c3)) := fun X => app_at h.q
    have sq : ∀ X : AH, (A ++ X).set q (.lkl (C.map c3)) = A.set q (.lkl (C.map c3)) ++ X := fun X => List.set_append_left _ _ ql
    have bq : ∀ X : AH, (A.set q (.lkl (C.map c3)) ++ X).set q (.lst (C.map c3)) = A ++ X := fun X => by rw [List.set_append_left _ _ (by rw [lc]; exact ql), set_back h.q]
    -- the second loop
    obtain ⟨a2, b2, c2, h2⟩ := lappl_loop (Hh := fun U => A.set q (.lkl (C.map c3)) ++ [.dct (tabV U), .dct (logV L), .dct (modK A.length (A.length + 1) sp)]) (x0 := some (.ref m)) (x1 := some (.ref q)) (x2 := some (stV st)) (x3 := some s.v) (x7 := some (.ref (A.length + 2))) (x8 := none) (x9 := none) (x10 := none) (body := sSeq (sExpr (ePop2 (eBin ixM (eVar 7) (eC (.str "table"))) (eVar 4) (eC .non))) (sIf (tB' (eBin notNM (eVar 5) (eC .non))) (sSub (eVar 5) (eBin ixM (eVar 7) (eC (.str "table"))) (eVar 4)) sNext)) (fun U p hU => by
      have g1 := pop_tab (k := p.1) (fo := eBin ixM (eVar 7) (eC (.str "table"))) (fe := eVar 4) (ρ := [some (.ref m), some (.ref q), some (stV st), some s.v, some (.str p.1), some (oV p.2.1), some (oV p.2.2), some (.ref (A.length + 2)), none, none, none]) (nt (X := [.dct (logV L), .dct (modK A.length (A.length + 1) sp)]) (o := .dct (tabV U)) lc) (by simp only [defM, sSeq, sIf, sSet, sRet, sRetN, sExpr, sNext, sFld_def, sSub, sRaise, eVar, eC, eBin, eUn, tB', eB, bNot, bAnd, bOr, bIf, eIf, eAnd, eOr, eNot, aNil, aCons, eTup, aLst, eFrz, eRef, pN, pA, pK, pAK, eCall, eMeth_def, eFld_def, eMake_def, bind_ok, bind_err, bind_bad, fs_ok, fs_err, fs_bad, List.map_cons, List.map_nil, List.length_cons, List.length_nil, List.replicate, List.cons_append, List.nil_append, List.getElem?_cons_zero, List.getElem?_cons_succ, List.set_cons_zero, List.set_cons_succ, sz0, sz1, sz2, sz3, sz4, sz5, if_true, and_self, Nat.reduceSub, Nat.reduceAdd, Nat.reduceLeDiff, List.lookup_cons, List.lookup_nil, xt lc]) (by simp only [defM, sSeq, sIf, sSet, sRet, sRetN, sExpr, sNext, sFld_def, sSub, sRaise, eVar, eC, eBin, eUn, tB', eB, bNot, bAnd, bOr, bIf, eIf, eAnd, eOr, eNot, aNil, aCons, eTup, aLst, eFrz, eRef, pN, pA, pK, pAK, eCall, eMeth_def, eFld_def, eMake_def, bind_ok, bind_err, bind_bad, fs_ok, fs_err, fs_bad, List.map_cons, List.map_nil, List.length_cons, List.length_nil, List.replicate, List.cons_append, List.nil_append, List.getElem?_cons_zero, List.getElem?_cons_succ, List.set_cons_zero, List.set_cons_succ, sz0, sz1, sz2, sz3, sz4, sz5, if_true, and_self, Nat.reduceSub, Nat.reduceAdd, Nat.reduceLeDiff, List.lookup_cons, List.lookup_nil])
      rw [pt lc] at g1
      simp only [defM, sSeq, sIf, sSet, sRet, sRetN, sExpr, sNext, sFld_def, sSub, sRaise, eVar, eC, eBin, eUn, tB', eB, bNot, bAnd, bOr, bIf, eIf, eAnd, eOr, eNot, aNil, aCons, eTup, aLst, eFrz, eRef, pN, pA, pK, pAK, eCall, eMeth_def, eFld_def, eMake_def, bind_ok, bind_err, bind_bad, fs_ok, fs_err, fs_bad, List.map_cons, List.map_nil, List.length_cons, List.length_nil, List.replicate, List.cons_append, List.nil_append, List.getElem?_cons_zero, List.getElem?_cons_succ, List.set_cons_zero, List.set_cons_succ, sz0, sz1, sz2, sz3, sz4, sz5, if_true, and_self, Nat.reduceSub, Nat.reduceAdd, Nat.reduceLeDiff, List.lookup_cons, List.lookup_nil, g1]
      unfold appl1
      cases hp : p.2.1 with
      | none => rfl
      | some x =>
        have s1 := sub_tab (k := p.1) (x := x) (nt (B := A.set q (.lkl (C.map c3))) (X := [.dct (logV L), .dct (modK A.length (A.length + 1) sp)]) (o := .dct (tabV (drop U p.1))) lc) (by have := keysT_len hU; have : (drop U p.1).length ≤ U.length := List.length_filter_le _ _; omega)
        rw [pt lc] at s1
        simp only [defM, sSeq, sIf, sSet, sRet, sRetN, sExpr, sNext, sFld_def, sSub, sRaise, eVar, eC, eBin, eUn, tB', eB, bNot, bAnd, bOr, bIf, eIf, eAnd, eOr, eNot, aNil, aCons, eTup, aLst, eFrz, eRef, pN, pA, pK, pAK, eCall, eMeth_def, eFld_def, eMake_def, bind_ok, bind_err, bind_bad, fs_ok, fs_err, fs_bad, List.map_cons, List.map_nil, List.length_cons, List.length_nil, List.replicate, List.cons_append, List.nil_append, List.getElem?_cons_zero, List.getElem?_cons_succ, List.set_cons_zero, List.set_cons_succ, sz0, sz1, sz2, sz3, sz4, sz5, if_true, and_self, Nat.reduceSub, Nat.reduceAdd, Nat.reduceLeDiff, List.lookup_cons, List.lookup_nil, oV, notNM, isN, Bool.not_false, xt lc, s1]) C T a' b' c' h.tT h.tC.all
    generalize hVe : appl T C = V at h2 hV
    -- the third loop
    have ksV := hV.len
    have lkT : dctV (A ++ [.lkd (tabV V), .dct (logV L), .dct (modK A.length (A.length + 1) sp)]) (.ref A.length) = some (tabV V) := dctV_lk (nt rfl)
    have it3 : itV (A ++ [.lkd (tabV V), .dct (logV L), .dct (modK A.length (A.length + 1) sp)]) (.ref A.length) = some ((keys V).map MV.str) := by
      unfold itV lklOf lkdOf
      dsimp only [tupOf]
      rw [nt (o := .lkd (tabV V)) rfl]
      dsimp only
      unfold tabV mapK keys
      rw [List.map_map, List.map_map]
      rfl
    obtain ⟨a3, h3⟩ := find_loop (B := A ++ [.lkd (tabV V), .dct (logV L), .dct (modK A.length (A.length + 1) sp)]) (x0 := some (.ref m)) (x1 := some (.ref q)) (x2 := some (stV st)) (x3 := some s.v) (x5 := b2) (x6 := c2) (x7 := some (.ref (A.length + 2))) (x8 := none) (x9 := none) (x10 := none) (body := sIf (tB' (eBin neM (eFrz (aLc (iFrz (eCall 1 0 (fun ms _ => ms) F__law_above (pA (aCons (eVar 4) aNil)))) [9] [9] gNm (qElt (tB' (eBin inM (eVar 9) (eBin ixM (eVar 7) (eC (.str "table"))))) (eVar 9)))) (eFrz (aLst aNil)))) (sRet (eTup (aCons (eC (.str "ref")) (aCons (eC .non) aNil)))) sNext) (f := pf1 (keys V)) (v := .tup [.str "ref", .non]) (keys V) a2 (fun k hk => by
      simp only [defM, sSeq, sIf, sSet, sRet, sRetN, sExpr, sNext, sFld_def, sSub, sRaise, eVar, eC, eBin, eUn, tB', eB, bNot, bAnd, bOr, bIf, eIf, eAnd, eOr, eNot, aNil, aCons, eTup, aLst, eFrz, eRef, pN, pA, pK, pAK, eCall, eMeth_def, eFld_def, eMake_def, bind_ok, bind_err, bind_bad, fs_ok, fs_err, fs_bad, List.map_cons, List.map_nil, List.length_cons, List.length_nil, List.replicate, List.cons_append, List.nil_append, List.getElem?_cons_zero, List.getElem?_cons_succ, List.set_cons_zero, List.set_cons_succ, sz0, sz1, sz2, sz3, sz4, sz5, if_true, and_self, Nat.reduceSub, Nat.reduceAdd, Nat.reduceLeDiff, List.lookup_cons, List.lookup_nil, law_above_eq]
      rw [lc_ys (ys := abv k) (inj := MV.str) (h := fun p => if decide (p ∈ keys V) then [MV.str p] else [])]
      · rw [flat_if]
        simp only [defM, sSeq, sIf, sSet, sRet, sRetN, sExpr, sNext, sFld_def, sSub, sRaise, eVar, eC, eBin, eUn, tB', eB, bNot, bAnd, bOr, bIf, eIf, eAnd, eOr, eNot, aNil, aCons, eTup, aLst, eFrz, eRef, pN, pA, pK, pAK, eCall, eMeth_def, eFld_def, eMake_def, bind_ok, bind_err, bind_bad, fs_ok, fs_err, fs_bad, List.map_cons, List.map_nil, List.length_cons, List.length_nil, List.replicate, List.cons_append, List.nil_append, List.getElem?_cons_zero, List.getElem?_cons_succ, List.set_cons_zero, List.set_cons_succ, sz0, sz1, sz2, sz3, sz4, sz5, if_true, and_self, Nat.reduceSub, Nat.reduceAdd, Nat.reduceLeDiff, List.lookup_cons, List.lookup_nil, ne_strs_nil]
        unfold pf1
        cases ((abv k).filter fun p => decide (p ∈ keys V)).isEmpty <;> rfl
      · simp only [defM, sSeq, sIf, sSet, sRet, sRetN, sExpr, sNext, sFld_def, sSub, sRaise, eVar, eC, eBin, eUn, tB', eB, bNot, bAnd, bOr, bIf, eIf, eAnd, eOr, eNot, aNil, aCons, eTup, aLst, eFrz, eRef, pN, pA, pK, pAK, eCall, eMeth_def, eFld_def, eMake_def, bind_ok, bind_err, bind_bad, fs_ok, fs_err, fs_bad, List.map_cons, List.map_nil, List.length_cons, List.length_nil, List.replicate, List.cons_append, List.nil_append, List.getElem?_cons_zero, List.getElem?_cons_succ, List.set_cons_zero, List.set_cons_succ, sz0, sz1, sz2, sz3, sz4, sz5, if_true, and_self, Nat.reduceSub, Nat.reduceAdd, Nat.reduceLeDiff, List.lookup_cons, List.lookup_nil, iFrz, above_ok k (hV.key hk)]
      · intro p _
        refine ⟨[.str p], rfl, ?_⟩
        simp only [defM, sSeq, sIf, sSet, sRet, sRetN, sExpr, sNext, sFld_def, sSub, sRaise, eVar, eC, eBin, eUn, tB', eB, bNot, bAnd, bOr, bIf, eIf, eAnd, eOr, eNot, aNil, aCons, eTup, aLst, eFrz, eRef, pN, pA, pK, pAK, eCall, eMeth_def, eFld_def, eMake_def, bind_ok, bind_err, bind_bad, fs_ok, fs_err, fs_bad, List.map_cons, List.map_nil, List.length_cons, List.length_nil, List.replicate, List.cons_append, List.nil_append, List.getElem?_cons_zero, List.getElem?_cons_succ, List.set_cons_zero, List.set_cons_succ, sz0, sz1, sz2, sz3, sz4, sz5, if_true, and_self, Nat.reduceSub, Nat.reduceAdd, Nat.reduceLeDiff, List.lookup_cons, List.lookup_nil, qElt, wipeM, setAllM, xt rfl, in_tab lkT]
        cases decide (p ∈ keys V) <;> rfl
      · rw [flat_if]
        exact szL_le (by rw [List.length_map]; have := List.length_filter_le (fun p => decide (p ∈ keys V)) (abv k); have := abv_len k (hV.key hk); omega))
    rw [pf1_pfx] at h3
    rw [law_behind_split]
    cases hp : pfx (keys V) with
    | true =>
      rw [hp, if_pos rfl] at h3
      refine ⟨A ++ [.dct (tabV V), .dct (logV L), .dct (modK A.length (A.length + 1) sp)], Fr.app, ?_, fun o => by have := o.p; rw [hVe, hp] at this; cases this⟩
      simp only [defM, sSeq, sIf, sSet, sRet, sRetN, sExpr, sNext, sFld_def, sSub, sRaise, eVar, eC, eBin, eUn, tB', eB, bNot, bAnd, bOr, bIf, eIf, eAnd, eOr, eNot, aNil, aCons, eTup, aLst, eFrz, eRef, pN, pA, pK, pAK, eCall, eMeth_def, eFld_def, eMake_def, bind_ok, bind_err, bind_bad, fs_ok, fs_err, fs_bad, List.map_cons, List.map_nil, List.length_cons, List.length_nil, List.replicate, List.cons_append, List.nil_append, List.getElem?_cons_zero, List.getElem?_cons_succ, List.set_cons_zero, List.set_cons_succ, sz0, sz1, sz2, sz3, sz4, sz5, if_true, and_self, Nat.reduceSub, Nat.reduceAdd, Nat.reduceLeDiff, List.lookup_cons, List.lookup_nil, sLk, sLock, h.q, lkO, sFor, iAny, it0, h1, unlk, set_back h.q, eDisp, prsM, keyOf, h.M.xt, dm1, M2.xh, M2.xl, dm2, ln, ap, me, mk, me2, mlen, qA, sq, it1, h2, bq, xt rfl, nt rfl, pt rfl, it3, h3]
    | false =>
      rw [hp, if_neg Bool.false_ne_true] at h3
      have Mn : ∀ p, ModAt (A ++ [.dct (tabV V), .dct (logV L), .dct (modK A.length (A.length + 1) p)]) (A.length + 2) A.length (A.length + 1) V p L := fun p => ⟨nm rfl, nt rfl, nl rfl⟩
      obtain ⟨A', f', e', M'⟩ := ltail_ok (a := a3) (b := b2) (c := c2) h hn hV (st.getD sp)
      refine ⟨A', f', ?_, fun _ => ?_⟩
      · cases st with
        | none =>
          have nn : ∀ {B : AH}, notNM (stV none) .non B = .ok (.bl false) B := rfl
          simp only [defM, sSeq, sIf, sSet, sRet, sRetN, sExpr, sNext, sFld_def, sSub, sRaise, eVar, eC, eBin, eUn, tB', eB, bNot, bAnd, bOr, bIf, eIf, eAnd, eOr, eNot, aNil, aCons, eTup, aLst, eFrz, eRef, pN, pA, pK, pAK, eCall, eMeth_def, eFld_def, eMake_def, bind_ok, bind_err, bind_bad, fs_ok, fs_err, fs_bad, List.map_cons, List.map_nil, List.length_cons, List.length_nil, List.replicate, List.cons_append, List.nil_append, List.getElem?_cons_zero, List.getElem?_cons_succ, List.set_cons_zero, List.set_cons_succ, sz0, sz1, sz2, sz3, sz4, sz5, if_true, and_self, Nat.reduceSub, Nat.reduceAdd, Nat.reduceLeDiff, List.lookup_cons, List.lookup_nil, sLk, sLock, h.q, lkO, sFor, iAny, it0, h1, unlk, set_back h.q, eDisp, prsM, keyOf, h.M.xt, dm1, M2.xh, M2.xl, dm2, ln, ap, me, mk, me2, mlen, qA, sq, it1, h2, bq, xt rfl, nt rfl, pt rfl, it3, h3, nn]
          rw [Option.getD_none] at e'
          rw [e']
          rfl
        | some p =>
          have sm : setM (.ref (A.length + 2)) (.str "head") (spV p) (A ++ [.dct (tabV V), .dct (logV L), .dct (modK A.length (A.length + 1) sp)]) = some (A ++ [.dct (tabV V), .dct (logV L), .dct (modK A.length (A.length + 1) p)]) := by
            unfold setM dctW
            dsimp only
            rw [nm rfl]
            dsimp only [keyOf]
            rw [if_pos (by show 3 < 1000000; decide), pm rfl]
            rfl
          have nn : ∀ {B : AH}, notNM (stV (some p)) .non B = .ok (.bl true) B := rfl
          have sm' : setM (.ref (A.length + 2)) (.str "head") (stV (some p)) _ = _ := sm
          simp only [defM, sSeq, sIf, sSet, sRet, sRetN, sExpr, sNext, sFld_def, sSub, sRaise, eVar, eC, eBin, eUn, tB', eB, bNot, bAnd, bOr, bIf, eIf, eAnd, eOr, eNot, aNil, aCons, eTup, aLst, eFrz, eRef, pN, pA, pK, pAK, eCall, eMeth_def, eFld_def, eMake_def, bind_ok, bind_err, bind_bad, fs_ok, fs_err, fs_bad, List.map_cons, List.map_nil, List.length_cons, List.length_nil, List.replicate, List.cons_append, List.nil_append, List.getElem?_cons_zero, List.getElem?_cons_succ, List.set_cons_zero, List.set_cons_succ, sz0, sz1, sz2, sz3, sz4, sz5, if_true, and_self, Nat.reduceSub, Nat.reduceAdd, Nat.reduceLeDiff, List.lookup_cons, List.lookup_nil, sLk, sLock, h.q, lkO, sFor, iAny, it0, h1, unlk, set_back h.q, eDisp, prsM, keyOf, h.M.xt, dm1, M2.xh, M2.xl, dm2, ln, ap, me, mk, me2, mlen, qA, sq, it1, h2, bq, xt rfl, nt rfl, pt rfl, it3, h3, nn, sm']
          rw [Option.getD_some] at e'
          rw [e']
          rfl
      · unfold modL
        rw [hVe]
        exact M'
end
end Rp
/-! RpG: _law_stands, _law_finished -/
namespace Rp
open PySem PySem.Spec PyProof.Rows Mv Rf
structure Same (T T' : Tb Str) (L L' : Tb (List Ent)) : Prop where
  t : ∀ k, get T k = get T' k
  l : ∀ k, lg L k = lg L' k
theorem good_strs (ks : List Str) : good (.tup (ks.map MV.str)) = true := by
  unfold good
  rw [show datM (.tup (ks.map MV.str)) = some (.tuple (ks.map PyData.str)) by simp only [datM, datMs_str, Option.map_some]]
  exact okD_strs ks
theorem quiet2 {B : AH} {x0 x1 x3 : Option MV} {body : FS} : ∀ (ks : List Str) (a : Option MV), (∀ k ∈ ks, body [x0, x1, some (.str k), x3] B = .nx [x0, x1, some (.str k), x3] B) → ∃ a', runL (turn [2] gNm body) (ks.map MV.str) [x0, x1, a, x3] B = .nx [x0, x1, a', x3] B
  | [], a, _ => ⟨a, rfl⟩
  | k :: ks, a, hb => by
    have e : turn [2] gNm body (.str k) [x0, x1, a, x3] B = body [x0, x1, some (.str k), x3] B := rfl
    obtain ⟨a', q⟩ := quiet2 ks (some (.str k)) fun j hj => hb j (List.mem_cons_of_mem _ hj)
    refine ⟨a', ?_⟩
    rw [List.map_cons]
    unfold runL
    rw [e, hb k (List.mem_cons_self ..)]
    exact q
theorem quiet3 {B : AH} {x0 x1 x2 : Option MV} {body : FS} : ∀ (ks : List Str) (a : Option MV), (∀ k ∈ ks, body [x0, x1, x2, some (.str k)] B = .nx [x0, x1, x2, some (.str k)] B) → ∃ a', runL (turn [3] gNm body) (ks.map MV.str) [x0, x1, x2, a] B = .nx [x0, x1, x2, a'] B
  | [], a, _ => ⟨a, rfl⟩
  | k :: ks, a, hb => by
    have e : turn [3] gNm body (.str k) [x0, x1, x2, a] B = body [x0, x1, x2, some (.str k)] B := rfl
    obtain ⟨a', q⟩ := quiet3 ks (some (.str k)) fun j hj => hb j (List.mem_cons_of_mem _ hj)
    refine ⟨a', ?_⟩
    rw [List.map_cons]
    unfold runL
    rw [e, hb k (List.mem_cons_self ..)]
    exact q
theorem mod_ne {T : Tb Str} {a b : Nat} {p : Str × Str} : MO.dct (modK a b p) ≠ .dct (tabV T) := by
  intro z
  cases T with
  | nil => cases z
  | cons x T =>
    have h3 : MV.ref a = MV.str x.2 := congrArg Prod.snd (List.cons.inj (MO.dct.inj z)).1
    cases h3
section
variable {A : AH} {r e t l m mt ml d c g n n' : Nat} {T T' : Tb Str} {sp : Str × Str} {L L' : Tb (List Ent)} {es : List MV}
theorem stands_ok (R : RefsAt A r e t l T sp L es) (M : ModAt A m mt ml T' sp L') (hT : TabOk T) (hT' : TabOk T') (hL : LogOk L n) (hL' : LogOk L' n') (S : Same T T' L L') (h1 : mt ≠ t) (h2 : mt ≠ l) (h3 : mt ≠ ml) : F__law_stands [.ref r, .ref m] A = .ok (.bl true) A := by
  have hm : mt ≠ m := fun z => at_ne M.m M.t mod_ne z.symm
  have hr : mt ≠ r := at_ne M.t R.r (by intro z; cases z)
  have he : mt ≠ e := at_ne M.t R.e (by intro z; cases z)
  have kk : ∀ k, k ∈ keys T ↔ k ∈ keys T' := keys_of_get fun k => by rw [S.t]
  have sk : skeys T = skeys T' := skeys_eq hT.nd hT'.nd kk
  have ln : T.length = T'.length := len_eq hT.nd hT'.nd kk
  have m1 : mthB "Refs" "names" (.ref r) A = true := mth_at R.r rfl
  have m2 : mthB "Refs" "head" (.ref r) A = true := mth_at R.r rfl
  have m3 : mthB "Refs" "at_head" (.ref r) A = true := mth_at R.r rfl
  have m4 : mthB "Refs" "log" (.ref r) A = true := mth_at R.r rfl
  have lo : lenO "Refs" F_Refs___len__ [.ref r] A = .ok (.int T.length) A := by
    unfold lenO
    dsimp only
    rw [insOf_at R.r, len_ok R]
    dsimp only [Rs.bind]
    rw [if_pos ⟨by omega, by have := keysT_len hT; omega⟩]
  have lm : lenM [.ref mt] A = .ok (.int T'.length) A := by
    have h : lstV A (.ref mt) = none := by unfold lstV; dsimp only; rw [M.t]
    unfold lenM
    dsimp only [tupOf]
    rw [h, M.dt]
    dsimp only
    unfold tabV
    rw [len_mapK]
  have fB : Fr (fun n => n = mt) A (A.set mt (.lkd (tabV T'))) := Fr.set rfl
  have RB := R.fr fB (Ne.symm hr) (Ne.symm he) (Ne.symm h1) (Ne.symm h2)
  have mB : (A.set mt (.lkd (tabV T')))[m]? = some (.dct (modK mt ml sp)) := fB.same _ _ (Ne.symm hm) M.m
  have tB : dctV (A.set mt (.lkd (tabV T'))) (.ref mt) = some (tabV T') := dctV_lk (set_at M.t)
  have xB : ixM (.ref m) (.str "table") (A.set mt (.lkd (tabV T'))) = .ok (.ref mt) (A.set mt (.lkd (tabV T'))) := ix_dct (dctV_at mB) rfl
  have itB : itV (A.set mt (.lkd (tabV T'))) (.ref mt) = some ((keys T').map MV.str) := by
    unfold itV lklOf lkdOf
    dsimp only [tupOf]
    rw [set_at M.t]
    dsimp only
    unfold tabV mapK keys
    rw [List.map_map, List.map_map]
    rfl
  obtain ⟨a1, q1⟩ := quiet2 (B := A.set mt (.lkd (tabV T'))) (x0 := some (.ref r)) (x1 := some (.ref m)) (x3 := none) (body := sIf (bOr (tB' (eBin neM (eGetI "Refs" F_Refs___getitem__ (eVar 0) (eVar 2)) (eBin ixM (eBin ixM (eVar 1) (eC (.str "table"))) (eVar 2)))) (tB' (inO "Refs" F_Refs___contains__ true (eVar 2) (eVar 0)))) (sRet (eC (.bl false))) sNext) (keys T') none (fun k hk => by
    obtain ⟨v, hv⟩ := mem_get hk
    have hv2 : get T k = some v := by rw [S.t]; exact hv
    have hkT : k ∈ keys T := (kk k).mpr hk
    simp only [defM, sSeq, sIf, sSet, sRet, sRetN, sExpr, sNext, sFld_def, sSub, sRaise, eVar, eC, eBin, eUn, tB', eB, bNot, bAnd, bOr, bIf, eIf, eAnd, eOr, eNot, aNil, aCons, eTup, aLst, eFrz, eRef, pN, pA, pK, pAK, eCall, eMeth_def, eFld_def, eMake_def, bind_ok, bind_err, bind_bad, fs_ok, fs_err, fs_bad, List.map_cons, List.map_nil, List.length_cons, List.length_nil, List.replicate, List.cons_append, List.nil_append, List.getElem?_cons_zero, List.getElem?_cons_succ, List.set_cons_zero, List.set_cons_succ, sz0, sz1, sz2, sz3, sz4, sz5, if_true, and_self, Nat.reduceSub, Nat.reduceAdd, Nat.reduceLeDiff, List.lookup_cons, List.lookup_nil, eGetI, insOf_at RB.r, getitem_ok RB (hT'.key hk) hv2, xB, ix_tab tB hv, ne_str, decide_true, Bool.not_true, inO, contains_ok RB (hT'.key hk), decide_eq_true hkT, bne_self_eq_false])
  obtain ⟨a2, q2⟩ := quiet3 (B := A) (x0 := some (.ref r)) (x1 := some (.ref m)) (x2 := a1) (body := sIf (tB' (eBin neM (eMeth "Refs" "log" 2 0 (fun ms _ => ms) F_Refs_log (eVar 0) (pA (aCons (eVar 3) aNil))) (eGet2 (eBin ixM (eVar 1) (eC (.str "logs"))) (eVar 3) (eFrz (aLst aNil))))) (sRet (eC (.bl false))) sNext) (skeys L' ++ [("HEAD" : Str), ("never" : Str)]) none (fun k hk => by
    have nm : F_is_named [.str k] A = .ok (.bl true) A := by
      rcases List.mem_append.mp hk with hk | hk
      · exact (hL'.key (mem_skeys.mp hk)).elim (is_named_ok k) fun e => by rw [e]; exact is_named_head
      · rcases List.mem_cons.mp hk with e | hk
        · rw [e]; exact is_named_head
        · rw [List.mem_singleton.mp hk]; exact is_named_never
    have g := get2_log (k := k) (ρ := [some (.ref r), some (.ref m), a1, some (.str k)]) (fo := eBin ixM (eVar 1) (eC (.str "logs"))) (fe := eVar 3) (f2 := eFrz (aLst aNil)) M.dl (by simp only [defM, sSeq, sIf, sSet, sRet, sRetN, sExpr, sNext, sFld_def, sSub, sRaise, eVar, eC, eBin, eUn, tB', eB, bNot, bAnd, bOr, bIf, eIf, eAnd, eOr, eNot, aNil, aCons, eTup, aLst, eFrz, eRef, pN, pA, pK, pAK, eCall, eMeth_def, eFld_def, eMake_def, bind_ok, bind_err, bind_bad, fs_ok, fs_err, fs_bad, List.map_cons, List.map_nil, List.length_cons, List.length_nil, List.replicate, List.cons_append, List.nil_append, List.getElem?_cons_zero, List.getElem?_cons_succ, List.set_cons_zero, List.set_cons_succ, sz0, sz1, sz2, sz3, sz4, sz5, if_true, and_self, Nat.reduceSub, Nat.reduceAdd, Nat.reduceLeDiff, List.lookup_cons, List.lookup_nil, M.xl]) (by simp only [defM, sSeq, sIf, sSet, sRet, sRetN, sExpr, sNext, sFld_def, sSub, sRaise, eVar, eC, eBin, eUn, tB', eB, bNot, bAnd, bOr, bIf, eIf, eAnd, eOr, eNot, aNil, aCons, eTup, aLst, eFrz, eRef, pN, pA, pK, pAK, eCall, eMeth_def, eFld_def, eMake_def, bind_ok, bind_err, bind_bad, fs_ok, fs_err, fs_bad, List.map_cons, List.map_nil, List.length_cons, List.length_nil, List.replicate, List.cons_append, List.nil_append, List.getElem?_cons_zero, List.getElem?_cons_succ, List.set_cons_zero, List.set_cons_succ, sz0, sz1, sz2, sz3, sz4, sz5, if_true, and_self, Nat.reduceSub, Nat.reduceAdd, Nat.reduceLeDiff, List.lookup_cons, List.lookup_nil]) rfl
    have ne : neM (entsV (lg L' k)) (entsV (lg L' k)) A = .ok (.bl false) A := ne_self (good_ents _)
    simp only [defM, sSeq, sIf, sSet, sRet, sRetN, sExpr, sNext, sFld_def, sSub, sRaise, eVar, eC, eBin, eUn, tB', eB, bNot, bAnd, bOr, bIf, eIf, eAnd, eOr, eNot, aNil, aCons, eTup, aLst, eFrz, eRef, pN, pA, pK, pAK, eCall, eMeth_def, eFld_def, eMake_def, bind_ok, bind_err, bind_bad, fs_ok, fs_err, fs_bad, List.map_cons, List.map_nil, List.length_cons, List.length_nil, List.replicate, List.cons_append, List.nil_append, List.getElem?_cons_zero, List.getElem?_cons_succ, List.set_cons_zero, List.set_cons_succ, sz0, sz1, sz2, sz3, sz4, sz5, if_true, and_self, Nat.reduceSub, Nat.reduceAdd, Nat.reduceLeDiff, List.lookup_cons, List.lookup_nil, m4, log_ok R nm, g, S.l, ne])
  have hh : hd T sp = hd T' sp := by unfold hd; rw [S.t]
  have cat : catL (.lst ((skeys L').map MV.str)) (.lst [.str "HEAD", .str "never"]) A = .ok ((skeys L' ++ [("HEAD" : Str), ("never" : Str)]).map MV.str) A := by
    unfold catL
    dsimp only [lstV]
    rw [if_pos (by rw [List.length_map, skeys_len]; have := hL'.len; show _ + 2 ≤ _; omega), List.map_append]
    rfl
  unfold F__law_stands b__law_stands
  simp only [defM, sSeq, sIf, sSet, sRet, sRetN, sExpr, sNext, sFld_def, sSub, sRaise, eVar, eC, eBin, eUn, tB', eB, bNot, bAnd, bOr, bIf, eIf, eAnd, eOr, eNot, aNil, aCons, eTup, aLst, eFrz, eRef, pN, pA, pK, pAK, eCall, eMeth_def, eFld_def, eMake_def, bind_ok, bind_err, bind_bad, fs_ok, fs_err, fs_bad, List.map_cons, List.map_nil, List.length_cons, List.length_nil, List.replicate, List.cons_append, List.nil_append, List.getElem?_cons_zero, List.getElem?_cons_succ, List.set_cons_zero, List.set_cons_succ, sz0, sz1, sz2, sz3, sz4, sz5, if_true, and_self, Nat.reduceSub, Nat.reduceAdd, Nat.reduceLeDiff, List.lookup_cons, List.lookup_nil, m1, names_ok R hT, M.xt, sorted_tab M.dt hT'.len, tupleM, tupOf, lstV, sk, ne_self (good_strs (skeys T')), lo, lm, ln, ne_int, decide_true, Bool.not_true, sLk, sLock, M.t, lkO, sFor, iAny, xB, itB, q1, unlk, set_back M.t, m2, head_ok R, M.xh, ne_sp, m3, at_head_ok R, law_hd_ok M, hh, ne_o, iFrz, aCat, M.xl, sorted_log M.dl hL'.len, cat, q2]
end
section
variable {A A' : AH} {d r c g : Nat} {tn : Int} {sg : MV} {st : Option (Str × Str)} {C : Tb Cl2} {G : List MV} {op : Bool}
theorem finished_ok (E : EditAt A d r c g tn sg st op C G) (h : F_Edit_finish [.ref d] A = .ok .non A') : F__law_finished [.ref d] A = .ok .non A' := by
  have m1 : mthB "Edit" "finish" (.ref d) A = true := mth_at E.d rfl
  unfold F__law_finished b__law_finished
  simp only [defM, sSeq, sIf, sSet, sRet, sRetN, sExpr, sNext, sFld_def, sSub, sRaise, eVar, eC, eBin, eUn, tB', eB, bNot, bAnd, bOr, bIf, eIf, eAnd, eOr, eNot, aNil, aCons, eTup, aLst, eFrz, eRef, pN, pA, pK, pAK, eCall, eMeth_def, eFld_def, eMake_def, bind_ok, bind_err, bind_bad, fs_ok, fs_err, fs_bad, List.map_cons, List.map_nil, List.length_cons, List.length_nil, List.replicate, List.cons_append, List.nil_append, List.getElem?_cons_zero, List.getElem?_cons_succ, List.set_cons_zero, List.set_cons_succ, sz0, sz1, sz2, sz3, sz4, sz5, if_true, and_self, Nat.reduceSub, Nat.reduceAdd, Nat.reduceLeDiff, List.lookup_cons, List.lookup_nil, sTry, m1, h]
theorem finished_stale {k : Str} (E : EditAt A d r c g tn sg st op C G) (h : F_Edit_finish [.ref d] A = .err "Stale" (mk_Stale (.str k)) A') : F__law_finished [.ref d] A = .ok (.tup [.str "stale", .str k]) A' := by
  have m1 : mthB "Edit" "finish" (.ref d) A = true := mth_at E.d rfl
  unfold F__law_finished b__law_finished
  simp only [defM, sSeq, sIf, sSet, sRet, sRetN, sExpr, sNext, sFld_def, sSub, sRaise, eVar, eC, eBin, eUn, tB', eB, bNot, bAnd, bOr, bIf, eIf, eAnd, eOr, eNot, aNil, aCons, eTup, aLst, eFrz, eRef, pN, pA, pK, pAK, eCall, eMeth_def, eFld_def, eMake_def, bind_ok, bind_err, bind_bad, fs_ok, fs_err, fs_bad, List.map_cons, List.map_nil, List.length_cons, List.length_nil, List.replicate, List.cons_append, List.nil_append, List.getElem?_cons_zero, List.getElem?_cons_succ, List.set_cons_zero, List.set_cons_succ, sz0, sz1, sz2, sz3, sz4, sz5, if_true, and_self, Nat.reduceSub, Nat.reduceAdd, Nat.reduceLeDiff, List.lookup_cons, List.lookup_nil, sTry, m1, h]
  rfl
theorem finished_bad {x : Str} (E : EditAt A d r c g tn sg st op C G) (h : F_Edit_finish [.ref d] A = .err "BadRef" (mk_BadRef (.str x)) A') : F__law_finished [.ref d] A = .ok (.tup [.str "ref", .non]) A' := by
  have m1 : mthB "Edit" "finish" (.ref d) A = true := mth_at E.d rfl
  unfold F__law_finished b__law_finished
  simp only [defM, sSeq, sIf, sSet, sRet, sRetN, sExpr, sNext, sFld_def, sSub, sRaise, eVar, eC, eBin, eUn, tB', eB, bNot, bAnd, bOr, bIf, eIf, eAnd, eOr, eNot, aNil, aCons, eTup, aLst, eFrz, eRef, pN, pA, pK, pAK, eCall, eMeth_def, eFld_def, eMake_def, bind_ok, bind_err, bind_bad, fs_ok, fs_err, fs_bad, List.map_cons, List.map_nil, List.length_cons, List.length_nil, List.replicate, List.cons_append, List.nil_append, List.getElem?_cons_zero, List.getElem?_cons_succ, List.set_cons_zero, List.set_cons_succ, sz0, sz1, sz2, sz3, sz4, sz5, if_true, and_self, Nat.reduceSub, Nat.reduceAdd, Nat.reduceLeDiff, List.lookup_cons, List.lookup_nil, sTry, m1, h]
  rfl
end
end Rp
/-! RpH: _law_noted -/
namespace Rp
open PySem PySem.Spec PyProof.Rows Mv Rf
def nbody : FS := (sSeq (sAsg (eTup (aCons (eCall 2 0 (fun ms _ => ms) F__law_draw (pA (aCons (eVar 0) (aCons (eC (.int 4)) aNil)))) (aCons (eCall 1 0 (fun ms _ => ms) F__law_ref (pA (aCons (eVar 0) aNil))) aNil))) [6, 7] (gTupM 2 (gConsM gNm (gConsM gNm gNilM)))) (sSeq (sSet 8 (eCall 2 0 (fun ms _ => ms) F__law_pick (pA (aCons (eVar 0) (aCons (eFrz (aLst (aCons (eC (.str "")) (aCons (eC (.str "")) (aCons (eC (.str "")) (aCons (eGet1 (eBin ixM (eVar 2) (eC (.str "table"))) (eVar 7)) (aCons (eC .non) (aCons (eCall 1 0 (fun ms _ => ms) F__law_id (pA (aCons (eVar 0) aNil))) aNil)))))))) aNil))))) (sSeq (sLk (eVar 3) (sSet 3 (eRef (aLc (iAny (eVar 3)) [9] [9] gNm (qElt (bOr (tB' (eBin neM (eBin ixM (eVar 9) (eC (.int 0))) (eVar 7))) (tB' (eBin eqM (eVar 6) (eC (.int 3))))) (eVar 9)))))) (sIf (tB' (eBin ltM (eVar 6) (eC (.int 2)))) (sSeq (sExpr (eApp (eVar 3) (eTup (aCons (eVar 7) (aCons (eCall 1 0 (fun ms _ => ms) F__law_id (pA (aCons (eVar 0) aNil))) (aCons (eVar 8) aNil)))))) (sExpr (eMeth "Edit" "point" 3 1 (gkw [none] [0]) F_Edit_point (eVar 1) (pAK (aCons (eVar 7) (aCons (eBin ixM (eBin ixM (eVar 3) (eUn negM (eC (.int 1)))) (eC (.int 1))) aNil)) (aCons (eVar 8) aNil))))) (sIf (tB' (eBin eqM (eVar 6) (eC (.int 2)))) (sSeq (sExpr (eApp (eVar 3) (eTup (aCons (eVar 7) (aCons (eC .non) (aCons (eVar 8) aNil)))))) (sExpr (eMeth "Edit" "delete" 2 1 (gkw [none] [0]) F_Edit_delete (eVar 1) (pAK (aCons (eVar 7) aNil) (aCons (eVar 8) aNil))))) (sSeq (sSet 4 (eCall 2 0 (fun ms _ => ms) F__law_pick (pA (aCons (eVar 0) (aCons (eFrz (aLst (aCons (eTup (aCons (eC (.str "ref")) (aCons (eVar 7) aNil))) (aCons (eTup (aCons (eC (.str "id")) (aCons (eCall 1 0 (fun ms _ => ms) F__law_id (pA (aCons (eVar 0) aNil))) aNil))) aNil)))) aNil))))) (sExpr (eMeth "Edit" "stand" 3 0 (fun ms _ => ms) F_Edit_stand (eVar 1) (pA (aCons (eBin ixM (eVar 4) (eC (.int 0))) (aCons (eBin ixM (eVar 4) (eC (.int 1))) aNil)))))))))))
theorem noted_split : F__law_noted = defM 10 (sSeq (sPar 3 4 (aCons (eRef (aLst aNil)) (aCons (eC .non) aNil))) (sSeq (sFor (Mv.iRng1 (aCons (eCall 2 0 (fun ms _ => ms) F__law_draw (pA (aCons (eVar 0) (aCons (eC (.int 5)) aNil)))) aNil)) [5] gNm nbody) (sRet (eTup (aCons (eVar 3) (aCons (eVar 4) aNil)))))) := rfl
def Sx (s d c g : Nat) (n : Nat) : Prop := n = s ∨ n = d ∨ n = c ∨ n = g
structure NW (A0 : AH) (s r e t l d c g m mt ml : Nat) (T : Tb Str) (sp : Str × Str) (L : Tb (List Ent)) (es : List MV) (T' : Tb Str) (sp' : Str × Str) (L' : Tb (List Ent)) : Prop where
  R : RefsAt A0 r e t l T sp L (es ++ [MV.ref d])
  cl : Closed A0 es
  M : ModAt A0 m mt ml T' sp' L'
  hl : es.length ≤ 900
  tT : TabOk T'
  sl : s < A0.length
  dl : d < A0.length
  cc : c < A0.length
  gl : g < A0.length
  pw : s ≠ d ∧ s ≠ c ∧ s ≠ g ∧ d ≠ c ∧ d ≠ g ∧ c ≠ g
  out : ∀ x ∈ [r, e, t, l, m, mt, ml], ¬ Sx s d c g x
  nc : ∀ n fs, Sx s d c g n → A0[n]? = some (.ins "Edit" fs) → isOpen fs = some (.bl false) → False
structure NI (A0 A : AH) (s r d c g : Nat) (tn : Int) (sg : MV) (k : Nat) (j : Nat) (st : Option (Str × Str)) (C : Tb Cl2) (G : List MV) (q : Nat) : Prop where
  f : Fr (Sx s d c g) A0 A
  S : Src A s k
  E : EditAt A d r c g tn sg st true C G
  qa : A[q]? = some (.lst (C.map c3))
  ql : A0.length ≤ q
  gl : G.length ≤ j
  tC : CallsOk C
  tst : ∀ p, st = some p → SpOk p
theorem noted_eq {C : Tb Cl2} {k : Str} {v : Cl2} : noted C k v = drop C k ++ [(k, v)] := by
  unfold noted
  refine put_new ?_
  rw [keys_drop]
  intro h
  have := (List.mem_filter.mp h).2
  simp at this
theorem noted_ok {C : Tb Cl2} {k : Str} {v : Cl2} (h : CallsOk C) (hk : k ∈ nms) (hv : ∀ x, v.1 = some x → x ∈ ids) (ho : OldOk v.2) : CallsOk (noted C k v) :=
  ⟨nodup_put (nodup_drop h.nd), all_put (P := fun (a : Str) (b : Cl2) => a ∈ nms ∧ (∀ x, b.1 = some x → x ∈ ids) ∧ OldOk b.2) (all_drop (P := fun (a : Str) (b : Cl2) => a ∈ nms ∧ (∀ x, b.1 = some x → x ∈ ids) ∧ OldOk b.2) h.all) ⟨hk, hv, ho⟩⟩
theorem calls_len {C : Tb Cl2} (h : CallsOk C) : C.length ≤ 14 := by
  have := h.len
  unfold keys at this
  rwa [List.length_map] at this
theorem last_at {X : List MV} {v : MV} : L2.atI (X ++ [v]) (-1) = some v := by
  unfold L2.atI L2.ixN
  rw [if_neg (by decide), if_pos (by rw [List.length_append]; show -((X.length + 1 : Nat) : Int) ≤ -1; omega)]
  have : (-1 + ((X ++ [v]).length : Int)).toNat = X.length := by rw [List.length_append]; show (-1 + ((X.length + 1 : Nat) : Int)).toNat = _; omega
  rw [this]
  show (X ++ [v])[X.length]? = some v
  simp
theorem sz6 {a b c d e f : MV} : szL [a, b, c, d, e, f] = true := rfl
theorem gk {ms : List MV} {z : MV} : gkw [none] [0] ms [z] = ms ++ [z] := rfl
section
variable {A0 A : AH} {s r e t l d c g m mt ml n j q k : Nat} {T T' : Tb Str} {sp sp' : Str × Str} {L L' : Tb (List Ent)} {es : List MV} {tn : Int} {sg : MV} {st : Option (Str × Str)} {C : Tb Cl2} {G : List MV}
theorem NW.at (W : NW A0 s r e t l d c g m mt ml T sp L es T' sp' L') (f : Fr (Sx s d c g) A0 A) : RefsAt A r e t l T sp L (es ++ [MV.ref d]) ∧ Closed A es ∧ ModAt A m mt ml T' sp' L' := by
  have o := W.out
  exact ⟨W.R.fr f (o r (by simp)) (o e (by simp)) (o t (by simp)) (o l (by simp)), W.cl.fr f W.nc, W.M.fr f (o m (by simp)) (o mt (by simp)) (o ml (by simp))⟩
/-- the way so far: the source is drawn from, a list is laid -/
theorem nstep (W : NW A0 s r e t l d c g m mt ml T sp L es T' sp' L') (I : NI A0 A s r d c g tn sg k j st C G q) (hk : k ≤ 900000) (hj : j ≤ 800) (x5 x6 x7 x8 x9 : Option MV) : ∃ A' st' C' G' q' y6 y7 y8 y9, nbody [some (.ref s), some (.ref d), some (.ref m), some (.ref q), some (stV st), x5, x6, x7, x8, x9] A = .nx [some (.ref s), some (.ref d), some (.ref m), some (.ref q'), some (stV st'), x5, y6, y7, y8, y9] A' ∧ NI A0 A' s r d c g tn sg (k + 8) (j + 1) st' C' G' q' := by
  obtain ⟨p1, p2, p3, p4, p5, p6⟩ := W.pw
  have sS : Sx s d c g s := .inl rfl
  have q0 := I.ql
  have sl := W.sl
  have dl := W.dl
  have cc := W.cc
  have gg := W.gl
  obtain ⟨w, o1, e1, w0, w1, S1⟩ := draw_ok (k := 4) I.S (by omega) (by omega) (by omega)
  obtain ⟨x, o2, hx, e2, S2⟩ := ref_ok S1 (by omega)
  rw [List.set_set] at e2 S2
  have f2 : Fr (fun n => n = s) A (A.set s o2) := Fr.set rfl
  obtain ⟨R2, cl2, M2⟩ := W.at (I.f.trans (f2.mono fun n e => .inl e))
  obtain ⟨y, o3, hy, e3, S3⟩ := id_ok S2 (by omega)
  rw [List.set_set] at e3 S3
  obtain ⟨v, o4, hv, e4, S4⟩ := pick_ok (xs := [.str "", .str "", .str "", oV (get T' x), .non, .str y]) S3 (by omega) (by show 0 < 6; decide) (by show 6 ≤ 1000; decide)
  rw [List.set_set] at e4 S4
  obtain ⟨old, rfl, ho⟩ : ∃ old, v = oV old ∧ OldOk old := by
    simp only [List.mem_cons, List.not_mem_nil, or_false] at hv
    rcases hv with h | h | h | h | h | h
    · exact ⟨some ("" : Str), h, .inr (.inl rfl)⟩
    · exact ⟨some ("" : Str), h, .inr (.inl rfl)⟩
    · exact ⟨some ("" : Str), h, .inr (.inl rfl)⟩
    · refine ⟨get T' x, h, ?_⟩
      cases z : get T' x with
      | none => exact .inl rfl
      | some b => exact .inr (.inr ⟨b, tab_val W.tT z, rfl⟩)
    · exact ⟨none, h, .inl rfl⟩
    · exact ⟨some y, h, .inr (.inr ⟨y, hy, rfl⟩)⟩
  have f4 : Fr (fun n => n = s) A (A.set s o4) := Fr.set rfl
  have E4 := I.E.fr f4 (by omega) (by omega) (by omega)
  have q4 := f4.same _ _ (by omega) I.qa
  have F4 := I.f.trans (f4.mono fun n e => Or.inl e)
  have l4 : (A.set s o4).length = A.length := List.length_set ..
  have Al := at_lt I.qa
  have hxn := nms_of hx
  have g1 := get1_tab (k := x) (fo := eBin ixM (eVar 2) (eC (.str "table"))) (fe := eVar 7) (ρ := [some (.ref s), some (.ref d), some (.ref m), some (.ref q), some (stV st), x5, some (.int w), some (.str x), x8, x9]) M2.dt (by simp only [defM, sSeq, sIf, sSet, sRet, sRetN, sExpr, sNext, sFld_def, sSub, sRaise, eVar, eC, eBin, eUn, tB', eB, bNot, bAnd, bOr, bIf, eIf, eAnd, eOr, eNot, aNil, aCons, eTup, aLst, eFrz, eRef, pN, pA, pK, pAK, eCall, eMeth_def, eFld_def, eMake_def, bind_ok, bind_err, bind_bad, fs_ok, fs_err, fs_bad, List.map_cons, List.map_nil, List.length_cons, List.length_nil, List.replicate, List.cons_append, List.nil_append, List.getElem?_cons_zero, List.getElem?_cons_succ, List.set_cons_zero, List.set_cons_succ, sz0, sz1, sz2, sz3, sz4, sz5, if_true, and_self, Nat.reduceSub, Nat.reduceAdd, Nat.reduceLeDiff, List.lookup_cons, List.lookup_nil, M2.xt]) (by simp only [defM, sSeq, sIf, sSet, sRet, sRetN, sExpr, sNext, sFld_def, sSub, sRaise, eVar, eC, eBin, eUn, tB', eB, bNot, bAnd, bOr, bIf, eIf, eAnd, eOr, eNot, aNil, aCons, eTup, aLst, eFrz, eRef, pN, pA, pK, pAK, eCall, eMeth_def, eFld_def, eMake_def, bind_ok, bind_err, bind_bad, fs_ok, fs_err, fs_bad, List.map_cons, List.map_nil, List.length_cons, List.length_nil, List.replicate, List.cons_append, List.nil_append, List.getElem?_cons_zero, List.getElem?_cons_succ, List.set_cons_zero, List.set_cons_succ, sz0, sz1, sz2, sz3, sz4, sz5, if_true, and_self, Nat.reduceSub, Nat.reduceAdd, Nat.reduceLeDiff, List.lookup_cons, List.lookup_nil])
  generalize hA4 : A.set s o4 = A4 at *
  -- the list of the calls, anew
  have hB : A4[q]? = some (.lst (C.map c3)) := q4
  have itB : itV (A4.set q (.lkl (C.map c3))) (.ref q) = some (C.map c3) := by
    unfold itV lklOf
    dsimp only [tupOf]
    rw [set_at q4]
  have i0 : ∀ (p : Str × Cl2) (X : AH), ixM (c3 p) (.int 0) X = .ok (.str p.1) X := fun p X => ix_tup rfl
  have cl14 := calls_len I.tC
  have lcs : ∀ {ρ4 ρ5 ρ8 ρ9 : Option MV}, aLc (iAny (eVar 3)) [9] [9] gNm (qElt (bOr (tB' (eBin neM (eBin ixM (eVar 9) (eC (.int 0))) (eVar 7))) (tB' (eBin eqM (eVar 6) (eC (.int 3))))) (eVar 9)) [some (.ref s), some (.ref d), some (.ref m), some (.ref q), ρ4, ρ5, some (.int w), some (.str x), ρ8, ρ9] (A4.set q (.lkl (C.map c3))) = .ok ((C.filter fun p => !decide (p.1 = x) || decide (w = 3)).map c3) (A4.set q (.lkl (C.map c3))) := by
    intro ρ4 ρ5 ρ8 ρ9
    rw [← flat_if]
    refine lc_ys (ys := C) (inj := c3) ?_ ?_ ?_
    · simp only [defM, sSeq, sIf, sSet, sRet, sRetN, sExpr, sNext, sFld_def, sSub, sRaise, eVar, eC, eBin, eUn, tB', eB, bNot, bAnd, bOr, bIf, eIf, eAnd, eOr, eNot, aNil, aCons, eTup, aLst, eFrz, eRef, pN, pA, pK, pAK, eCall, eMeth_def, eFld_def, eMake_def, bind_ok, bind_err, bind_bad, fs_ok, fs_err, fs_bad, List.map_cons, List.map_nil, List.length_cons, List.length_nil, List.replicate, List.cons_append, List.nil_append, List.getElem?_cons_zero, List.getElem?_cons_succ, List.set_cons_zero, List.set_cons_succ, sz0, sz1, sz2, sz3, sz4, sz5, if_true, and_self, Nat.reduceSub, Nat.reduceAdd, Nat.reduceLeDiff, List.lookup_cons, List.lookup_nil, iAny, itB]
    · intro p _
      refine ⟨[c3 p], rfl, ?_⟩
      simp only [defM, sSeq, sIf, sSet, sRet, sRetN, sExpr, sNext, sFld_def, sSub, sRaise, eVar, eC, eBin, eUn, tB', eB, bNot, bAnd, bOr, bIf, eIf, eAnd, eOr, eNot, aNil, aCons, eTup, aLst, eFrz, eRef, pN, pA, pK, pAK, eCall, eMeth_def, eFld_def, eMake_def, bind_ok, bind_err, bind_bad, fs_ok, fs_err, fs_bad, List.map_cons, List.map_nil, List.length_cons, List.length_nil, List.replicate, List.cons_append, List.nil_append, List.getElem?_cons_zero, List.getElem?_cons_succ, List.set_cons_zero, List.set_cons_succ, sz0, sz1, sz2, sz3, sz4, sz5, if_true, and_self, Nat.reduceSub, Nat.reduceAdd, Nat.reduceLeDiff, List.lookup_cons, List.lookup_nil, qElt, wipeM, setAllM, i0, ne_str]
      cases decide (p.1 = x) with
      | false => rfl
      | true =>
        simp only [defM, sSeq, sIf, sSet, sRet, sRetN, sExpr, sNext, sFld_def, sSub, sRaise, eVar, eC, eBin, eUn, tB', eB, bNot, bAnd, bOr, bIf, eIf, eAnd, eOr, eNot, aNil, aCons, eTup, aLst, eFrz, eRef, pN, pA, pK, pAK, eCall, eMeth_def, eFld_def, eMake_def, bind_ok, bind_err, bind_bad, fs_ok, fs_err, fs_bad, List.map_cons, List.map_nil, List.length_cons, List.length_nil, List.replicate, List.cons_append, List.nil_append, List.getElem?_cons_zero, List.getElem?_cons_succ, List.set_cons_zero, List.set_cons_succ, sz0, sz1, sz2, sz3, sz4, sz5, if_true, and_self, Nat.reduceSub, Nat.reduceAdd, Nat.reduceLeDiff, List.lookup_cons, List.lookup_nil, Bool.not_true, eq_int]
        cases decide (w = 3) <;> rfl
    · rw [flat_if]
      exact szL_le (by rw [List.length_map]; have := List.length_filter_le (fun p : Str × Cl2 => !decide (p.1 = x) || decide (w = 3)) C; omega)
  generalize hX : (C.filter fun p => !decide (p.1 = x) || decide (w = 3)).map c3 = X at lcs
  have bk : (A4.set q (.lkl (C.map c3)) ++ [MO.lst X]).set q (.lst (C.map c3)) = A4 ++ [.lst X] := by rw [List.set_append_left _ _ (by rw [List.length_set]; exact at_lt q4), set_back q4]
  have lB : (A4.set q (.lkl (C.map c3))).length = A4.length := List.length_set ..
  have f5 : Fr (fun _ => False) A4 (A4 ++ [MO.lst X]) := Fr.app
  have q5 : (A4 ++ [MO.lst X])[A4.length]? = some (.lst X) := new_at
  have S5 : Src (A4 ++ [MO.lst X]) s (k + 1 + 1 + 1 + 1) := by
    obtain ⟨a, b, c, h, r⟩ := S4
    exact ⟨a, b, c, app_at h, r⟩
  have E5 := E4.fr f5 id id id
  have F5 := F4.trans (f5.mono fun n z => z.elim)
  have Al4 : A0.length ≤ A4.length := F4.len
  generalize hA5 : A4 ++ [MO.lst X] = A5 at *
  have lb5 : lstB A5 (.ref A4.length) = true := by unfold lstB; rw [lstV_at q5]; rfl
  have Xl : X.length ≤ 14 := by rw [← hX, List.length_map]; have := List.length_filter_le (fun p : Str × Cl2 => !decide (p.1 = x) || decide (w = 3)) C; omega
  have fin : ∀ {A' : AH} {st' : Option (Str × Str)} {C' : Tb Cl2} {G' : List MV} {q' k' : Nat}, k' ≤ k + 8 → Fr (Sx s d c g) A0 A' → Src A' s k' → EditAt A' d r c g tn sg st' true C' G' → A'[q']? = some (.lst (C'.map c3)) → A0.length ≤ q' → G'.length ≤ j + 1 → CallsOk C' → (∀ p, st' = some p → SpOk p) → NI A0 A' s r d c g tn sg (k + 8) (j + 1) st' C' G' q' := fun hk f S E q ql gl tC tst => ⟨f, by obtain ⟨a, b, c, h, h1, h2, h3, h4⟩ := S; exact ⟨a, b, c, h, h1, h2, h3, by omega⟩, E, q, ql, gl, tC, tst⟩
  have gl := I.gl
  by_cases hw2 : w < 2
  · -- point
    have w3 : decide (w = 3) = false := decide_eq_false (by omega)
    have hXd : X = (drop C x).map c3 := by
      rw [← hX, w3]
      unfold drop
      congr 1
      apply List.filter_congr
      intro p _
      simp
    obtain ⟨z, o6, hz, e6, S6⟩ := id_ok S5 (by omega)
    have f6 : Fr (fun n => n = s) A5 (A5.set s o6) := Fr.set rfl
    have q6 := f6.same _ _ (by omega) q5
    have lw6 : lstW (A5.set s o6) (.ref A4.length) = some (A4.length, X) := by unfold lstW; dsimp only; rw [q6]
    have lt6 : X.length < 1000000 := by omega
    have f7 : Fr (fun n => n = s ∨ n = A4.length) A5 ((A5.set s o6).set A4.length (.lst (X ++ [c3 (x, (some z, old))]))) := Fr.trans (Fr.set (.inl rfl)) (Fr.set (.inr rfl))
    have q7 : ((A5.set s o6).set A4.length (.lst (X ++ [c3 (x, (some z, old))])))[A4.length]? = some (.lst (X ++ [c3 (x, (some z, old))])) := set_at q6
    have S7 : Src ((A5.set s o6).set A4.length (.lst (X ++ [c3 (x, (some z, old))]))) s (k + 1 + 1 + 1 + 1 + 1) := by
      obtain ⟨a, b, c, h, r⟩ := S6
      exact ⟨a, b, c, by rw [set_ne (by omega)]; exact h, r⟩
    have E7 := E5.fr f7 (by omega) (by omega) (by omega)
    have F7 : Fr (Sx s d c g) A0 ((A5.set s o6).set A4.length (.lst (X ++ [c3 (x, (some z, old))]))) := F5.cut (f7.mono fun n e => e.elim (fun e => .inl (.inl e)) fun e => .inr (by omega))
    generalize hA7 : (A5.set s o6).set A4.length (.lst (X ++ [c3 (x, (some z, old))])) = A7 at *
    obtain ⟨R7, cl7, M7⟩ := W.at F7
    have m7 : mthB "Edit" "point" (.ref d) A7 = true := mth_at E7.d rfl
    have pt := point_ok R7 E7 cl7 W.hl (by omega) (by omega) ho hxn hz
    have i7 : ixM (.ref A4.length) (.int (-1)) A7 = .ok (c3 (x, (some z, old))) A7 := ix_lst q7 last_at
    have i8 : ixM (c3 (x, (some z, old))) (.int 1) A7 = .ok (.str z) A7 := ix_tup rfl
    have ng : negM (.int 1) A7 = .ok (.int (-1)) A7 := rfl
    have f8 : Fr (fun n => n = g ∨ n = c) A7 ((A7.set g (.lst (G ++ [.str x]))).set c (.dct (callV (noted C x (some z, old))))) := Fr.trans (Fr.set (.inl rfl)) (Fr.set (.inr rfl))
    refine ⟨_, st, noted C x (some z, old), G ++ [.str x], A4.length, some (.int w), some (.str x), some (oV old), x9, ?_, fin (show k + 1 + 1 + 1 + 1 + 1 ≤ k + 8 by omega) (F7.trans (f8.mono fun n e => e.elim (fun e => .inr (.inr (.inr e))) fun e => .inr (.inr (.inl e)))) ?_ ⟨?_, ?_, ?_⟩ ?_ (by omega) (by rw [List.length_append]; show _ + 1 ≤ _; omega) (noted_ok I.tC hxn (fun a e => by cases e; exact hz) ho) I.tst⟩
    · unfold nbody
      simp only [defM, sSeq, sIf, sSet, sRet, sRetN, sExpr, sNext, sFld_def, sSub, sRaise, eVar, eC, eBin, eUn, tB', eB, bNot, bAnd, bOr, bIf, eIf, eAnd, eOr, eNot, aNil, aCons, eTup, aLst, eFrz, eRef, pN, pA, pK, pAK, eCall, eMeth_def, eFld_def, eMake_def, bind_ok, bind_err, bind_bad, fs_ok, fs_err, fs_bad, List.map_cons, List.map_nil, List.length_cons, List.length_nil, List.replicate, List.cons_append, List.nil_append, List.getElem?_cons_zero, List.getElem?_cons_succ, List.set_cons_zero, List.set_cons_succ, sz0, sz1, sz2, sz3, sz4, sz5, if_true, and_self, Nat.reduceSub, Nat.reduceAdd, Nat.reduceLeDiff, List.lookup_cons, List.lookup_nil, sz6, sAsg, e1, e2, gTupM, tupOf, gConsM, gNm, gNilM, setAllM, g1, e3, e4, sLk, sLock, hB, lkO, lcs, lB, unlk, bk, ltM, decide_eq_true hw2, eApp, lb5, e6, lw6, if_pos lt6, show MV.tup [.str x, .str z, oV old] = c3 (x, (some z, old)) from rfl, hA7, m7, ng, i7, i8, gk, List.cons_append, List.nil_append, pt]
    · obtain ⟨a, b, cx, h, r⟩ := S7
      exact ⟨a, b, cx, f8.same _ _ (by omega) h, r⟩
    · exact f8.same _ _ (by omega) E7.d
    · rw [set_at (n := c) (o := .dct (callV C))]; rw [set_ne (by omega)]; exact E7.c
    · rw [set_ne (by omega)]; exact set_at E7.g
    · refine f8.same _ _ (by omega) ?_
      rw [noted_eq, List.map_append, ← hXd]
      exact q7
  · by_cases hw3 : w = 2
    · -- delete
      have w3 : decide (w = 3) = false := decide_eq_false (by omega)
      have hXd : X = (drop C x).map c3 := by
        rw [← hX, w3]
        unfold drop
        congr 1
        apply List.filter_congr
        intro p _
        simp
      have lw6 : lstW A5 (.ref A4.length) = some (A4.length, X) := by unfold lstW; dsimp only; rw [q5]
      have lt6 : X.length < 1000000 := by omega
      have f7 : Fr (fun n => n = A4.length) A5 (A5.set A4.length (.lst (X ++ [c3 (x, (none, old))]))) := Fr.set rfl
      have q7 : (A5.set A4.length (.lst (X ++ [c3 (x, (none, old))])))[A4.length]? = some (.lst (X ++ [c3 (x, (none, old))])) := set_at q5
      have S7 : Src (A5.set A4.length (.lst (X ++ [c3 (x, (none, old))]))) s (k + 1 + 1 + 1 + 1) := by
        obtain ⟨a, b, c, h, r⟩ := S5
        exact ⟨a, b, c, by rw [set_ne (by omega)]; exact h, r⟩
      have E7 := E5.fr f7 (by omega) (by omega) (by omega)
      have F7 : Fr (Sx s d c g) A0 (A5.set A4.length (.lst (X ++ [c3 (x, (none, old))]))) := F5.cut (f7.mono fun n e => .inr (by omega))
      generalize hA7 : A5.set A4.length (.lst (X ++ [c3 (x, (none, old))])) = A7 at *
      obtain ⟨R7, cl7, M7⟩ := W.at F7
      have m7 : mthB "Edit" "delete" (.ref d) A7 = true := mth_at E7.d rfl
      have pt := delete_ok R7 E7 cl7 W.hl (by omega) (by omega) ho hxn
      have f8 : Fr (fun n => n = g ∨ n = c) A7 ((A7.set g (.lst (G ++ [.str x]))).set c (.dct (callV (noted C x (none, old))))) := Fr.trans (Fr.set (.inl rfl)) (Fr.set (.inr rfl))
      refine ⟨_, st, noted C x (none, old), G ++ [.str x], A4.length, some (.int w), some (.str x), some (oV old), x9, ?_, fin (show k + 1 + 1 + 1 + 1 ≤ k + 8 by omega) (F7.trans (f8.mono fun n e => e.elim (fun e => .inr (.inr (.inr e))) fun e => .inr (.inr (.inl e)))) ?_ ⟨?_, ?_, ?_⟩ ?_ (by omega) (by rw [List.length_append]; show _ + 1 ≤ _; omega) (noted_ok I.tC hxn (fun a e => by cases e) ho) I.tst⟩
      · unfold nbody
        simp only [defM, sSeq, sIf, sSet, sRet, sRetN, sExpr, sNext, sFld_def, sSub, sRaise, eVar, eC, eBin, eUn, tB', eB, bNot, bAnd, bOr, bIf, eIf, eAnd, eOr, eNot, aNil, aCons, eTup, aLst, eFrz, eRef, pN, pA, pK, pAK, eCall, eMeth_def, eFld_def, eMake_def, bind_ok, bind_err, bind_bad, fs_ok, fs_err, fs_bad, List.map_cons, List.map_nil, List.length_cons, List.length_nil, List.replicate, List.cons_append, List.nil_append, List.getElem?_cons_zero, List.getElem?_cons_succ, List.set_cons_zero, List.set_cons_succ, sz0, sz1, sz2, sz3, sz4, sz5, if_true, and_self, Nat.reduceSub, Nat.reduceAdd, Nat.reduceLeDiff, List.lookup_cons, List.lookup_nil, sz6, sAsg, e1, e2, gTupM, tupOf, gConsM, gNm, gNilM, setAllM, g1, e3, e4, sLk, sLock, hB, lkO, lcs, lB, unlk, bk, ltM, decide_eq_false hw2, eq_int, decide_eq_true hw3, eApp, lb5, lw6, if_pos lt6, show MV.tup [.str x, .non, oV old] = c3 (x, (none, old)) from rfl, hA7, m7, gk, pt]
      · obtain ⟨a, b, cx, h, r⟩ := S7
        exact ⟨a, b, cx, f8.same _ _ (by omega) h, r⟩
      · exact f8.same _ _ (by omega) E7.d
      · rw [set_at (n := c) (o := .dct (callV C))]; rw [set_ne (by omega)]; exact E7.c
      · rw [set_ne (by omega)]; exact set_at E7.g
      · refine f8.same _ _ (by omega) ?_
        rw [noted_eq, List.map_append, ← hXd]
        exact q7
    · -- stand
      have hw4 : w = 3 := by omega
      have w3 : decide (w = 3) = true := decide_eq_true hw4
      have hXd : X = C.map c3 := by
        rw [← hX, w3]
        congr 1
        rw [List.filter_eq_self]
        intro p _
        simp
      obtain ⟨z, o6, hz, e6, S6⟩ := id_ok S5 (by omega)
      obtain ⟨v, o7, hv, e7, S7⟩ := pick_ok (xs := [spV (("ref" : Str), x), spV (("id" : Str), z)]) S6 (by omega) (by show 0 < 2; decide) (by show 2 ≤ 1000; decide)
      rw [List.set_set] at e7 S7
      obtain ⟨p, rfl, hp⟩ : ∃ p, v = spV p ∧ SpOk p := by
        simp only [List.mem_cons, List.not_mem_nil, or_false] at hv
        rcases hv with h | h
        · exact ⟨_, h, .inl ⟨rfl, hxn⟩⟩
        · exact ⟨_, h, .inr ⟨rfl, hz⟩⟩
      have f7 : Fr (fun n => n = s) A5 (A5.set s o7) := Fr.set rfl
      have q7 := f7.same _ _ (by omega) q5
      have E7 := E5.fr f7 (by omega) (by omega) (by omega)
      have F7 : Fr (Sx s d c g) A0 (A5.set s o7) := F5.trans (f7.mono fun n e => .inl e)
      generalize hA7 : A5.set s o7 = A7 at *
      obtain ⟨R7, cl7, M7⟩ := W.at F7
      have m7 : mthB "Edit" "stand" (.ref d) A7 = true := mth_at E7.d rfl
      have pt := stand_ok R7 E7 cl7 W.hl (by omega) hp
      have i0' : ixM (spV p) (.int 0) A7 = .ok (.str p.1) A7 := ix_tup rfl
      have i1' : ixM (spV p) (.int 1) A7 = .ok (.str p.2) A7 := ix_tup rfl
      have f8 : Fr (fun n => n = g ∨ n = d) A7 (stood A7 d r c g tn sg G p) := Fr.trans (Fr.set (.inl rfl)) (Fr.set (.inr rfl))
      refine ⟨_, some p, C, G ++ [.str "HEAD"], A4.length, some (.int w), some (.str x), some (oV old), x9, ?_, fin (show k + 1 + 1 + 1 + 1 + 1 + 1 ≤ k + 8 by omega) (F7.trans (f8.mono fun n e => e.elim (fun e => .inr (.inr (.inr e))) fun e => .inr (.inl e))) ?_ ⟨?_, ?_, ?_⟩ ?_ (by omega) (by rw [List.length_append]; show _ + 1 ≤ _; omega) I.tC (fun p' e => by cases e; exact hp)⟩
      · unfold nbody
        simp only [defM, sSeq, sIf, sSet, sRet, sRetN, sExpr, sNext, sFld_def, sSub, sRaise, eVar, eC, eBin, eUn, tB', eB, bNot, bAnd, bOr, bIf, eIf, eAnd, eOr, eNot, aNil, aCons, eTup, aLst, eFrz, eRef, pN, pA, pK, pAK, eCall, eMeth_def, eFld_def, eMake_def, bind_ok, bind_err, bind_bad, fs_ok, fs_err, fs_bad, List.map_cons, List.map_nil, List.length_cons, List.length_nil, List.replicate, List.cons_append, List.nil_append, List.getElem?_cons_zero, List.getElem?_cons_succ, List.set_cons_zero, List.set_cons_succ, sz0, sz1, sz2, sz3, sz4, sz5, if_true, and_self, Nat.reduceSub, Nat.reduceAdd, Nat.reduceLeDiff, List.lookup_cons, List.lookup_nil, sz6, sAsg, e1, e2, gTupM, tupOf, gConsM, gNm, gNilM, setAllM, g1, e3, e4, sLk, sLock, hB, lkO, lcs, lB, unlk, bk, ltM, decide_eq_false hw2, eq_int, decide_eq_false hw3, e6, show MV.tup [.str "ref", .str x] = spV (("ref" : Str), x) from rfl, show MV.tup [.str "id", .str z] = spV (("id" : Str), z) from rfl, e7, m7, i0', i1', pt]
        rfl
      · obtain ⟨a, b, cx, h, r⟩ := S7
        exact ⟨a, b, cx, f8.same _ _ (by omega) h, r⟩
      · exact set_at (n := d) (by rw [set_ne (Ne.symm p5)]; exact E7.d)
      · exact f8.same _ _ (by omega) E7.c
      · show ((A7.set g _).set d _)[g]? = _
        rw [set_ne p5]
        exact set_at E7.g
      · refine f8.same _ _ (by omega) ?_
        rw [← hXd]
        exact q7
theorem nloop (W : NW A0 s r e t l d c g m mt ml T sp L es T' sp' L') : ∀ (xs : List MV) (A : AH) (k j : Nat) (st : Option (Str × Str)) (C : Tb Cl2) (G : List MV) (q : Nat) (x5 x6 x7 x8 x9 : Option MV), NI A0 A s r d c g tn sg k j st C G q → k + 8 * xs.length ≤ 900000 → j + xs.length ≤ 800 → ∃ A' st' C' G' q' y5 y6 y7 y8 y9, runL (turn [5] gNm nbody) xs [some (.ref s), some (.ref d), some (.ref m), some (.ref q), some (stV st), x5, x6, x7, x8, x9] A = .nx [some (.ref s), some (.ref d), some (.ref m), some (.ref q'), some (stV st'), y5, y6, y7, y8, y9] A' ∧ NI A0 A' s r d c g tn sg (k + 8 * xs.length) (j + xs.length) st' C' G' q'
  | [], A, k, j, st, C, G, q, x5, x6, x7, x8, x9, I, _, _ => ⟨A, st, C, G, q, x5, x6, x7, x8, x9, rfl, I⟩
  | x :: xs, A, k, j, st, C, G, q, x5, x6, x7, x8, x9, I, hk, hj => by
    rw [List.length_cons] at hk hj
    obtain ⟨A1, st1, C1, G1, q1, y6, y7, y8, y9, e1, I1⟩ := nstep W I (by omega) (by omega) (some x) x6 x7 x8 x9
    obtain ⟨A2, st2, C2, G2, q2, z5, z6, z7, z8, z9, e2, I2⟩ := nloop W xs A1 (k + 8) (j + 1) st1 C1 G1 q1 (some x) y6 y7 y8 y9 I1 (by omega) (by omega)
    refine ⟨A2, st2, C2, G2, q2, z5, z6, z7, z8, z9, ?_, ?_⟩
    · unfold runL
      have e : turn [5] gNm nbody x [some (.ref s), some (.ref d), some (.ref m), some (.ref q), some (stV st), x5, x6, x7, x8, x9] A = nbody [some (.ref s), some (.ref d), some (.ref m), some (.ref q), some (stV st), some x, x6, x7, x8, x9] A := rfl
      rw [e, e1]
      exact e2
    · rw [List.length_cons, show k + 8 * (xs.length + 1) = k + 8 + 8 * xs.length by omega, show j + (xs.length + 1) = j + 1 + xs.length by omega]
      exact I2
theorem noted_law (W : NW A0 s r e t l d c g m mt ml T sp L es T' sp' L') (S : Src A0 s k) (E : EditAt A0 d r c g tn sg none true [] []) (hk : k ≤ 800000) : ∃ A' st' C' G' q', F__law_noted [.ref s, .ref d, .ref m] A0 = .ok (.tup [.ref q', stV st']) A' ∧ NI A0 A' s r d c g tn sg (k + 41) 5 st' C' G' q' := by
  obtain ⟨p1, p2, p3, p4, p5, p6⟩ := W.pw
  have sl := W.sl
  have f1 : Fr (fun _ => False) A0 (A0 ++ [MO.lst []]) := Fr.app
  have S1 : Src (A0 ++ [MO.lst []]) s k := by
    obtain ⟨a, b, c, h, r⟩ := S
    exact ⟨a, b, c, app_at h, r⟩
  obtain ⟨w, o1, e1, w0, w1, S2⟩ := draw_ok (k := 5) S1 (by omega) (by omega) (by omega)
  have f2 : Fr (fun n => n = s) (A0 ++ [MO.lst []]) ((A0 ++ [MO.lst []]).set s o1) := Fr.set rfl
  have E2 := (E.fr f1 id id id).fr f2 (by omega) (by omega) (by omega)
  have F2 : Fr (Sx s d c g) A0 ((A0 ++ [MO.lst []]).set s o1) := (f1.mono fun n z => z.elim).trans (f2.mono fun n e => .inl e)
  have q2 : ((A0 ++ [MO.lst []]).set s o1)[A0.length]? = some (.lst []) := f2.same _ _ (by omega) new_at
  have I0 : NI A0 ((A0 ++ [MO.lst []]).set s o1) s r d c g tn sg (k + 1) 0 none [] [] A0.length := ⟨F2, S2, E2, q2, Nat.le_refl _, Nat.le_refl _, ⟨List.nodup_nil, fun p hp => nomatch hp⟩, fun p e => nomatch e⟩
  have rl : (rangeM 0 w).length ≤ 5 := by unfold rangeM; rw [List.length_map, List.length_range]; omega
  obtain ⟨A', st', C', G', q', y5, y6, y7, y8, y9, e3, I3⟩ := nloop W (rangeM 0 w) _ (k + 1) 0 none [] [] A0.length none none none none none I0 (by omega) (by omega)
  refine ⟨A', st', C', G', q', ?_, I3.f, ?_, I3.E, I3.qa, I3.ql, by have := I3.gl; omega, I3.tC, I3.tst⟩
  · have r0 : -1000000 ≤ w ∧ w ≤ 1000000 := by omega
    rw [noted_split]
    simp only [defM, sSeq, sIf, sSet, sRet, sRetN, sExpr, sNext, sFld_def, sSub, sRaise, eVar, eC, eBin, eUn, tB', eB, bNot, bAnd, bOr, bIf, eIf, eAnd, eOr, eNot, aNil, aCons, eTup, aLst, eFrz, eRef, pN, pA, pK, pAK, eCall, eMeth_def, eFld_def, eMake_def, bind_ok, bind_err, bind_bad, fs_ok, fs_err, fs_bad, List.map_cons, List.map_nil, List.length_cons, List.length_nil, List.replicate, List.cons_append, List.nil_append, List.getElem?_cons_zero, List.getElem?_cons_succ, List.set_cons_zero, List.set_cons_succ, sz0, sz1, sz2, sz3, sz4, sz5, if_true, and_self, Nat.reduceSub, Nat.reduceAdd, Nat.reduceLeDiff, List.lookup_cons, List.lookup_nil, sPar, sFor, Mv.iRng1, e1, if_pos r0]
    rw [show (some (MV.non)) = some (stV none) from rfl, e3]
    simp only [defM, sSeq, sIf, sSet, sRet, sRetN, sExpr, sNext, sFld_def, sSub, sRaise, eVar, eC, eBin, eUn, tB', eB, bNot, bAnd, bOr, bIf, eIf, eAnd, eOr, eNot, aNil, aCons, eTup, aLst, eFrz, eRef, pN, pA, pK, pAK, eCall, eMeth_def, eFld_def, eMake_def, bind_ok, bind_err, bind_bad, fs_ok, fs_err, fs_bad, List.map_cons, List.map_nil, List.length_cons, List.length_nil, List.replicate, List.cons_append, List.nil_append, List.getElem?_cons_zero, List.getElem?_cons_succ, List.set_cons_zero, List.set_cons_succ, sz0, sz1, sz2, sz3, sz4, sz5, if_true, and_self, Nat.reduceSub, Nat.reduceAdd, Nat.reduceLeDiff, List.lookup_cons, List.lookup_nil]
  · obtain ⟨a, b, c, h, h1, h2, h3, h4⟩ := I3.S
    exact ⟨a, b, c, h, h1, h2, h3, by omega⟩
end
end Rp
/-! RpI: _law_edited -/
namespace Rp
open PySem PySem.Spec PyProof.Rows Mv Rf
section
variable {T T' V V' : Tb Str} {s : Sg} {sp : Str × Str}
theorem stale_congr (h : ∀ k, get T k = get T' k) : ∀ C : Tb Cl2, staleOf T C = staleOf T' C
  | [] => rfl
  | (k, p) :: C => by
    unfold staleOf isSt
    rw [h, stale_congr h C]
theorem appl_get : ∀ {C : Tb Cl2} {T T' : Tb Str}, (∀ k, get T k = get T' k) → ∀ k, get (appl T C) k = get (appl T' C) k
  | [], T, T', h => h
  | (j, p) :: C, T, T', h => appl_get (C := C) fun k => by
    unfold appl1
    cases p.1 with
    | none => dsimp only; rw [get_drop, get_drop, h]
    | some v => dsimp only; rw [get_put, get_put, get_drop, get_drop, h]
theorem notes_congr (h : ∀ k, get T k = get T' k) (h' : ∀ k, get V k = get V' k) : ∀ (ks : List Str) (L : Tb (List Ent)), notes T V s ks L = notes T' V' s ks L
  | [], L => rfl
  | k :: ks, L => by
    unfold notes
    rw [h, h', notes_congr h h' ks]
theorem mvs_congr (h : ∀ k, get T k = get T' k) (h' : ∀ k, get V k = get V' k) (C : Tb Cl2) : mvs T V C = mvs T' V' C := by
  unfold mvs
  apply List.filter_congr
  intro k _
  rw [h, h']
theorem hd_congr (h : ∀ k, get T k = get T' k) : hd T sp = hd T' sp := by unfold hd; rw [h]
theorem keys_congr (h : ∀ k, get T k = get T' k) : ∀ k, k ∈ keys T ↔ k ∈ keys T' := keys_of_get fun k => by rw [h]
theorem logs_same {L L' : Tb (List Ent)} {C : Tb Cl2} {st : Option (Str × Str)} (h : ∀ k, get T k = get T' k) (hl : ∀ k, lg L k = lg L' k) (nd : (keys L).Nodup) : ∀ k, lg (logsB T sp L s st C) k = lg (modL T' sp L' s st C) k := by
  have hv : ∀ k, get (appl T C) k = get (appl T' C) k := appl_get h
  have h1 : ∀ k, lg (notes T (appl T C) s (mvs T (appl T C) C) (srtL L)) k = lg (notes T' (appl T' C) s (mvs T' (appl T' C) C) L') k := by
    rw [mvs_congr h hv, notes_congr h hv]
    exact lg_notes fun k => by rw [lg_srtL nd, hl]
  intro k
  unfold logsB modL logs2
  rw [hd_congr h, hd_congr hv]
  split
  · rw [lg_note, lg_note, h1, h1]
  · exact h1 k
end
structure WD (A : AH) (s r e m k n j t l mt ml : Nat) (T : Tb Str) (sp : Str × Str) (L : Tb (List Ent)) (es : List MV) (T' : Tb Str) (L' : Tb (List Ent)) : Prop where
  S : Src A s k
  R : RefsAt A r e t l T sp L es
  cl : Closed A es
  M : ModAt A m mt ml T' sp L'
  tT : TabOk T
  tT' : TabOk T'
  tL : LogOk L n
  tL' : LogOk L' n
  tsp : SpOk sp
  ap : pfx (keys T) = false
  sm : Same T T' L L'
  el : es.length ≤ j
  lt : l ≠ t
  se : s ≠ e
  mtt : mt ≠ t
  mtl : mt ≠ l
  mtm : mt ≠ ml
section
variable {A : AH} {s r e m k n j t l mt ml : Nat} {T T' : Tb Str} {sp : Str × Str} {L L' : Tb (List Ent)} {es : List MV}
theorem WD.stands (h : WD A s r e m k n j t l mt ml T sp L es T' L') : F__law_stands [.ref r, .ref m] A = .ok (.bl true) A := stands_ok h.R h.M h.tT h.tT' h.tL h.tL' h.sm h.mtt h.mtl h.mtm
theorem closed_more {es : List MV} {d : Nat} {fs : List (Str × MV)} (h : Closed A es) (e : A[d]? = some (.ins "Edit" fs)) (o : isOpen fs = some (.bl false)) : Closed A (es ++ [MV.ref d]) := fun v hv => by
  rcases List.mem_append.mp hv with hv | hv
  · exact h v hv
  · rw [List.mem_singleton] at hv
    exact ⟨d, fs, hv, e, o⟩
theorem src_ne {o : MO} {x : Nat} (S : Src A s k) (h : A[x]? = some o) (hn : ∀ xs, o ≠ .lst xs) : s ≠ x := by
  obtain ⟨a, b, c, q, _⟩ := S
  exact at_ne q h fun z => hn _ z.symm
theorem Src.fr {A' : AH} {P : Nat → Prop} (S : Src A s k) (f : Fr P A A') (h : ¬ P s) : Src A' s k := by
  obtain ⟨a, b, c, q, r⟩ := S
  exact ⟨a, b, c, f.same _ _ h q, r⟩
theorem Src.up {k' : Nat} (S : Src A s k) (h : k ≤ k') : Src A s k' := by
  obtain ⟨a, b, c, q, h1, h2, h3, h4⟩ := S
  exact ⟨a, b, c, q, h1, h2, h3, by omega⟩
theorem edited_ok (h : WD A s r e m k n j t l mt ml T sp L es T' L') (hk : k ≤ 700000) (hn : n + 20 ≤ 900) (hj : j ≤ 800) : ∃ A' m' t' l' mt' ml' T2 sp2 L2 es2 T2' L2', F__law_edited [.ref s, .ref r, .ref m] A = .ok (.ref m') A' ∧ WD A' s r e m' (k + 50) (n + 15) (j + 1) t' l' mt' ml' T2 sp2 L2 es2 T2' L2' := by
  have sr : s ≠ r := src_ne h.S h.R.r (by intro xs z; cases z)
  have st_ : s ≠ t := src_ne h.S h.R.t (by intro xs z; cases z)
  have sl_ : s ≠ l := src_ne h.S h.R.l (by intro xs z; cases z)
  have sm_ : s ≠ m := src_ne h.S h.M.m (by intro xs z; cases z)
  have smt : s ≠ mt := src_ne h.S h.M.t (by intro xs z; cases z)
  have sml : s ≠ ml := src_ne h.S h.M.l (by intro xs z; cases z)
  have se := h.se
  have rl := at_lt h.R.r
  have el := at_lt h.R.e
  have tl := at_lt h.R.t
  have ll := at_lt h.R.l
  have ml1 := at_lt h.M.m
  have ml2 := at_lt h.M.t
  have ml3 := at_lt h.M.l
  have sl : s < A.length := by obtain ⟨a, b, c, q, _⟩ := h.S; exact at_lt q
  -- who, when, what
  obtain ⟨v1, o1, hv1, e1, S1⟩ := pick_ok (xs := [.str "ann", .str "b-1"]) h.S (by omega) (by decide) (by decide)
  obtain ⟨tm, o2, e2, t0, t1, S2⟩ := draw_ok (k := 100) S1 (by omega) (by omega) (by omega)
  rw [List.set_set] at e2 S2
  obtain ⟨v3, o3, hv3, e3, S3⟩ := pick_ok (xs := [.str "", .str "note 1"]) S2 (by omega) (by decide) (by decide)
  rw [List.set_set] at e3 S3
  obtain ⟨w, rfl, hw⟩ : ∃ w, v1 = .str w ∧ w ∈ whos := by
    simp only [List.mem_cons, List.not_mem_nil, or_false] at hv1
    rcases hv1 with z | z
    · exact ⟨_, z, by decide⟩
    · exact ⟨_, z, by decide⟩
  obtain ⟨x, rfl, hx⟩ : ∃ x, v3 = .str x ∧ x ∈ msgs := by
    simp only [List.mem_cons, List.not_mem_nil, or_false] at hv3
    rcases hv3 with z | z
    · exact ⟨_, z, by decide⟩
    · exact ⟨_, z, by decide⟩
  have hs : SgOk ⟨w, tm, x⟩ := ⟨hw, t0, by show tm ≤ 1000; omega, hx⟩
  have f3 : Fr (fun n => n = s) A (A.set s o3) := Fr.set rfl
  have l3 : (A.set s o3).length = A.length := List.length_set ..
  have R3 := h.R.fr f3 (Ne.symm sr) (Ne.symm se) (Ne.symm st_) (Ne.symm sl_)
  have M3 := h.M.fr f3 (Ne.symm sm_) (Ne.symm smt) (Ne.symm sml)
  have nS : ∀ n fs, n = s → A[n]? = some (.ins "Edit" fs) → isOpen fs = some (.bl false) → False := fun n fs z q _ => by
    subst z
    obtain ⟨a, b, c, q', _⟩ := h.S
    rw [q] at q'
    cases q'
  have cl3 := h.cl.fr f3 nS
  generalize hA3 : A.set s o3 = A3 at *
  have hel := h.el
  obtain ⟨A4, ed, R4, E4, f4, l4⟩ := edit_ok R3 (by omega) hw t0 (by show tm ≤ 1000; omega) hx
  have me : mthB "Refs" "edit" (.ref r) A3 = true := mth_at R3.r rfl
  have S4 := S3.fr f4 se
  have cl4 := cl3.fr f4 fun n fs z q _ => by rw [z, R3.e] at q; cases q
  have hme : e ≠ m := at_ne R3.e M3.m (by intro z; cases z)
  have hmte : e ≠ mt := at_ne R3.e M3.t (by intro z; cases z)
  have hmle : e ≠ ml := at_ne R3.e M3.l (by intro z; cases z)
  have M4 := M3.fr f4 (Ne.symm hme) (Ne.symm hmte) (Ne.symm hmle)
  have E4' : EditAt A4 A3.length r (A3.length + 1) (A3.length + 2) (es.length + 1) (Sg.v ⟨w, tm, x⟩) none true [] [] := E4
  have W : NW A4 s r e t l A3.length (A3.length + 1) (A3.length + 2) m mt ml T sp L es T' sp L' := ⟨R4, cl4, M4, by omega, h.tT', by omega, by omega, by omega, by omega, by omega, fun y hy => by
      simp only [List.mem_cons, List.not_mem_nil, or_false] at hy
      unfold Sx
      rcases hy with z | z | z | z | z | z | z <;> omega, fun y fs hy q o => by
      rcases hy with z | z | z | z
      · subst z
        obtain ⟨a, b, c, q', _⟩ := S4
        rw [q] at q'
        cases q'
      · subst z
        rw [E4.d] at q
        cases q
        cases o
      · subst z
        rw [E4.c] at q
        cases q
      · subst z
        rw [E4.g] at q
        cases q⟩
  obtain ⟨A5, st, C, G, q, nt, I⟩ := noted_law W S4 E4' (by omega)
  obtain ⟨R5, cl5, M5⟩ := W.at I.f
  have F5l := I.f.len
  -- to drop or not
  obtain ⟨w6, o6, e6, w60, w61, S6⟩ := draw_ok (k := 6) I.S (by omega) (by omega) (by omega)
  have f6 : Fr (fun n => n = s) A5 (A5.set s o6) := Fr.set rfl
  have l6 : (A5.set s o6).length = A5.length := List.length_set ..
  have E6 := I.E.fr f6 (by omega) (by omega) (by omega)
  have R6 := R5.fr f6 (Ne.symm sr) (Ne.symm se) (Ne.symm st_) (Ne.symm sl_)
  have M6 := M5.fr f6 (Ne.symm sm_) (Ne.symm smt) (Ne.symm sml)
  have cl6 := cl5.fr f6 fun n fs z q _ => by
    subst z
    obtain ⟨a, b, c, q', _⟩ := I.S
    rw [q] at q'
    cases q'
  have q6 := f6.same _ _ (by have := I.ql; omega) I.qa
  generalize hA6 : A5.set s o6 = A6 at *
  have i0 : ∀ B : AH, ixM (sgV w tm x) (.int 0) B = .ok (.str w) B := fun B => ix_tup rfl
  have i1 : ∀ B : AH, ixM (sgV w tm x) (.int 1) B = .ok (.int tm) B := fun B => ix_tup rfl
  have i2 : ∀ B : AH, ixM (sgV w tm x) (.int 2) B = .ok (.str x) B := fun B => ix_tup rfl
  have nt' : F__law_noted [.ref s, .ref A3.length, .ref m] A4 = .ok (.tup [.ref q, stV st]) A5 := nt
  have ql := I.ql
  have hel2 : (es ++ [MV.ref A3.length]).length ≤ j + 1 := by rw [List.length_append]; show _ + 1 ≤ _; omega
  -- when the edit is dropped, all stands as before
  have dropped : ∀ (B : AH) (k' : Nat), Fr (fun _ => False) A6 B → k' ≤ k + 50 → Src B s k' → WD (shut B A3.length r (A3.length + 1) (A3.length + 2) (es.length + 1) (Sg.v ⟨w, tm, x⟩) st) s r e m (k + 50) (n + 15) (j + 1) t l mt ml T sp L (es ++ [MV.ref A3.length]) T' L' := fun B k' f hk' S => by
    have fd : Fr (fun n => n = A3.length) B (shut B A3.length r (A3.length + 1) (A3.length + 2) (es.length + 1) (Sg.v ⟨w, tm, x⟩) st) := Fr.set rfl
    have RB := (R6.fr f id id id id).fr fd (by omega) (by omega) (by omega) (by omega)
    have MB := (M6.fr f id id id).fr fd (by omega) (by omega) (by omega)
    have EB := E6.fr f id id id
    have dB : (shut B A3.length r (A3.length + 1) (A3.length + 2) (es.length + 1) (Sg.v ⟨w, tm, x⟩) st)[A3.length]? = _ := set_at EB.d
    have cB := (cl6.fr f fun _ _ z => z.elim).fr fd fun y fs z q o => by
      subst z
      rw [EB.d] at q
      cases q
      cases o
    exact ⟨(S.fr fd (by omega)).up hk', RB, closed_more cB dB rfl, MB, h.tT, h.tT', h.tL.up (by omega), h.tL'.up (by omega), h.tsp, h.ap, h.sm, hel2, h.lt, h.se, h.mtt, h.mtl, h.mtm⟩
  by_cases hw6 : w6 = 0
  · have md : mthB "Edit" "drop" (.ref A3.length) A6 = true := mth_at E6.d rfl
    refine ⟨_, m, t, l, mt, ml, T, sp, L, _, T', L', ?_, dropped A6 _ Fr.refl (show k + 1 + 1 + 1 + 41 + 1 ≤ k + 50 by omega) S6⟩
    unfold F__law_edited b__law_edited
    simp only [defM, sSeq, sIf, sSet, sRet, sRetN, sExpr, sNext, sFld_def, sSub, sRaise, eVar, eC, eBin, eUn, tB', eB, bNot, bAnd, bOr, bIf, eIf, eAnd, eOr, eNot, aNil, aCons, eTup, aLst, eFrz, eRef, pN, pA, pK, pAK, eCall, eMeth_def, eFld_def, eMake_def, bind_ok, bind_err, bind_bad, fs_ok, fs_err, fs_bad, List.map_cons, List.map_nil, List.length_cons, List.length_nil, List.replicate, List.cons_append, List.nil_append, List.getElem?_cons_zero, List.getElem?_cons_succ, List.set_cons_zero, List.set_cons_succ, sz0, sz1, sz2, sz3, sz4, sz5, if_true, and_self, Nat.reduceSub, Nat.reduceAdd, Nat.reduceLeDiff, List.lookup_cons, List.lookup_nil, e1, e2, e3, show MV.tup [.str w, .int tm, .str x] = sgV w tm x from rfl, i0, i1, i2, me, ed, sAsg, nt', gTupM, tupOf, gConsM, gNm, gNilM, setAllM, e6, eq_int, decide_eq_true hw6, md, drop_ok E6]
  · -- the law's model, and the edit
    have hB : LB A6 m mt ml q T' sp L' n ⟨w, tm, x⟩ st C := ⟨M6, q6, h.tT', h.tL', h.tsp, I.tst, I.tC, hs⟩
    obtain ⟨A7, f7, lb, M7⟩ := law_behind_ok hB hn
    have lb' : F__law_behind [.ref m, .ref q, stV st, sgV w tm x] A6 = _ := lb
    have E7 := E6.fr f7 id id id
    have R7 := R6.fr f7 id id id id
    have cl7 := cl6.fr f7 fun _ _ z => z.elim
    have S7 := S6.fr f7 id
    have rd : Rdy A7 r e t l A3.length (A3.length + 1) (A3.length + 2) T sp L n (es ++ [MV.ref A3.length]) (es.length + 1) ⟨w, tm, x⟩ st C G := ⟨R7, E7, by omega, by omega, h.lt, h.tT, h.tL, h.tsp, I.tst, h.ap, I.tC, hs⟩
    have F6l := f7.len
    have sEq := stale_congr h.sm.t C
    have kEq : pfx (keys (appl T C)) = pfx (keys (appl T' C)) := pfx_eq (keys_congr (appl_get h.sm.t))
    have go : ∀ {due told v : MV} {B : AH}, True := trivial
    cases hst : staleOf T' C with
    | some y =>
      rw [hst] at lb'
      dsimp only at lb'
      have ck : checkR A7 T C = .err "Stale" (mk_Stale (.str y)) (A7 ++ [.dct (tabV T)]) := by
        unfold checkR
        rw [sEq, hst]
      have fi := finished_stale E7 (finish_err rd ck)
      have f8 : Fr (fun _ => False) A7 (A7 ++ [MO.dct (tabV T)]) := Fr.app
      have E8 := E7.fr f8 id id id
      generalize hA8 : A7 ++ [MO.dct (tabV T)] = A8 at *
      have md : mthB "Edit" "drop" (.ref A3.length) A8 = true := mth_at E8.d rfl
      have ty : isiM [.tup [.str "stale", .str y], .ty "tuple"] A8 = .ok (.bl true) A8 := rfl
      refine ⟨_, m, t, l, mt, ml, T, sp, L, _, T', L', ?_, dropped A8 _ (f7.trans f8) (show k + 1 + 1 + 1 + 41 + 1 ≤ k + 50 by omega) (S7.fr f8 id)⟩
      have es : ∀ {B : AH}, eqM (.tup [.str "stale", .str y]) (.tup [.str "stale", .str y]) B = .ok (.bl true) B := eq_self (good_strs ["stale", y])
      unfold F__law_edited b__law_edited
      simp only [defM, sSeq, sIf, sSet, sRet, sRetN, sExpr, sNext, sFld_def, sSub, sRaise, eVar, eC, eBin, eUn, tB', eB, bNot, bAnd, bOr, bIf, eIf, eAnd, eOr, eNot, aNil, aCons, eTup, aLst, eFrz, eRef, pN, pA, pK, pAK, eCall, eMeth_def, eFld_def, eMake_def, bind_ok, bind_err, bind_bad, fs_ok, fs_err, fs_bad, List.map_cons, List.map_nil, List.length_cons, List.length_nil, List.replicate, List.cons_append, List.nil_append, List.getElem?_cons_zero, List.getElem?_cons_succ, List.set_cons_zero, List.set_cons_succ, sz0, sz1, sz2, sz3, sz4, sz5, if_true, and_self, Nat.reduceSub, Nat.reduceAdd, Nat.reduceLeDiff, List.lookup_cons, List.lookup_nil, e1, e2, e3, show MV.tup [.str w, .int tm, .str x] = sgV w tm x from rfl, i0, i1, i2, me, ed, sAsg, nt', gTupM, tupOf, gConsM, gNm, gNilM, setAllM, e6, eq_int, decide_eq_false hw6, sPar, lb', fi, ty, md, drop_ok E8, es]
    | none =>
      rw [hst] at lb'
      dsimp only at lb'
      cases hp : pfx (keys (appl T' C)) with
      | true =>
        rw [hp, if_pos rfl] at lb'
        have ck : checkR A7 T C = .err "BadRef" (mk_BadRef (.str "one reference is a prefix of another")) (A7 ++ [.dct (tabV (appl T C))]) := by
          unfold checkR
          rw [sEq, hst]
          dsimp only
          rw [kEq, hp, if_pos rfl]
        have fi := finished_bad E7 (finish_err rd ck)
        have f8 : Fr (fun _ => False) A7 (A7 ++ [MO.dct (tabV (appl T C))]) := Fr.app
        have E8 := E7.fr f8 id id id
        generalize hA8 : A7 ++ [MO.dct (tabV (appl T C))] = A8 at *
        have md : mthB "Edit" "drop" (.ref A3.length) A8 = true := mth_at E8.d rfl
        have ty : isiM [.tup [.str "ref", .non], .ty "tuple"] A8 = .ok (.bl true) A8 := rfl
        refine ⟨_, m, t, l, mt, ml, T, sp, L, _, T', L', ?_, dropped A8 _ (f7.trans f8) (show k + 1 + 1 + 1 + 41 + 1 ≤ k + 50 by omega) (S7.fr f8 id)⟩
        have es : ∀ {B : AH}, eqM (.tup [.str "ref", .non]) (.tup [.str "ref", .non]) B = .ok (.bl true) B := eq_self (by decide)
        unfold F__law_edited b__law_edited
        simp only [defM, sSeq, sIf, sSet, sRet, sRetN, sExpr, sNext, sFld_def, sSub, sRaise, eVar, eC, eBin, eUn, tB', eB, bNot, bAnd, bOr, bIf, eIf, eAnd, eOr, eNot, aNil, aCons, eTup, aLst, eFrz, eRef, pN, pA, pK, pAK, eCall, eMeth_def, eFld_def, eMake_def, bind_ok, bind_err, bind_bad, fs_ok, fs_err, fs_bad, List.map_cons, List.map_nil, List.length_cons, List.length_nil, List.replicate, List.cons_append, List.nil_append, List.getElem?_cons_zero, List.getElem?_cons_succ, List.set_cons_zero, List.set_cons_succ, sz0, sz1, sz2, sz3, sz4, sz5, if_true, and_self, Nat.reduceSub, Nat.reduceAdd, Nat.reduceLeDiff, List.lookup_cons, List.lookup_nil, e1, e2, e3, show MV.tup [.str w, .int tm, .str x] = sgV w tm x from rfl, i0, i1, i2, me, ed, sAsg, nt', gTupM, tupOf, gConsM, gNm, gNilM, setAllM, e6, eq_int, decide_eq_false hw6, sPar, lb', fi, ty, md, drop_ok E8, es]
      | false =>
        rw [hp, if_neg Bool.false_ne_true] at lb'
        have ok' : OkC T' C := ⟨hst, hp⟩
        have ok : OkC T C := ⟨sEq.trans hst, kEq.trans hp⟩
        have M8 := M7 ok'
        obtain ⟨t2, l2, A8, fin, R8, n1, n2, n3, f8, d8⟩ := finish_ok rd hn ok
        have fi := finished_ok E7 fin
        have M9 := M8.fr f8 (by omega) (by omega) (by omega)
        have ml8 := at_lt M8.m
        have ty : isiM [.ref (A6.length + 2), .ty "tuple"] A8 = .ok (.bl false) A8 := by
          unfold isiM tyN
          dsimp only
          rw [M9.m]
          rfl
        have V' := appl_ok h.tT' I.tC.all
        have V := appl_ok h.tT I.tC.all
        have LBk := logsB_ok rd
        have mLok : LogOk (modL T' sp L' ⟨w, tm, x⟩ st C) (n + 15) := by
          have h1 := notes_ok (V := appl T' C) h.tT' V' hs (ks := mvs T' (appl T' C) C) (fun k hk => I.tC.key (mem_skeys.mp (List.mem_filter.mp hk).1)) h.tL'
          have hl := mvs_len (T := T') (V := appl T' C) I.tC
          unfold modL logs2
          split
          · exact (note1_ok h1 (.inr rfl) (ent_ok hs (fun x e => hd_val h.tT' h.tsp e) fun x e => hd_val V' (sp2_ok rd) e)).up (by omega)
          · exact h1.up (by omega)
        have cl8 := cl7.fr f8 fun y fs z q o => by
          rcases z with z | z
          · subst z; rw [R7.r] at q; cases q
          · subst z; rw [E7.d] at q; cases q; cases o
        refine ⟨A8, A6.length + 2, t2, l2, A6.length, A6.length + 1, _, _, _, _, _, _, ?_, ⟨(S7.fr f8 (by omega)).up (show k + 1 + 1 + 1 + 41 + 1 ≤ k + 50 by omega), R8, closed_more cl8 d8 rfl, M9, srt_ok V, V', srtL_ok LBk, mLok, sp2_ok rd, ?_, ⟨?_, ?_⟩, hel2, n1, se, by omega, by omega, by omega⟩⟩
        · unfold F__law_edited b__law_edited
          simp only [defM, sSeq, sIf, sSet, sRet, sRetN, sExpr, sNext, sFld_def, sSub, sRaise, eVar, eC, eBin, eUn, tB', eB, bNot, bAnd, bOr, bIf, eIf, eAnd, eOr, eNot, aNil, aCons, eTup, aLst, eFrz, eRef, pN, pA, pK, pAK, eCall, eMeth_def, eFld_def, eMake_def, bind_ok, bind_err, bind_bad, fs_ok, fs_err, fs_bad, List.map_cons, List.map_nil, List.length_cons, List.length_nil, List.replicate, List.cons_append, List.nil_append, List.getElem?_cons_zero, List.getElem?_cons_succ, List.set_cons_zero, List.set_cons_succ, sz0, sz1, sz2, sz3, sz4, sz5, if_true, and_self, Nat.reduceSub, Nat.reduceAdd, Nat.reduceLeDiff, List.lookup_cons, List.lookup_nil, e1, e2, e3, show MV.tup [.str w, .int tm, .str x] = sgV w tm x from rfl, i0, i1, i2, me, ed, sAsg, nt', gTupM, tupOf, gConsM, gNm, gNilM, setAllM, e6, eq_int, decide_eq_false hw6, sPar, lb', fi, ty, isNo]
        · rw [keys_srt, ← ok.p]
          exact pfx_eq fun k => mem_skeys
        · intro k
          rw [get_srt]
          exact appl_get h.sm.t k
        · intro k
          rw [lg_srtL LBk.nd]
          exact logs_same h.sm.t h.sm.l h.tL.nd k
end
end Rp
/-! RpJ: the law -/
namespace Rp
open PySem PySem.Spec PyProof.Rows Mv Rf
def tbody : FS := (sSeq (sSet 4 (eCall 3 0 (fun ms _ => ms) F__law_edited (pA (aCons (eVar 2) (aCons (eVar 3) (aCons (eVar 4) aNil)))))) (sIf (bOr (tB' (eBin isNM (eVar 4) (eC .non))) (bNot (tB' (eCall 2 0 (fun ms _ => ms) F__law_stands (pA (aCons (eVar 3) (aCons (eVar 4) aNil))))))) (sRet (eC (.bl false))) sNext))
def cbody : FS := sSeq (sSet 2 (eCall 1 0 (fun ms _ => ms) F__law_source (pA (aCons (eVar 1) aNil)))) (sSeq (sPar 3 4 (aCons (eMake "Refs" 0 0 (fun ms _ => ms ++ [.non]) F_Refs___init__ pN) (aCons (eCall 0 0 (fun ms _ => ms) F__law_new pN) aNil))) (sSeq (sIf (bNot (tB' (eCall 2 0 (fun ms _ => ms) F__law_stands (pA (aCons (eVar 3) (aCons (eVar 4) aNil)))))) (sRet (eC (.bl false))) sNext) (sFor (Mv.iRng1 (aCons (eBin addM (eC (.int 1)) (eCall 2 0 (fun ms _ => ms) F__law_draw (pA (aCons (eVar 2) (aCons (eC (.int 12)) aNil))))) aNil)) [5] gNm tbody)))
theorem law_split : F_law = defM 6 (sSeq (sFor (iFrz (eFrz (aCat (eFrz (aLst (aCons (eCall 2 0 (fun ms _ => ms) F__law_cell_at (pA (aCons (eVar 0) (aCons (eC (.int 0)) aNil)))) aNil))) (eFrz (aSl (eVar 0) (oSome (eC (.int 1))) (oSome (eC (.int 4)))))))) [1] gNm cbody) (sRet (eC (.bl true)))) := rfl
theorem isNr {n : Nat} {A : AH} : isNM (.ref n) .non A = .ok (.bl false) A := rfl
theorem turns {s r e : Nat} {x0 x1 : Option MV} : ∀ (xs : List MV) (A : AH) (m k n j t l mt ml : Nat) (T : Tb Str) (sp : Str × Str) (L : Tb (List Ent)) (es : List MV) (T' : Tb Str) (L' : Tb (List Ent)) (x5 : Option MV), WD A s r e m k n j t l mt ml T sp L es T' L' → k + 50 * xs.length ≤ 700000 → n + 15 * xs.length + 20 ≤ 900 → j + xs.length ≤ 800 → ∃ A' m' y5, runL (turn [5] gNm tbody) xs [x0, x1, some (.ref s), some (.ref r), some (.ref m), x5] A = .nx [x0, x1, some (.ref s), some (.ref r), some (.ref m'), y5] A'
  | [], A, m, k, n, j, t, l, mt, ml, T, sp, L, es, T', L', x5, _, _, _, _ => ⟨A, m, x5, rfl⟩
  | x :: xs, A, m, k, n, j, t, l, mt, ml, T, sp, L, es, T', L', x5, h, hk, hn, hj => by
    rw [List.length_cons] at hk hn hj
    obtain ⟨A1, m1, t1, l1, mt1, ml1, T1, sp1, L1, es1, T1', L1', e1, h1⟩ := edited_ok h (by omega) (by omega) (by omega)
    obtain ⟨A2, m2, y5, e2⟩ := turns (x0 := x0) (x1 := x1) xs A1 m1 _ _ _ _ _ _ _ _ _ _ _ _ _ (some x) h1 (by omega) (by omega) (by omega)
    refine ⟨A2, m2, y5, ?_⟩
    have e : turn [5] gNm tbody x [x0, x1, some (.ref s), some (.ref r), some (.ref m), x5] A = tbody [x0, x1, some (.ref s), some (.ref r), some (.ref m), some x] A := rfl
    have b : tbody [x0, x1, some (.ref s), some (.ref r), some (.ref m), some x] A = .nx [x0, x1, some (.ref s), some (.ref r), some (.ref m1), some x] A1 := by
      unfold tbody
      simp only [defM, sSeq, sIf, sSet, sRet, sRetN, sExpr, sNext, sFld_def, sSub, sRaise, eVar, eC, eBin, eUn, tB', eB, bNot, bAnd, bOr, bIf, eIf, eAnd, eOr, eNot, aNil, aCons, eTup, aLst, eFrz, eRef, pN, pA, pK, pAK, eCall, eMeth_def, eFld_def, eMake_def, bind_ok, bind_err, bind_bad, fs_ok, fs_err, fs_bad, List.map_cons, List.map_nil, List.length_cons, List.length_nil, List.replicate, List.cons_append, List.nil_append, List.getElem?_cons_zero, List.getElem?_cons_succ, List.set_cons_zero, List.set_cons_succ, sz0, sz1, sz2, sz3, sz4, sz5, if_true, and_self, Nat.reduceSub, Nat.reduceAdd, Nat.reduceLeDiff, List.lookup_cons, List.lookup_nil, e1, isNr, h1.stands, Bool.not_true]
    unfold runL
    rw [e, b]
    exact e2
theorem cell_ok {A : AH} {c : Int} {x0 x1 x2 x3 x4 x5 : Option MV} : ∃ A' y2 y3 y4 y5, cbody [x0, some (.int c), x2, x3, x4, x5] A = .nx [x0, some (.int c), y2, y3, y4, y5] A' := by
  obtain ⟨o, e1, S1⟩ := source_ok (A := A) (c := c)
  have l1 : (A ++ [o]).length = A.length + 1 := by rw [List.length_append]; rfl
  generalize hA1 : A ++ [o] = A1 at *
  obtain ⟨A2, e2, R2, f2, l2⟩ := new_refs (A := A1)
  have e3 := law_new_ok (A := A2)
  have f3 : Fr (fun _ => False) A2 (A2 ++ [.dct (tabV []), .dct (logV []), .dct (modK A2.length (A2.length + 1) ("ref", "main"))]) := Fr.app
  have M3 : ModAt (A2 ++ [.dct (tabV []), .dct (logV []), .dct (modK A2.length (A2.length + 1) ("ref", "main"))]) (A2.length + 2) A2.length (A2.length + 1) [] ("ref", "main") [] := by
    refine ⟨?_, at_mid, ?_⟩
    · rw [List.getElem?_append_right (by omega), show A2.length + 2 - A2.length = 2 by omega]; rfl
    · rw [List.getElem?_append_right (by omega), show A2.length + 1 - A2.length = 1 by omega]; rfl
  have R3 := R2.fr f3 id id id id
  have S3 := (S1.fr f2 id).fr f3 id
  generalize hA3 : A2 ++ [.dct (tabV []), .dct (logV []), .dct (modK A2.length (A2.length + 1) ("ref", "main"))] = A3 at *
  have W : WD A3 A.length A1.length (A1.length + 1) (A2.length + 2) 0 0 0 (A1.length + 2) (A1.length + 3) A2.length (A2.length + 1) [] ("ref", "main") [] [] [] [] :=
    ⟨S3, R3, (fun v hv => nomatch hv), M3, ⟨List.nodup_nil, (fun p hp => nomatch hp)⟩, ⟨List.nodup_nil, (fun p hp => nomatch hp)⟩, ⟨List.nodup_nil, (fun p hp => nomatch hp)⟩, ⟨List.nodup_nil, (fun p hp => nomatch hp)⟩, .inl ⟨rfl, by decide⟩, rfl, ⟨fun _ => rfl, fun _ => rfl⟩, Nat.le_refl _, by omega, by omega, by omega, by omega, by omega⟩
  obtain ⟨d, o4, e4, d0, d1, S4⟩ := draw_ok (k := 12) S3 (by omega) (by omega) (by omega)
  have f4 : Fr (fun n => n = A.length) A3 (A3.set A.length o4) := Fr.set rfl
  have W4 : WD (A3.set A.length o4) A.length A1.length (A1.length + 1) (A2.length + 2) 1 0 0 (A1.length + 2) (A1.length + 3) A2.length (A2.length + 1) [] ("ref", "main") [] [] [] [] :=
    ⟨S4, R3.fr f4 (by omega) (by omega) (by omega) (by omega), (fun v hv => nomatch hv), M3.fr f4 (by omega) (by omega) (by omega), W.tT, W.tT', W.tL, W.tL', W.tsp, W.ap, W.sm, W.el, W.lt, W.se, W.mtt, W.mtl, W.mtm⟩
  have r0 : -1000000 ≤ 1 + d ∧ 1 + d ≤ 1000000 := by omega
  have rl : (rangeM 0 (1 + d)).length ≤ 12 := by unfold rangeM; rw [List.length_map, List.length_range]; omega
  obtain ⟨A5, m5, y5, e5⟩ := turns (x0 := x0) (x1 := some (.int c)) (rangeM 0 (1 + d)) _ _ _ _ _ _ _ _ _ _ _ _ _ _ _ x5 W4 (by omega) (by omega) (by omega)
  refine ⟨A5, some (.ref A.length), some (.ref A1.length), some (.ref m5), y5, ?_⟩
  unfold cbody
  simp only [defM, sSeq, sIf, sSet, sRet, sRetN, sExpr, sNext, sFld_def, sSub, sRaise, eVar, eC, eBin, eUn, tB', eB, bNot, bAnd, bOr, bIf, eIf, eAnd, eOr, eNot, aNil, aCons, eTup, aLst, eFrz, eRef, pN, pA, pK, pAK, eCall, eMeth_def, eFld_def, eMake_def, bind_ok, bind_err, bind_bad, fs_ok, fs_err, fs_bad, List.map_cons, List.map_nil, List.length_cons, List.length_nil, List.replicate, List.cons_append, List.nil_append, List.getElem?_cons_zero, List.getElem?_cons_succ, List.set_cons_zero, List.set_cons_succ, sz0, sz1, sz2, sz3, sz4, sz5, if_true, and_self, Nat.reduceSub, Nat.reduceAdd, Nat.reduceLeDiff, List.lookup_cons, List.lookup_nil, e1, sPar, e2, e3, W.stands, Bool.not_true, sFor, Mv.iRng1, e4, addM, if_pos r0, e5]
theorem cells_ok {x0 : Option MV} : ∀ (cs : List Int) (A : AH) (x1 x2 x3 x4 x5 : Option MV), ∃ A' y1 y2 y3 y4 y5, runL (turn [1] gNm cbody) (cs.map MV.int) [x0, x1, x2, x3, x4, x5] A = .nx [x0, y1, y2, y3, y4, y5] A'
  | [], A, x1, x2, x3, x4, x5 => ⟨A, x1, x2, x3, x4, x5, rfl⟩
  | c :: cs, A, x1, x2, x3, x4, x5 => by
    obtain ⟨A1, y2, y3, y4, y5, e1⟩ := cell_ok (A := A) (c := c) (x0 := x0) (x1 := x1) (x2 := x2) (x3 := x3) (x4 := x4) (x5 := x5)
    obtain ⟨A2, z1, z2, z3, z4, z5, e2⟩ := cells_ok (x0 := x0) cs A1 (some (.int c)) y2 y3 y4 y5
    refine ⟨A2, z1, z2, z3, z4, z5, ?_⟩
    have e : turn [1] gNm cbody (.int c) [x0, x1, x2, x3, x4, x5] A = cbody [x0, some (.int c), x2, x3, x4, x5] A := rfl
    rw [List.map_cons]
    unfold runL
    rw [e, e1]
    exact e2
theorem cut_map {ns : List Int} {lo hi : Option Int} : cutM (ns.map MV.int) lo hi = (cutM ns lo hi).map MV.int := by
  unfold cutM
  rw [List.length_map, List.map_take, List.map_drop]
theorem cell_at_ok {A : AH} {ns : List Int} : ∃ c : Int, F__law_cell_at [.lst (ns.map MV.int), .int 0] A = .ok (.int c) A := by
  cases ns with
  | nil => exact ⟨0, rfl⟩
  | cons a ns =>
    refine ⟨a, ?_⟩
    have lt : (0 : Int) < ((a :: ns).map MV.int).length := by simp
    have ix : ixM (.lst ((a :: ns).map MV.int)) (.int 0) A = .ok (.int a) A := by
      have : L2.atI ((a :: ns).map MV.int) 0 = some (.int a) := by
        unfold L2.atI L2.ixN
        rw [if_pos (Int.le_refl 0), if_pos lt]
        rfl
      simp only [ixM, dctV, tupOf, lstV, this]
    generalize (a :: ns).map MV.int = X at *
    unfold F__law_cell_at b__law_cell_at
    simp only [defM, sSeq, sIf, sSet, sRet, sRetN, sExpr, sNext, sFld_def, sSub, sRaise, eVar, eC, eBin, eUn, tB', eB, bNot, bAnd, bOr, bIf, eIf, eAnd, eOr, eNot, aNil, aCons, eTup, aLst, eFrz, eRef, pN, pA, pK, pAK, eCall, eMeth_def, eFld_def, eMake_def, bind_ok, bind_err, bind_bad, fs_ok, fs_err, fs_bad, List.map_cons, List.map_nil, List.length_cons, List.length_nil, List.replicate, List.cons_append, List.nil_append, List.getElem?_cons_zero, List.getElem?_cons_succ, List.set_cons_zero, List.set_cons_succ, sz0, sz1, sz2, sz3, sz4, sz5, if_true, and_self, Nat.reduceSub, Nat.reduceAdd, Nat.reduceLeDiff, List.lookup_cons, List.lookup_nil, lenM, tupOf, lstV, ltM, decide_eq_true lt, ix]
theorem law_plain {ns : List Int} (h : ns.length ≤ 63) (A : AH) : ∃ A', F_law [.lst (ns.map MV.int)] A = .ok (.bl true) A' := by
  obtain ⟨c, e1⟩ := cell_at_ok (A := A) (ns := ns)
  have cl : (cutM ns (some 1) (some 4)).length ≤ 63 := by
    unfold cutM
    rw [List.length_take, List.length_drop]
    omega
  obtain ⟨A', y1, y2, y3, y4, y5, e2⟩ := cells_ok (x0 := some (.lst (ns.map MV.int))) (c :: cutM ns (some 1) (some 4)) A none none none none none
  have ct : catL (.lst [.int c]) (.lst ((cutM ns (some 1) (some 4)).map MV.int)) A = .ok ((c :: cutM ns (some 1) (some 4)).map MV.int) A := by
    unfold catL
    dsimp only [lstV]
    rw [if_pos (by rw [List.length_map]; show 1 + _ ≤ _; omega)]
    rfl
  rw [List.map_cons] at e2 ct
  refine ⟨A', ?_⟩
  rw [law_split]
  simp only [defM, sSeq, sIf, sSet, sRet, sRetN, sExpr, sNext, sFld_def, sSub, sRaise, eVar, eC, eBin, eUn, tB', eB, bNot, bAnd, bOr, bIf, eIf, eAnd, eOr, eNot, aNil, aCons, eTup, aLst, eFrz, eRef, pN, pA, pK, pAK, eCall, eMeth_def, eFld_def, eMake_def, bind_ok, bind_err, bind_bad, fs_ok, fs_err, fs_bad, List.map_cons, List.map_nil, List.length_cons, List.length_nil, List.replicate, List.cons_append, List.nil_append, List.getElem?_cons_zero, List.getElem?_cons_succ, List.set_cons_zero, List.set_cons_succ, sz0, sz1, sz2, sz3, sz4, sz5, if_true, and_self, Nat.reduceSub, Nat.reduceAdd, Nat.reduceLeDiff, List.lookup_cons, List.lookup_nil, sFor, iFrz, aCat, e1, aSl, oSome, lstV, cut_map, ct, e2]
end Rp
namespace K31
open PySem PySem.Spec PyProof.Rows L2 Fk Mv Rf
theorem fd_eq {K : PySem.W.Frag} {d : He.DefD} {fd fd' : FuncData} (F : FunD K d.name d.qual d.params d.body d.scope (d.dvs K) (d.kws K) (He.fAd K d.at_) fd) (F' : FunD K d.name d.qual d.params d.body d.scope (d.dvs K) (d.kws K) (He.fAd K d.at_) fd') : fd = fd' := by
  obtain ⟨oc, od, dV, kV, doc, pm, an, cdv, ct, osl, rfl, lk, _⟩ := F.ex
  obtain ⟨oc', od', dV', kV', doc', pm', an', cdv', ct', osl', rfl, lk', _⟩ := F'.ex
  have e := Option.some.inj (lk.symm.trans lk')
  have e2 := congrArg Obj.data e
  injection e2
/-- what may fly out, whatever the world -/
def CXA : CXT := fun o H s E u s' => ∃ w, L2.CX PP w o H s E u s'
theorem weak {P : Program} {w : World} {K : PySem.W.Frag} {mg : Str → Option Value} {base : Heap} {CX CX' : CXT} {k : Nat} {f : Addr} {fd : FuncData} {ps : List Str} {sp : Sp} (F : FnOk P w K mg base CX k f fd ps sp) (h : ∀ o H s E u s', CX o H s E u s' → CX' o H s E u s') : FnOk P w K mg base CX' k f fd ps sp :=
  ⟨F.len, fun A outer s H args us vs Q E hr e0 hb r hs => codeAny_mono (F.run A outer s H args us vs Q E hr e0 hb r hs) fun r s' q => by
    cases r with
    | error e => exact h _ _ _ _ _ _ q
    | ok f => cases f <;> exact q⟩
theorem rvs_ints {K : PySem.W.Frag} {ι : Io} {H : Hp} : ∀ ns : List Int, RVs K ι H (ns.map MV.int) (ns.map V.int)
  | [] => .nil
  | n :: ns => .cons (.int n) (rvs_ints ns)
theorem facts {w : World} {K : PySem.W.Frag} {h : Heap} {mg : Str → Option Value} {f : Addr} (X : K.In h) (G : h.Ns mainGlobals mg) (hfa : mg ("law" : Str) = some (.ref f)) (c : Fk.SaysZ FILE fa fn inis gets exx K) :
    ∃ (fd : FuncData) (sp : Sp), (∀ (s : Shared) (v : Value), BindsTo s fd ⟨[v], []⟩ [("_law_script", v)]) ∧
      (∀ (H : Hp) (a : Addr) (ns : List Int), ns.length ≤ 63 → Only H → SqL K H a (ns.map V.int) → sp [.ref a] H (fun v _ => v = .bl true) fun _ _ _ => False) ∧
      ∀ base : Heap, K.In base → base.Ns mainGlobals mg → FnOk PP w K mg base CXA 15 f fd ["_law_script"] sp := by
  have T : Ctx K mg := ⟨⟨h, X, G⟩, c⟩
  have e := hfa.symm.trans T.g_law
  cases e
  obtain ⟨fd, F⟩ := T.c.def_ 64 (d := d_law) rfl
  have b := FunD.bindsA (ps := ["_law_script"]) F fun _ _ _ _ _ _ us hl => match us, hl with | [_], _ => rfl
  refine ⟨fd, spM K 1 F_law, fun s v => b s [v] rfl, fun H a ns hl _ hS => ?_, fun base _ _ => ?_⟩
  · rcases hS with hS | ⟨o, its, n, lk, oc, _⟩
    · refine ⟨rfl, ⟨[], []⟩, [], [.lst (ns.map MV.int)], ⟨List.nodup_nil, rfl, fun n a o q => (by cases q), fun p q => nomatch q⟩, .cons (.lst ⟨⟨fun q => (by cases q), fun q => (by cases q)⟩, hS⟩ (rvs_ints ns)) .nil, ?_⟩
      obtain ⟨A', q⟩ := Rp.law_plain hl []
      rw [q]
      rintro ι' H' u x ⟨_, r⟩
      cases r
      rfl
    · exact absurd oc (T.noL lk)
  · obtain ⟨fd', O, F'⟩ := (ok_law (w := w) (base := base) T).ex
    rw [fd_eq F F']
    exact weak O fun _ _ _ _ _ _ q => ⟨w, q⟩
end K31
open PySem PySem.W PySem.Calls PyProof.Rows
theorem PySem.Challenge.cw_forkhaul_k31_whole_edits_one_by_one_holds : PySem.Challenge.rw_forkhaul_k31_whole_edits_one_by_one.Holds := by
  w_on; o_law
  refine HandSHeadRun.head_any (r := OpenLaw.row PySem.Challenge.rw_forkhaul_k31_whole_edits_one_by_one) (q := view (OpenLaw.row PySem.Challenge.rw_forkhaul_k31_whole_edits_one_by_one).prog [61]) (H := K31.hk) (ob := K31.ob) (M := 60000) (loose := K31.loose) (d := HandSHeadRun.topDef (OpenLaw.row PySem.Challenge.rw_forkhaul_k31_whole_edits_one_by_one).prog 61) (kwd := []) K31.ob_eq
    (by kernel_rfl) (fun s => by kernel_rfl) K31.run (by kernel_rfl) (by kernel_rfl) (by kernel_rfl) (by rfl) (by first | assumption | decide +kernel) (by decide +kernel) ⟨rfl, rfl, rfl, rfl, rfl, by decide +kernel⟩ ?hw ?hc
  case hw => w_witness2
  case hc =>
    refine L2.walk_ofE (l := PySem.Challenge.rw_forkhaul_k31_whole_edits_one_by_one) (n := 63) (k := 15) (x := "_law_script") (CX := K31.CXA) rfl (by decide) (by kernel_rfl) ⟨rfl, by decide, by decide⟩ ?F ?cx
    case cx =>
      rintro H s e s' ⟨_, _, _, _, _, _, _, _, _, _, _, _, _, z⟩
      exact z
    intro w mg fa h Y G hmg0
    obtain ⟨K, KX, c⟩ := Y
    have hmg : mg ("law" : PySem.Str) = some (.ref fa) := by
      have e : (HandSHeadRun.topDef (OpenLaw.row PySem.Challenge.rw_forkhaul_k31_whole_edits_one_by_one).prog 61).name = ("law" : PySem.Str) := by kernel_rfl
      rw [← e]
      exact hmg0
    obtain ⟨fd, sp, hb, hsp, hF⟩ := K31.facts (w := w) KX G hmg c
    exact ⟨K, fd, sp, KX, hb, hsp, hF⟩
