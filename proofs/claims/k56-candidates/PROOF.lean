import PyProof.Rows.All
import Wide.All
import OpenK.AllK
import Wide.FinOn
import KE.KStateDown
import HandS.ForMost
import HandS.IsInst
import HandS.CallLocal
import HandS.Defaults
import HandS.Wide
import HandS.Walk
import HandS.Flow
import HandS.Head0
import HandS.Head1
import HandS.Head2
import HandS.HeadEnd
import HandS.HeadHook1
import HandS.HeadHook2
import KE.KSuper
import KE.KExcSuper
import HandS.Exc
import HandS.ExcInit
import HandS.ExcSuper
import HandS.TryOnly
import HandS.TryMany
import HandS.WordsExc
import HandS.MakeKw
import HandS.Codes
import HandS.ExcValue
import KE.KExcIs
import HandS.ExcIs
import HandS.ExcField
import HandS.Property
import HandS.OwnEq
import PyProof.InstEq
import KE.KStrBytes
import HandS.List
import HandS.ExcOwn
import HandS.DictComp
import HandS.MakeKwOnly
import KE.DataEq
import KE.KDictPairs
import HandS.More
import HandS.Conv
import HandS.Small
import HandS.Style
import HandS.FStr
import HandS.Bytes
import HandS.SetKeys
import PyProof.AutoSeq1
import KE.KxField
import HandS.SetBool
import PyProof.DictUpdate
import PySem.Challenge.RW_forkhaul_k56_candidates_of_searches
set_option Elab.async false
set_option linter.all false
set_option maxRecDepth 100000
set_option maxHeartbeats 0
namespace Fk
open PySem PySem.Spec PyProof.Rows L2 TL
/-! ### heaps: all stands as it was, but at w -/
def Kp (w : Addr) (H H' : Hp) : Prop := ∀ b o, H b = some o → b ≠ w → H' b = some o
theorem Kp.refl (w : Addr) (H : Hp) : Kp w H H := fun _ _ h _ => h
theorem Kp.trans {w : Addr} {H H1 H2 : Hp} (a : Kp w H H1) (b : Kp w H1 H2) : Kp w H H2 := fun c o h n => b c o (a c o h n) n
theorem Kp.of {w : Addr} {H H' : Hp} (s : Same H H') : Kp w H H' := fun c o h _ => s c o h
theorem same_new {H : Hp} {p : Addr} {o : HO} (h : H p = none) : Same H (upd H p o) := fun b u e => by
  rw [upd_ne (ne_of_none e h)]
  exact e
theorem Kp.new {w p : Addr} {H H' : Hp} {o : HO} (k : Kp w H H') (h : H' p = none) : Kp w H (upd H' p o) := k.trans (.of (same_new h))
theorem Kp.put {w : Addr} {H H' : Hp} {o : HO} (k : Kp w H H') : Kp w H (upd H' w o) := fun c u h n => by
  rw [upd_ne n]
  exact k c u h n
/-- an object that H does not know may change -/
theorem Kp.mut {w p : Addr} {H H' : Hp} {o : HO} (k : Kp w H H') (h : H p = none) : Kp w H (upd H' p o) := fun c u e n => by
  rw [upd_ne (ne_of_none e h)]
  exact k c u e n
theorem same_mut {p : Addr} {H H' : Hp} {o : HO} (k : Same H H') (h : H p = none) : Same H (upd H' p o) := fun c u e => by
  rw [upd_ne (ne_of_none e h)]
  exact k c u e
theorem Kp.free {w p : Addr} {H H' : Hp} (k : Kp w H H') (n : p ≠ w) (h : H' p = none) : H p = none := by
  cases q : H p with
  | none => rfl
  | some o =>
    rw [k p o q n] at h
    cases h
/-! ### a source of draws at w: three numbers; n draws are left -/
def Wl (H : Hp) (w : Addr) (n : Nat) : Prop := ∃ a b c : Int, H w = some (.lst [.int a, .int b, .int c]) ∧ 0 ≤ a ∧ 0 ≤ c ∧ c + n ≤ 1000000
theorem Wl.le {H : Hp} {w : Addr} {n m : Nat} (h : Wl H w n) (e : m ≤ n) : Wl H w m := by
  obtain ⟨a, b, c, h1, h2, h3, h4⟩ := h
  exact ⟨a, b, c, h1, h2, h3, by omega⟩
theorem Wl.new {H : Hp} {w p : Addr} {n : Nat} {o : HO} (h : Wl H w n) (hp : H p = none) : Wl (upd H p o) w n := by
  obtain ⟨a, b, c, h1, h2⟩ := h
  exact ⟨a, b, c, by rw [upd_ne (ne_of_none h1 hp)]; exact h1, h2⟩
theorem Wl.mut {H : Hp} {w p : Addr} {n : Nat} {o : HO} (h : Wl H w n) (hp : w ≠ p) : Wl (upd H p o) w n := by
  obtain ⟨a, b, c, h1, h2⟩ := h
  exact ⟨a, b, c, by rw [upd_ne hp]; exact h1, h2⟩
theorem Wl.same {H H' : Hp} {w : Addr} {n : Nat} (h : Wl H w n) (s : Same H H') : Wl H' w n := by
  obtain ⟨a, b, c, h1, h2⟩ := h
  exact ⟨a, b, c, s _ _ h1, h2⟩
theorem Wl.ne {H : Hp} {w p : Addr} {n : Nat} (h : Wl H w n) (hp : H p = none) : p ≠ w := by
  obtain ⟨a, b, c, h1, _⟩ := h
  exact (ne_of_none h1 hp).symm
/-! ### a def of the module by its name -/
structure Ok (P : Program) (w : World) (K : PySem.W.Frag) (mg : Str → Option Value) (base : Heap) (k : Nat) (x : Str) (ps : List Str) (sp : Sp) : Prop where
  ex : ∃ fd, FnOk P w K mg base CX0 k (He.ga K x) fd ps sp ∧ Binds K fd ps []
  kp : PySem.W.keepIn K (.ref (He.ga K x)) = true
  m : mg x = some (.ref (He.ga K x))
section
variable {X : Cx} {j : Nat} {x : Str} {ps : List Str} {sp : Sp} {p pos : Pos} {e : Expr} {es : List Expr} {t : TA}
theorem pe_own (O : Ok X.prog X.w X.K X.mg X.base j x ps sp) (hr : Room j X.A) (hg : Gl X x) (ha : PA X (e :: es) t) (hdb : (x == ("__debug__" : Str)) = false := by decide)
    (he : starEach (e :: es) X.env = (false, eval e X.env) :: starEach es X.env := by rfl) (hpl : (backTo pos (starEach es X.env)).any (·.1) = false := by rfl) :
    PE X (.Call (.Name x p) (e :: es) [] pos) (tCall sp [] E0 t) := by
  obtain ⟨⟨fd, F, b⟩, kp, m⟩ := O
  exact pe_call F hr hg m kp b .nil pass0 ha hdb he hpl
theorem pe_own0 (O : Ok X.prog X.w X.K X.mg X.base j x ps sp) (hr : Room j X.A) (hg : Gl X x) (hdb : (x == ("__debug__" : Str)) = false := by decide) :
    PE X (.Call (.Name x p) [] [] pos) (tCall sp [] E0 tNil) := by
  obtain ⟨⟨fd, F, b⟩, kp, m⟩ := O
  exact pe_call0 F hr hg m kp b .nil pass0 hdb
theorem pe_gref {a : Addr} (m : X.mg x = some (.ref a)) (hg : Gl X x) (hd : (x == ("__debug__" : Str)) = false := by decide) : PE X (.Name x pos) (tC (.ref a)) := pe_glob hg m rfl hd
/-- a text, many times -/
theorem op_mul_str : OpR X (binaryOp .Mult) (fun x y H Q => ∃ z i, x = .str z ∧ y = .int i ∧ (0 ≤ i ∧ i ≤ 1000000 ∧ z.length ≤ 1000 ∧ z.length * i.toNat ≤ 1000000) ∧ Q (.str (Txt.mul z i)) H) := by
  intro pins s σ H x y v u Q I rx ry h
  obtain ⟨z, i, rfl, rfl, ⟨h0, h1, h2, h3⟩, q⟩ := h
  obtain ⟨t, rfl⟩ := rx
  obtain ⟨t', rfl⟩ := ry
  refine SB.mul ⟨?_, fun g _ => ?_, fun _ _ => ?_⟩ fun t' k => ⟨.str (Txt.mul z i), H, I.tok _, ⟨_, rfl⟩, q⟩
  · rw [Bool.or_eq_false_iff]
    exact ⟨decide_eq_false (by omega), decide_eq_false (by omega)⟩
  · have hi : 1 ≤ i := by omega
    have : (1000 : Int) ≤ (2 ^ 63 - 1) / i := by
      rw [Int.le_ediv_iff_mul_le (by omega)]
      omega
    omega
  · show decide (z.length * i.toNat > sizeLine) = false
    have e := sizeLine_eq
    exact decide_eq_false (by omega)
end
/-! ### comprehensions -/
theorem wipe1 (σ : L2.St) (i : Nat) (v : Option V) : wipe ((wipe σ [i]).set i v) [i] = wipe σ [i] := by
  show ((σ.set i none).set i v).set i none = σ.set i none
  rw [List.set_set, List.set_set]
section
variable {J : It} {G : Hp → Prop} {xs : List V} {tt : TT} {te : TE} {i : Nat} {σ : L2.St} {H1 : Hp} {D : Addr} {Qd : Hp → Prop}
/-- a comprehension that leaves all as it was: the items that pass p, by f -/
theorem lc_same (w : Walk J xs.length G (YAt xs)) (p : V → Bool) (f : V → V) (hG : ∀ H, Same H1 H → G H) (hz : xs.length < sizeLine) (hD : H1 D = none)
    (ht : ∀ x H (Q : Bool → Hp → Prop), x ∈ xs → Same H1 H → (∀ H3, Same H H3 → Q (p x) H3) → tt ((wipe σ [i]).set i (some x)) H Q)
    (he : ∀ x H (Q : VK), x ∈ xs → p x = true → Same H1 H → (∀ H3, Same H H3 → Q (f x) H3) → te ((wipe σ [i]).set i (some x)) H Q)
    (hd : ∀ H, Same H1 H → H D = some (.lst ((xs.filter p).map f)) → Qd H) :
    ∃ W : Nat → Nat → Hp → Prop, (∃ m, W 0 m (upd H1 D (.lst []))) ∧ ∀ i' m H, W i' m H →
      (J.stop i' H ∧ Qd H) ∨ (J.go i' H ∧ ∃ Nx : Hp → Prop, (∀ H', Nx H' → ∃ m', m' < m ∧ W (i' + 1) m' H') ∧ ∀ x H', J.yld i' H x H' → gName i x (wipe σ [i]) H' fun σ2 H2 => wipe σ2 [i] = wipe σ [i] ∧ tt σ2 H2 fun b H3 =>
        if b = true then te σ2 H3 fun y H4 => ∃ acc, H4 D = some (.lst acc) ∧ acc.length < sizeLine ∧ Nx (upd H4 D (.lst (acc ++ [y]))) else Nx H3) := by
  refine lc_it w (fun n H => Same H1 H ∧ H D = some (.lst (((xs.take n).filter p).map f))) ⟨same_new hD, upd_same⟩ (fun n H _ h => hG H h.1) (fun n x H H' hn h hy => ?_) fun H h => ?_
  · obtain ⟨rfl, hx⟩ := hy
    obtain ⟨s1, h1⟩ := h
    refine ⟨wipe1 σ i (some x), ?_⟩
    have hm : x ∈ xs := List.mem_of_getElem? hx
    have et : xs.take (n + 1) = xs.take n ++ [x] := by
      rw [List.take_succ, hx]
      rfl
    refine ht x _ _ hm s1 fun H3 s3 => ?_
    cases q : p x with
    | true =>
      refine he x H3 _ hm q (s1.trans s3) fun H4 s4 => ⟨_, s4 _ _ (s3 _ _ h1), ?_, same_mut (s1.trans (s3.trans s4)) hD, ?_⟩
      · rw [List.length_map]
        refine Nat.lt_of_le_of_lt (Nat.le_trans (List.length_filter_le _ _) ?_) hz
        rw [List.length_take]
        omega
      · rw [et, List.filter_append, List.map_append, upd_same]
        have e : [x].filter p = [x] := by simp [q]
        rw [e]
        rfl
    | false =>
      refine ⟨s1.trans s3, ?_⟩
      rw [et, List.filter_append, List.map_append]
      have e : [x].filter p = [] := by simp [q]
      rw [e, List.map_nil, List.append_nil]
      exact s3 _ _ h1
  · obtain ⟨s1, h1⟩ := h
    rw [List.take_length] at h1
    exact hd H s1 h1
/-- a comprehension without a test whose items draw from u, k draws an item; each item is a P -/
theorem lc_wl {N : Nat} {Y : Nat → Hp → V → Hp → Prop} (w : Walk J N (fun _ => True) Y) (hY : ∀ i H x H', Y i H x H' → H' = H) (P : V → Prop) {u : Addr} {n k : Nat} (hu : Wl H1 u (n + N * k)) (hz : N < sizeLine) (hD : H1 D = none)
    (he : ∀ x H (m : Nat) (Q : VK), Wl H u (m + k) → Kp u H1 H → (∀ y H', P y → Wl H' u m → Kp u H H' → Q y H') → te ((wipe σ [i]).set i (some x)) H Q)
    (hd : ∀ H ys, Kp u H1 H → Wl H u n → H D = some (.lst ys) → ys.length = N → (∀ y ∈ ys, P y) → Qd H) :
    ∃ W : Nat → Nat → Hp → Prop, (∃ m, W 0 m (upd H1 D (.lst []))) ∧ ∀ i' m H, W i' m H →
      (J.stop i' H ∧ Qd H) ∨ (J.go i' H ∧ ∃ Nx : Hp → Prop, (∀ H', Nx H' → ∃ m', m' < m ∧ W (i' + 1) m' H') ∧ ∀ x H', J.yld i' H x H' → gName i x (wipe σ [i]) H' fun σ2 H2 => wipe σ2 [i] = wipe σ [i] ∧ tYes σ2 H2 fun b H3 =>
        if b = true then te σ2 H3 fun y H4 => ∃ acc, H4 D = some (.lst acc) ∧ acc.length < sizeLine ∧ Nx (upd H4 D (.lst (acc ++ [y]))) else Nx H3) := by
  have hDu : D ≠ u := hu.ne hD
  refine lc_it w (fun j H => Kp u H1 H ∧ Wl H u (n + (N - j) * k) ∧ ∃ ys, H D = some (.lst ys) ∧ ys.length = j ∧ ∀ y ∈ ys, P y) ⟨(Kp.refl _ _).new hD, hu.new hD, [], upd_same, rfl, fun y h => by cases h⟩ (fun _ _ _ _ => trivial) (fun j x H H' hj h hy => ?_) fun H h => ?_
  · have e := hY _ _ _ _ hy
    subst e
    obtain ⟨k1, hw, ys, h1, hl, hP⟩ := h
    refine ⟨wipe1 σ i (some x), ?_⟩
    show te ((wipe σ [i]).set i (some x)) _ _
    have e1 : N - j = (N - (j + 1)) + 1 := by omega
    rw [e1, Nat.succ_mul, ← Nat.add_assoc] at hw
    refine he x _ _ _ hw k1 fun y H4 py hw4 k4 => ⟨ys, k4 _ _ h1 hDu, by omega, ((k1.trans k4).mut hD), hw4.mut hDu.symm, _, upd_same, by rw [List.length_append, hl]; rfl, fun z hz => ?_⟩
    rcases List.mem_append.mp hz with hz | hz
    · exact hP z hz
    · rw [List.mem_singleton.mp hz]
      exact py
  · obtain ⟨k1, hw, ys, h1, hl, hP⟩ := h
    rw [Nat.sub_self, Nat.zero_mul] at hw
    exact hd H ys k1 hw h1 hl hP
end
/-- a text, sign by sign, as a list of texts -/
def sg (c : Nat) : V := .str ⟨#[c]⟩
theorem walk_text {z : Str} : Walk (Its z) ((tl z).map sg).length (fun _ => True) (YAt ((tl z).map sg)) := by
  have e : ((tl z).map sg).length = z.cps.size := by rw [List.length_map]; rfl
  rw [e]
  refine (walk_str (z := z)).mono (fun _ h => h) fun i H x H' hi _ y => ?_
  obtain ⟨e, c, h1, h2⟩ := y
  refine ⟨e, ?_⟩
  rw [List.getElem?_map, h2]
  have h3 : (tl z)[i]? = some c := by
    show z.cps.toList[i]? = some c
    rw [Array.getElem?_toList]
    exact h1
  rw [h3]
  rfl
end Fk
namespace Fk
open PySem PySem.Spec PyProof.Rows L2
/-! ### built-in classes of errors under the program's own -/
abbrev keyTail : List Value := [.type "KeyError", .type "LookupError", .type "Exception", .type "BaseException", .type "object"]
theorem kxKey : PySem.W.KxsFacts "KeyError" "KeyError.__init__" := ⟨by show builtinType _ = _; rw [builtinType_eq_fast]; kernel_rfl, by first | kernel_rfl | rfl⟩
/-- a base: its name, the class that makes, __new__, __init__, the classes above -/
structure EBase where
  B : String
  nb : String
  nw : String
  ini : String
  tail : List Value
  fn : ∃ i0 t0, ExcBaseFacts nb nw i0 t0
  ex : PyProof.Rows.ExcClass B nw ini
  kx : PySem.W.KxsFacts B ini
  pass : ∀ self : Value, refuseLoop self "__setattr__" tail = pure ()
  obj : tail.contains (.type "object") = true
  has : tail.contains (.type nb) = true
  noA : tail.contains (.type "AttributeError") = false
  noN : tail.contains (.type "NameError") = false
  quiet : ini.startsWith "lifetime." = false
def ebV : EBase := ⟨"ValueError", "ValueError", "ValueError.__new__", "ValueError.__init__", PySem.HandSPX.veTail, ⟨_, _, F.excBase_ValueError⟩, PyProof.Rows.excClass_ValueError, PySem.W.kxs_ValueError, F.store_ValueError.passes, by decide +kernel, by decide +kernel, by decide +kernel, by decide +kernel, by decide +kernel⟩
def ebK : EBase := ⟨"KeyError", "LookupError", "LookupError.__new__", "KeyError.__init__", keyTail, ⟨_, _, F.excBase_LookupError⟩, PyProof.Rows.excClass_KeyError, kxKey, fun self => by kernel_rfl, by decide +kernel, by decide +kernel, by decide +kernel, by decide +kernel, by decide +kernel⟩
/-- own classes, then the base's row -/
def rowIs (t : List Value) : List Value → Bool
  | .ref _ :: r => rowIs t r
  | l => l == t
theorem tl_cases {t : List Value} (l : List Value) (h : rowIs t l = true) : (∃ c r, l = .ref c :: r ∧ rowIs t r = true) ∨ l = t := by
  cases l with
  | nil => exact .inr (beq_iff_eq.mp h)
  | cons x r =>
    cases x with
    | ref c => exact .inl ⟨c, r, rfl, h⟩
    | _ => exact .inr (beq_iff_eq.mp h)
theorem tl_pass {t : List Value} {self : Value} (p : refuseLoop self "__setattr__" t = pure ()) : ∀ l : List Value, rowIs t l = true → refuseLoop self "__setattr__" l = pure ()
  | [], h => by
    rcases tl_cases [] h with ⟨c, r, e, _⟩ | e
    · cases e
    · rw [e]
      exact p
  | x :: l, h => by
    rcases tl_cases (x :: l) h with ⟨c, r, e, h'⟩ | e
    · obtain ⟨rfl, rfl⟩ := List.cons.inj e
      rw [refuseLoop_ref]
      exact tl_pass p l h'
    · rw [e]
      exact p
theorem tl_has {t : List Value} (n : String) : ∀ l : List Value, rowIs t l = true → l.contains (.type n) = t.contains (.type n)
  | [], h => by
    rcases tl_cases [] h with ⟨c, r, e, _⟩ | e
    · cases e
    · rw [e]
  | x :: l, h => by
    rcases tl_cases (x :: l) h with ⟨c, r, e, h'⟩ | e
    · obtain ⟨rfl, rfl⟩ := List.cons.inj e
      rw [List.contains_cons, tl_has n l h']
      rfl
    · rw [e]
/-! ### C(.., k = v) with keywords -/
section
open PySem.HandSPX Builtin Builtin.ObjectAttr
variable {M : Model} {A : Around} {E : Value → Shared → Prop} {h : Heap} {g : Array GenState} {d : Drawn} {t : Nat} {os : OsState}
variable {nm q : Str} {C N : Addr} {bs bm bmB : List Value} {hdct : Bool} {sn : List Str} {sub : List Value} {ab : Bool} {col : Option Bool} {dd : Option Addr} {k0 k1 k2 k3 k5 : Option Value} {B newId initId : String} {kw : List (Str × Value)}
theorem ck_new (F : ExcBaseFacts B newId initId bmB) (hT : bm.contains (.type B) = true ∧ bm.contains (.type "AttributeError") = false ∧ bm.contains (.type "NameError") = false) {rest : List Value} {Q : Unit → Shared → Prop}
    (hC : h.get? C = some (excClassObj nm q C N bs bm hdct sn sub ab col dd k0 k1 k2 k3 k5 newId)) (hq : Q () ⟨h, g, d, t, os⟩) : wpAny M A (checkBuiltinCall newId ⟨.ref C :: rest, kw⟩) Q E ⟨h, g, d, t, os⟩ := by
  have hB : (Value.ref C :: bm).contains (.type B) = true := by rw [List.contains_cons, hT.1, Bool.or_true]
  have hS := F.noStar
  simp only [checkBuiltinCall, F.newKind, F.newSplit, F.newRow]
  repeat (first | refine wpAny_loadPart_at hC ?_ | (refine wpAny_isSubtype_exc hC ?_; rw [hB]) | refine wpAny_staticBase_exc hC ?_ | refine wpAny_madeBy_exc hC ?_ | simp only [bne_self_eq_false, Bool.false_eq_true, if_false] | wp_step)
  exact hq
end
section
open PySem.HandSPX Builtin Builtin.ObjectAttr
variable {prog : Program} {w : World} {A : Around} {E : Value → Shared → Prop} {R : Result → Shared → Prop} {h : Heap} {g : Array GenState} {d : Drawn} {t : Nat} {os : OsState}
variable {nm q : Str} {C N : Addr} {bs bm bmB : List Value} {hdct : Bool} {sn : List Str} {sub : List Value} {ab : Bool} {col : Option Bool} {dd : Option Addr} {k0 k1 k2 k3 k5 : Option Value} {B newId initId : String} {kw : List (Str × Value)}
theorem rn_new (F : ExcBaseFacts B newId initId bmB) (hT : bm.contains (.type B) = true ∧ bm.contains (.type "AttributeError") = false ∧ bm.contains (.type "NameError") = false) {rest : List Value}
    (hC : h.get? C = some (excClassObj nm q C N bs bm hdct sn sub ab col dd k0 k1 k2 k3 k5 newId))
    (hq : R (.ok (.ret (.ref (h.objs.size + 1)))) ⟨(h.push (W.kdv_tup rest)).push (excO C h.objs.size), g, d, t, os⟩) (hrest : rest.length ≤ sizeLine) :
    codeAny (model prog w) A (.builtin newId ⟨.ref C :: rest, kw⟩) R ⟨h, g, d, t, os⟩ := by
  have hends := F.ends
  have a1 : (Value.ref C :: bm).contains (.type B) = true := by rw [List.contains_cons, hT.1, Bool.or_true]
  have a2 : (Value.ref C :: bm).contains (.type "AttributeError") = false := by rw [List.contains_cons, hT.2.1]; rfl
  have a3 : (Value.ref C :: bm).contains (.type "NameError") = false := by rw [List.contains_cons, hT.2.2]; rfl
  refine codeAny_builtinAt F.entry ?_
  unfold Builtin.«BaseException.__new__»
  refine _root_.PySem.wpAt_bind ?_
  show _root_.PySem.wpAt _ _ _ (stack >>= _) _ _ _
  refine _root_.PySem.wpAt_bind (_root_.PySem.wpAt_stack fun p below => _root_.PySem.wpAt_of_wpAny ?_)
  wp_walk
  refine _root_.PySem.wpAt_of_wpAny ?_
  rw [F.owner]
  repeat (first | with_reducible refine wpAny_madeHere_exc F.canon hC ?_ | with_reducible refine wpAny_loadPart_at hC ?_ | (with_reducible refine wpAny_isSubtype_exc hC ?_; first | rw [a1] | rw [a2] | rw [a3]) | wp_step)
  show R _ _
  rw [Heap.size_push]
  exact hq
theorem tc_mk (F : ExcBaseFacts B newId initId bmB) (hT : bm.contains (.type B) = true ∧ bm.contains (.type "AttributeError") = false ∧ bm.contains (.type "NameError") = false) {rest : List Value} {fI : Addr} {Q : Fin → Shared → Prop}
    (hC : h.get? C = some (excClassObj nm q C N bs bm hdct sn sub ab col dd k0 k1 k2 k3 k5 newId))
    (hi : W.Looks (model prog w) h (typeLookup (.ref C) "__init__") (some (.ref fI))) (hb : ∀ self, W.Looks (model prog w) h (bindSpecial (.ref fI) self) (.ref fI, [self])) (hrest : rest.length ≤ sizeLine)
    (hq : codeAny (model prog w) A (.call (.ref fI) ⟨.ref (h.objs.size + 1) :: rest, kw⟩)
      (fun r s' => match r with | .ok (.ret v) => v = .none ∧ Q (.done (.ret (.ref (h.objs.size + 1)))) s' | .ok _ => False | .error e => E e s')
      ⟨(h.push (W.kdv_tup rest)).push (excO C h.objs.size), g, d, t, os⟩) :
    wpAny (model prog w) A (Builtin.«type.__call__» ⟨.ref C :: rest, kw⟩) Q E ⟨h, g, d, t, os⟩ := by
  repeat (first | with_reducible refine wpAny_loadPart_at hC ?_ | with_reducible refine wpAny_madeBy_exc hC ?_ | wp_step)
  refine codeAny_call_builtin_code (Code.quiet_builtin _ F.quiet) (ck_new F hT hC ?_)
  refine rn_new F hT hC ?_ hrest
  show wpAny _ _ _ _ _ _
  have k : ∀ b o, h.get? b = some o → ((h.push (W.kdv_tup rest)).push (excO C h.objs.size)).get? b = some o := fun b o e => Heap.get?_push_of_some _ (Heap.get?_push_of_some _ e)
  have c1 := k _ _ hC
  have e1 : ((h.push (W.kdv_tup rest)).push (excO C h.objs.size)).get? (h.objs.size + 1) = some (excO C h.objs.size) := by heap_get
  have cc : (Value.ref C :: bm).contains (.ref C) = true := by simp
  have i1 := hi.keeps k
  have b1 := (hb (.ref (h.objs.size + 1))).keeps k
  unfold isInstance
  repeat (first | with_reducible refine wpAny_loadPart_at e1 ?_ | (with_reducible refine wpAny_isSubtype_exc c1 ?_; rw [cc]) | wp_step)
  show wpAny _ _ (typeLookup (.ref C) _) _ _ _
  refine i1.at (wpAny_holding (wpAny_bind (b1.at (wpAny_bind (wpAny_call (codeAny_mono hq fun r s' z => ?_))))))
  rcases r with e | (v | _ | _ | _) <;> first | exact z | exact z.elim | skip
  obtain ⟨rfl, z⟩ := z
  first
    | exact wpAny_pure (wpAny_pure z)
    | (wp_walk; exact z)
theorem ck_tc {M : Model} {rest : List Value} {Q : Unit → Shared → Prop} (hC : h.get? C = some (excClassObj nm q C N bs bm hdct sn sub ab col dd k0 k1 k2 k3 k5 newId))
    (hq : Q () ⟨h, g, d, t, os⟩) : wpAny M A (checkBuiltinCall "type.__call__" ⟨.ref C :: rest, kw⟩) Q E ⟨h, g, d, t, os⟩ := by
  have f3 := tc_sub
  have hT : (⟨h, g, d, t, os⟩ : Shared).TypeIs (.ref C) "type" := ⟨_, hC, rfl⟩
  simp only [checkBuiltinCall, tc_kind, tc_split]
  repeat (any_goals (first | assumption | with_reducible refine wpAny_loadPart_at hC ?_ | with_reducible refine wpAny_onRaise ?_ | with_reducible refine wpAny_map ?_ | wp_step))
theorem cl_own (F : ExcBaseFacts B newId initId bmB) (hT : bm.contains (.type B) = true ∧ bm.contains (.type "AttributeError") = false ∧ bm.contains (.type "NameError") = false) {rest : List Value} {fI : Addr}
    (hC : h.get? C = some (excClassObj nm q C N bs bm hdct sn sub ab col dd k0 k1 k2 k3 k5 newId))
    (hi : W.Looks (model prog w) h (typeLookup (.ref C) "__init__") (some (.ref fI))) (hb : ∀ self, W.Looks (model prog w) h (bindSpecial (.ref fI) self) (.ref fI, [self])) (hrest : rest.length ≤ sizeLine)
    (hq : codeAny (model prog w) (A.under (.builtin "type.__call__" ⟨.ref C :: rest, kw⟩)) (.call (.ref fI) ⟨.ref (h.objs.size + 1) :: rest, kw⟩) (W.InitBack (h.objs.size + 1) R)
      ⟨(h.push (W.kdv_tup rest)).push (excO C h.objs.size), g, d, t, os⟩) :
    codeAny (model prog w) A (.call (.ref C) ⟨rest, kw⟩) R ⟨h, g, d, t, os⟩ := by
  have f1 := tc_lookup
  have f2 := tc_bind (.ref C)
  have hTy : (⟨h, g, d, t, os⟩ : Shared).TypeIs (.ref C) "type" := ⟨_, hC, rfl⟩
  refine codeAny_of_tree ?_
  show wpAny _ _ (callAny (.ref C) _) _ _ _
  repeat (any_goals (first | assumption | with_reducible refine wpAny_loadPart_at hC ?_ | wp_step))
  refine ⟨rfl, ?_⟩
  refine codeAny_call_builtin_at (Code.quiet_builtin _ (by decide +kernel)) entry_typeCall (ck_tc hC (tc_mk F hT hC hi hb hrest ?_))
  refine codeAny_mono hq fun r s' z => ?_
  rcases r with e | (v | _ | _ | _) <;> exact z
/-! ### self.name = v -/
theorem so_new {EB : EBase} {K : W.Frag} {name : Str} {tk : Tok} {v : Value} {x C : Addr} {fv : Array Value} {cd : ClassData}
    (X : K.In h) (hx : h.get? x = some { cls := .ref C, data := .fields fv }) (hcd : W.clsIn K C = some cd) (hm : rowIs EB.tail cd.mro = true) (hne : cd.mro.isEmpty = false) (hh : cd.hasDict = true) (ha : W.findIn K (.ref C) name = some none)
    (hq : ∀ h' tk' dx, (∀ b o, b ≠ x → h.get? b = some o → h'.get? b = some o) → h.objs.size ≤ dx → dx ≠ x → h'.get? x = some { cls := .ref C, dict := some dx, data := .fields fv } →
      h'.Ns1 dx (fun y => if y = name then some v else none) → R (.ok (.ret .none)) ⟨h', g, d, tk', os⟩) :
    codeAny (model prog w) A (.call (.builtin "object.__setattr__") ⟨[.ref x, .str name tk, v], []⟩) R ⟨h, g, d, t, os⟩ := by
  have I : W.InstAt h x { cls := .ref C, data := .fields fv } C none := ⟨hx, rfl, rfl, trivial⟩
  have SF := F.store_object
  have ho : cd.mro.contains (.type "object") = true := (tl_has "object" _ hm).trans EB.obj
  have hxs : x ≠ h.objs.size := Nat.ne_of_lt (Heap.lt_size hx)
  have sub : W.Looks (model prog w) h (isInstance (.ref x) (.type "object")) true := I.type.andThen (W.looks_mroIn X (by unfold W.mroIn; rw [hcd, Option.bind_some, if_neg (by rw [hne]; decide), ho]))
  refine codeAny_call_builtin SF.slot.plain SF.entry (@W.check_slot (model prog w) _ _ ⟨h, g, d, t, os⟩ "object.__setattr__" "object" "__setattr__" (.ref x) [.str name tk, v] [] _ SF.kind SF.split sub (SF.args (.ref x) (.str name tk) v) ?_)
  have mr : W.Looks (model prog w) h (mroOf (.ref C)) cd.mro := (W.looks_clsIn X hcd).andThen .now
  have l3 : W.Looks (model prog w) h (storeTaker? none) none := .now
  have lc : W.Looks (model prog w) h (classData C) cd := W.looks_clsIn X hcd
  rw [W.osa_eq, refuse_eq]
  refine wpAny_bind (wpAny_bind (I.type.at (wpAny_bind (mr.at ?_))))
  rw [tl_pass (EB.pass _) _ hm]
  refine wpAny_pure (wpAny_bind (I.type.at (wpAny_bind ((W.looks_findIn X ha).at (wpAny_bind (l3.at ?_))))))
  show wpAny _ _ (storeInOwnDict (.ref x) (.ref C) (.str name tk) name v false) _ _ _
  obtain ⟨nm, bs, mro, ns, qn, hd, sn, sb, ab, col, del⟩ := cd
  dsimp only at hh
  subst hh
  unfold storeInOwnDict ownDictForStores
  repeat (first | with_reducible refine store_in_new ?_ ?_ | with_reducible refine wpAny_loadPart_at hx ?_ | with_reducible refine lc.at ?_ | wp_step)
  · exact ⟨_, #[], _, (Heap.get?_update_ne _ _ _ _ hxs.symm).trans (Heap.get?_push_at rfl rfl), rfl, fun e he => absurd he (by simp), fun _ => rfl⟩
  · intro h' tk' hn' hs
    have hx₁ : (h.push { cls := .type "dict", data := .dict #[] }).get? x = some { cls := .ref C, data := .fields fv } := Heap.get?_push_of_some _ hx
    refine hq h' tk' h.objs.size (fun b o hb ho => ?_) (Nat.le_refl _) hxs.symm ?_ hn'
    · exact (hs.2 b (Nat.ne_of_lt (Heap.lt_size ho))).trans ((Heap.get?_update_ne _ _ _ _ hb).trans (Heap.get?_push_of_some _ ho))
    · exact (hs.2 x hxs).trans (Heap.get?_update_self _ hx₁ rfl)
theorem so_old {EB : EBase} {K : W.Frag} {name : Str} {tk : Tok} {v : Value} {x C dx : Addr} {fv : Array Value} {cd : ClassData} {m0 : Str → Option Value} {nl : List Str}
    (X : K.In h) (hx : h.get? x = some { cls := .ref C, dict := some dx, data := .fields fv }) (hns : h.Ns1 dx m0) (hw : Within m0 nl) (hz : nl.length ≤ 1000) (hcd : W.clsIn K C = some cd) (hm : rowIs EB.tail cd.mro = true) (hne : cd.mro.isEmpty = false) (hh : cd.hasDict = true)
    (ha : W.findIn K (.ref C) name = some none)
    (hq : ∀ h' tk', (∀ b o, b ≠ dx → h.get? b = some o → h'.get? b = some o) → h'.Ns1 dx (fun y => if y = name then some v else m0 y) → R (.ok (.ret .none)) ⟨h', g, d, tk', os⟩) :
    codeAny (model prog w) A (.call (.builtin "object.__setattr__") ⟨[.ref x, .str name tk, v], []⟩) R ⟨h, g, d, t, os⟩ := by
  obtain ⟨oD, esD, epD, hoD, hdD, _⟩ := hns.count hw
  have I : W.InstAt h x { cls := .ref C, dict := some dx, data := .fields fv } C (some oD) := ⟨hx, rfl, rfl, hoD⟩
  have SF := F.store_object
  have ho : cd.mro.contains (.type "object") = true := (tl_has "object" _ hm).trans EB.obj
  have sub : W.Looks (model prog w) h (isInstance (.ref x) (.type "object")) true := I.type.andThen (W.looks_mroIn X (by unfold W.mroIn; rw [hcd, Option.bind_some, if_neg (by rw [hne]; decide), ho]))
  refine codeAny_call_builtin SF.slot.plain SF.entry (@W.check_slot (model prog w) _ _ ⟨h, g, d, t, os⟩ "object.__setattr__" "object" "__setattr__" (.ref x) [.str name tk, v] [] _ SF.kind SF.split sub (SF.args (.ref x) (.str name tk) v) ?_)
  have mr : W.Looks (model prog w) h (mroOf (.ref C)) cd.mro := (W.looks_clsIn X hcd).andThen .now
  have l3 : W.Looks (model prog w) h (storeTaker? none) none := .now
  have lc : W.Looks (model prog w) h (classData C) cd := W.looks_clsIn X hcd
  rw [W.osa_eq, refuse_eq]
  refine wpAny_bind (wpAny_bind (I.type.at (wpAny_bind (mr.at ?_))))
  rw [tl_pass (EB.pass _) _ hm]
  refine wpAny_pure (wpAny_bind (I.type.at (wpAny_bind ((W.looks_findIn X ha).at (wpAny_bind (l3.at ?_))))))
  show wpAny _ _ (storeInOwnDict (.ref x) (.ref C) (.str name tk) name v false) _ _ _
  obtain ⟨nm, bs, mro, ns, qn, hd, sn, sb, ab, col, del⟩ := cd
  dsimp only at hh
  subst hh
  unfold storeInOwnDict ownDictForStores
  repeat (first | with_reducible refine PySem.OEX.store_in_old hns hw hz ?_ | with_reducible refine wpAny_loadPart_at hx ?_ | with_reducible refine lc.at ?_ | wp_step)
  intro h' tk' hn' hs
  exact hq h' tk' (fun b o hb ho => (hs.2 b hb).trans ho) hn'
end
end Fk
namespace Fk
open PySem PySem.Spec PyProof.Rows L2
/-! ### super().__init__(x) over ValueError -/
abbrev exObj (C : Addr) (d : Option Addr) (t : Addr) : Obj := { cls := .ref C, dict := d, data := .fields #[.ref t, .none, .none, .none, .bool false, .none] }
section
variable {prog : Program} {w : World} {A : Around} {E : Value → Shared → Prop} {h : Heap} {g : Array GenState} {d : Drawn} {t : Nat} {os : OsState}
variable {nm q : Str} {C N : Addr} {bs bm : List Value} {hdct : Bool} {sn : List Str} {sub : List Value} {ab : Bool} {col : Option Bool} {dd : Option Addr} {k0 k1 k2 k3 k5 : Option Value}
theorem ck_bound {EB : EBase} {e : Addr} {oe : Obj} {rest : List Value} {M : Model} {Q : Unit → Shared → Prop} (hC : h.get? C = some (excClassObj nm q C N bs bm hdct sn sub ab col dd k0 k1 k2 k3 k5 EB.nw)) (he : h.get? e = some oe) (hcls : oe.cls = .ref C) (hq : Q () ⟨h, g, d, t, os⟩) :
    wpAny M A (checkBoundCall EB.ini ⟨.ref e :: rest, []⟩) Q E ⟨h, g, d, t, os⟩ := by
  have hsh := EB.ex.notStar
  simp only [checkBoundCall, EB.ex.initKind, EB.ex.initSig]
  repeat (first | (with_reducible refine wpAny_loadPart_at he ?_; rw [hcls]) | with_reducible refine wpAny_loadPart_at hC ?_ | wp_step)
  refine wpAny_onRaise ?_
  have hz : ∀ (a b : String) (n : Nat), Bind.check ⟨.positional, "*", EB.B, .self, [⟨"args", .varPos, false⟩]⟩ a b n (List.map (fun x => x.fst) ({ pos := Value.ref e :: rest } : Args).kw) = pure () := fun a b n => check_star_args _ _ _ _ _ _
  rw [hz]
  exact wpAny_pure hq
theorem call_mw {EB : EBase} {u e t0 : Addr} {rest : List Value} {Q : Value → Shared → Prop}
    (hC : h.get? C = some (excClassObj nm q C N bs bm hdct sn sub ab col dd k0 k1 k2 k3 k5 EB.nw)) (he : h.get? e = some (exObj C none t0)) (hu : h.get? u = some (PySem.W.kxs_mw EB.ini e)) (hrest : rest.length ≤ sizeLine)
    (hq : ∀ h' t1, (∀ b o, b ≠ e → h.get? b = some o → h'.get? b = some o) → h'.get? e = some (exObj C none t1) → Q .none ⟨h', g, d, t, os⟩) :
    wpAny (model prog w) A (call (.ref u) rest) Q E ⟨h, g, d, t, os⟩ := by
  refine wpAny_call (codeAny_of_tree ?_)
  show wpAny _ A.in1 (callAny (.ref u) ⟨rest, []⟩) _ _ _
  simp only [callAny]
  refine wpAny_bind (wpAny_load hu ?_)
  simp only [PySem.W.kxs_mw, show (Value.type "method-wrapper" == Value.type "method" || Value.type "method-wrapper" == Value.type "builtin_function_or_method" || Value.type "method-wrapper" == Value.type "method-wrapper") = true by decide, if_true]
  refine PySem.W.KFB.if_so (by decide) ?_
  refine wpAny_bind (ck_bound hC he rfl ?_)
  refine wpAny_bind (wpAny_pure (wpAny_pure ?_))
  refine ⟨Code.quiet_builtin _ EB.quiet, codeAny_builtin EB.ex.initEntry ?_⟩
  rw [Around.under_plainId EB.ex.init.plain _]
  wp_walk
  refine hq _ h.objs.size (fun b o hb ho => ?_) ?_
  · rw [Heap.get?_update_other _ _ (Ne.symm hb)]
    exact Heap.get?_push_of_some _ ho
  · rw [Heap.get?_update_self _ (Heap.get?_push_of_some _ he) rfl]
    rfl
end
/-- a def of the class at D that says super() -/
structure SupFn (P : Program) (K : PySem.W.Frag) (f : Addr) (fd : FuncData) (D : Addr) : Prop where
  lk : ∃ oc od osl, K.lookup f = some ⟨oc, od, .func fd, osl⟩
  glob : fd.globals = mainGlobals
  blt : fd.builtins = builtinsNs
  code : ∃ cda ccl cdd ccs vs file tf, fd.code = .ref cda ∧ K.lookup cda = some ⟨ccl, cdd, .fields vs, ccs⟩ ∧ vs[2]? = some (.str file tf) ∧ ((P.main.file : Str) == file) = true
  codeQ : PySem.W.codeIn K fd.code fd.qualname = true
  clo : ∃ cc cl cld csl, fd.closure = [(("__class__" : Str), cc)] ∧ K.lookup cc = some ⟨cl, cld, .cell (some (.ref D)), csl⟩
  dcl : ∃ cd, PySem.W.clsIn K D = some cd
  op : PySem.W.nsIn K cStatics "thirdparty.any" = some none
  top : (P.main.scope.names.lookup ("super" : Str)).isSome = false
  ks : fd.scope.names.lookup ("super" : Str) = some .globalImplicit
  kc : fd.scope.names.lookup ("__class__" : Str) = some .free
  kself : fd.scope.names.lookup ("self" : Str) = some .local
  kind : fd.scope.kind = .function
  par : ∃ ar, (fd.params.posonlyargs ++ fd.params.args).head? = some ar ∧ ar.arg = "self"
/-- what the heap knows of the module -/
structure Md (K : PySem.W.Frag) (mg : Str → Option Value) (h : Heap) : Prop where
  kin : K.In h
  glob : h.Ns mainGlobals mg
  blt : ∃ mb, h.Ns builtinsNs mb ∧ ∀ x : Str, x ≠ "__name__" → mb x = bootBuiltins x
  lim : h.NoLimit
theorem Md.keeps {K : PySem.W.Frag} {mg : Str → Option Value} {h h' : Heap} (m : Md K mg h) (k : ∀ b o, h.get? b = some o → h'.get? b = some o) : Md K mg h' := by
  obtain ⟨a, b, ⟨mb, c, d⟩, e⟩ := m
  exact ⟨a.keeps k, b.keeps k, ⟨mb, c.keeps k, d⟩, e.keeps k⟩
section
open PySem.W
variable {EB : EBase} {prog : Program} {w : World} {A : Around} {E : Value → Shared → Prop} {s : Shared} {K : PySem.W.Frag} {mg : Str → Option Value} {f D C a L : Addr} {fd : FuncData} {ox : Obj}
theorem wpAt_sup {body : List Stmt} {p0 p1 : Pos} {whole : Sem Value} {m : Str → Option Value} {Q : Value → Shared → Prop} (S : SupFn prog K f fd D) (M : Md K mg s.heap) (hsm : mg "super" = none) (hn : s.heap.Ns L m) (hself : m "self" = some (.ref a))
    (ha : s.heap.get? a = some ox) (hac : ox.cls = .ref C) (hnc : ∀ c, ox.data ≠ .cls c) (sub : mroIn K C (.ref D) = some true)
    (h : ∀ so h', h'.get? so = some { cls := .type "super", dict := none, data := .fields #[.ref D, .ref a, .ref C], slots := #[] } → (∀ y o, s.heap.get? y = some o → h'.get? y = some o) → s.heap.objs.size ≤ so → Q (.ref so) { s with heap := h' }) :
    _root_.PySem.wpAt (model prog w) A (.func body (callEnv fd L f)) (attributeBase (.Call (.Name "super" p0) [] [] p1) "__init__" (callEnv fd L f) whole) Q E s := by
  obtain ⟨oc, od, osl, lk⟩ := S.lk
  obtain ⟨cda, ccl, cdd, ccs, vs, file, tf, hco, hcode, hvs, hfile⟩ := S.code
  obtain ⟨cc, cl, cld, csl, hclo, hcell⟩ := S.clo
  obtain ⟨cdD, hD⟩ := S.dcl
  obtain ⟨ar, hp, har⟩ := S.par
  obtain ⟨mb, hb1, hb2⟩ := M.blt
  have X := M.kin
  obtain ⟨hh, g, d, t, os⟩ := s
  obtain ⟨oD, hD1, hD2⟩ : ∃ oD, hh.get? D = some oD ∧ oD.data = .cls cdD := by
    unfold clsIn at hD
    split at hD
    · rename_i c d cd' sl ho
      cases hD
      exact ⟨_, X _ _ ho, rfl⟩
    · cases hD
  refine ks_wpAt_super_base (env := callEnv fd L f) (attr := "__init__") S.ks S.kc (by decide) rfl (X _ _ lk) rfl hp hco (X _ _ hcode) rfl hvs hfile S.top ?_
  refine ks_loadName_global S.kind S.ks (Calls.loadGlobal_builtin (env := callEnv fd L f) (by show Heap.Ns hh fd.globals mg; rw [S.glob]; exact M.glob) hsm (by show Heap.Ns hh fd.builtins mb; rw [S.blt]; exact hb1) ((hb2 _ (by decide +kernel)).trans (by decide +kernel)) ⟨rfl, ?_⟩)
  refine wpAny_loadName_free S.kind S.kc (by show List.lookup _ fd.closure = _; rw [hclo]; rfl) ⟨_, X _ _ hcell, rfl⟩ ?_
  rw [har]
  refine wpAny_loadName_local S.kind S.kself hn hself ?_
  refine ks_wpAny_isType_cls hD1 hD2 ⟨rfl, ?_⟩
  exact ks_wpAny_call_super hD1 hD2 ha hac hnc (looks_mroIn X sub) (fun h' e k => h _ h' e k (Nat.le_refl _))
/-- what is said of an exception's class C -/
structure ExC (EB : EBase) (K : PySem.W.Frag) (C : Addr) : Prop where
  cls : ∃ nm q N bs bm sn sub ab col dd k0 k1 k2 k3 k5, K.lookup C = some (excClassObj nm q C N bs bm true sn sub ab col dd k0 k1 k2 k3 k5 EB.nw) ∧ rowIs EB.tail bm = true
  sa : findIn K (.ref C) "__setattr__" = some (some (.builtin "object.__setattr__"))
  exC : subIn K (.ref C) (.type "BaseException") = some true
  tyC : typeIn K (.ref C) = some (.type "type")
  kC : keepIn K (.ref C) = true
  isB : mroIn K C (.type EB.B) = some true
/-- the statement super().__init__(e), e a name or a text -/
theorem wpAt_supInit {body : List Stmt} {p0 p1 p2 p4 p5 : Pos} {e : Expr} {pl : Sem Bool} {m : Str → Option Value} {t0 : Addr} {v : Value} {Q : Flow → Shared → Prop} (S : SupFn prog K f fd D) (M : Md K mg s.heap) (hsm : mg "super" = none) (hn : s.heap.Ns L m) (hself : m "self" = some (.ref a)) (T : ExC EB K C)
    (ha : s.heap.get? a = some (exObj C none t0)) (sub : mroIn K C (.ref D) = some true) (hsup : ks_superIn K C D "__init__" = some (some (.builtin EB.ini))) (haL : a ≠ L)
    (hev : ∀ (s1 : Shared) (Q1 : Value → Shared → Prop), s1.heap.Ns L m → (∀ tk, Q1 v { s1 with toks := tk }) → wpAny (model prog w) A (eval e (callEnv fd L f)) Q1 E s1)
    (he : starEach [e] (callEnv fd L f) = [(false, eval e (callEnv fd L f))])
    (hE : eval (.Call (.Attribute (.Call (.Name "super" p0) [] [] p1) "__init__" p2) [e] [] p4) (callEnv fd L f) = (do
      let ov ← attributeBase (.Call (.Name "super" p0) [] [] p1) "__init__" (callEnv fd L f) (eval (.Call (.Name "super" p0) [] [] p1) (callEnv fd L f))
      standAt p2.atName
      let (f', first) ← holding [ov] (getMethod ov "__init__" pl)
      callWith p4 f' first (backTo p4 (starEach [e] (callEnv fd L f))) []))
    (hi : interactive (callEnv fd L f) = false) (hs : swapsWith (.Call (.Attribute (.Call (.Name "super" p0) [] [] p1) "__init__" p2) [e] [] p4) none p5.line (callEnv fd L f) = pure false)
    (h : ∀ h' tk t1, (∀ b o, b ≠ a → s.heap.get? b = some o → h'.get? b = some o) → h'.get? a = some (exObj C none t1) → Q .next { s with heap := h', toks := tk }) :
    _root_.PySem.wpAt (model prog w) A (.func body (callEnv fd L f)) (exec (.Expr (.Call (.Attribute (.Call (.Name "super" p0) [] [] p1) "__init__" p2) [e] [] p4) p5) (callEnv fd L f)) Q E s := by
  obtain ⟨nm, q, N, bs, bm, sn, sb, ab, col, dd, k0, k1, k2, k3, k5, hC, hbm⟩ := T.cls
  have X := M.kin
  refine ks_wpAt_Expr_any (ks_wpAt_MethodCall (wpAt_sup S M hsm hn hself ha rfl (fun c z => by cases z) sub fun so h1 hso k1' lso => ?_) hE) hi hs
  obtain ⟨hh, g, d, t, os⟩ := s
  have X1 : K.In h1 := X.keeps k1'
  have hcl : clsIn K C = some { name := nm, bases := bs, mro := .ref C :: bm, ns := N, qualname := q, hasDict := true, slotNames := sn, subclasses := sb, abstract := ab, collection := col, hasDel := false } := by unfold clsIn; rw [hC] <;> rfl
  have hal : alongIn K "__init__" (((.ref C :: bm : List Value).dropWhile (· != .ref D)).drop 1) = some (some (.builtin EB.ini)) := by
    unfold ks_superIn at hsup
    rw [hcl] at hsup
    exact hsup
  have hI1 : InstAt h1 a (exObj C none t0) C none := ⟨k1' _ _ ha, rfl, rfl, trivial⟩
  have hno : Looks (model prog w) h1 (opaqueClassAbove (.ref C)) none := looks_opaque X1 S.op
  have hmro : Looks (model prog w) h1 (mroOf (.ref C)) (.ref C :: bm) := fun A Q E s k q => wpAny_bind ((looks_clsIn X1 hcl) A _ E s k (wpAny_pure q))
  have hisV : Looks (model prog w) h1 (isInstance (.ref a) (.type EB.B)) true := hI1.type.andThen (looks_mroIn X1 T.isB)
  have haC : a ≠ C := ks_ne X1 hI1 hcl
  refine kxs_getMethod EB.kx hso hno hmro rfl X1 hal hisV haC (by decide) ?_
  show wpAny (model prog w) A (callWith p4 (.ref h1.objs.size) [] (backTo p4 (starEach [e] (callEnv fd L f))) []) _ E _
  rw [he]
  refine kxs_callWith (i := EB.ini) (x := a) (u := h1.objs.size) rfl ?_
  refine Calls.evalArgs_plain ?_
  have k2' : ∀ y o, hh.get? y = some o → (h1.push (kxs_mw EB.ini a)).get? y = some o := fun y o z => Heap.get?_push_of_some _ (k1' y o z)
  refine Calls.spliced_cons (hev _ _ (hn.keeps k2') fun tk => Calls.spliced_nil ⟨Heap.get?_push_at rfl rfl, ?_⟩)
  refine call_mw (X _ _ hC |> k2' _ _) (k2' _ _ ha) (Heap.get?_push_at rfl rfl) (by show 1 ≤ sizeLine; decide) fun h' t1 k' e' => ?_
  exact h h' tk t1 (fun b o hb z => k' b o hb (k2' b o z)) e'
theorem ns_at {h h' : Heap} {L : Addr} {m : Str → Option Value} (n : h.Ns L m) (k : ∀ o, h.get? L = some o → h'.get? L = some o) : h'.Ns L m := by
  obtain ⟨o, es, ep, e, r⟩ := n
  exact ⟨o, es, ep, k _ e, r⟩
theorem ld_loc {M : Model} {A : Around} {E : Value → Shared → Prop} {s : Shared} {fd : FuncData} {L f : Addr} {x : Str} {pos : Pos} {m : Str → Option Value} {v : Value} {Q : Value → Shared → Prop} (hk : fd.scope.kind = .function)
    (hl : fd.scope.names.lookup x = some .local) (hn : s.heap.Ns L m) (hv : m x = some v) (h : Q v s) (hd : (x == ("__debug__" : Str)) = false) : wpAny M A (eval (.Name x pos) (callEnv fd L f)) Q E s :=
  wpAny_Name (wpAny_loadName_local (env := callEnv fd L f) hk hl hn hv h) hd
/-- self.fld = y, the first field of an exception -/
theorem set_first {t0 : Addr} {fld : Str} {v : Value} {Q : Unit → Shared → Prop} (X : K.In s.heap) (T : ExC EB K C) (ha : s.heap.get? a = some (exObj C none t0)) (hno : findIn K (.ref C) fld = some none)
    (h : ∀ h' tk dx, (∀ b o, b ≠ a → s.heap.get? b = some o → h'.get? b = some o) → s.heap.objs.size ≤ dx → dx ≠ a → h'.get? a = some (exObj C (some dx) t0) → h'.Ns1 dx (fun z => if z = fld then some v else none) → Q () { s with heap := h', toks := tk }) :
    wpAny (model prog w) A (setAttr (.ref a) fld v) Q E s := by
  obtain ⟨nm, q, N, bs, bm, sn, sub, ab, col, dd, k0, k1, k2, k3, k5, hC, hbm⟩ := T.cls
  have hcl : clsIn K C = some { name := nm, bases := bs, mro := .ref C :: bm, ns := N, qualname := q, hasDict := true, slotNames := sn, subclasses := sub, abstract := ab, collection := col, hasDel := false } := by unfold clsIn; rw [hC] <;> rfl
  obtain ⟨hp, g, d, t, os⟩ := s
  refine set_plain X (ox := exObj C none t0) (od := none) ⟨ha, rfl, rfl, trivial⟩ T.sa ?_
  exact so_new (EB := EB) X ha hcl (show rowIs EB.tail (.ref C :: bm) = true from hbm) rfl rfl hno (fun h' tk' dx k dn dne hx hn => h h' tk' dx k dn dne hx hn)
/-- def __init__(self, y): super().__init__(y); self.fld = y -/
theorem init1 {p0 p1 p2 p3 p4 p5 p6 p7 p8 p9 : Pos} {y fld : Str} {v : Value} {t0 : Addr} {args : Args} {pl : Addr → Sem Bool} {R : Result → Shared → Prop} (S : SupFn prog K f fd D) (M : Md K mg s.heap) (hsm : mg "super" = none) (T : ExC EB K C)
    (ha : s.heap.get? a = some (exObj C none t0)) (sub : mroIn K C (.ref D) = some true) (hsup : ks_superIn K C D "__init__" = some (some (.builtin EB.ini))) (hroom : A.depth < recursionLimit)
    (hbody : fd.body = .stmts [.Expr (.Call (.Attribute (.Call (.Name "super" p0) [] [] p1) "__init__" p2) [.Name y p3] [] p4) p5, .Assign [.Attribute (.Name "self" p6) fld p7] (.Name y p8) p9])
    (hbind : BindsTo s fd args [("self", .ref a), (y, v)]) (ky : fd.scope.names.lookup y = some .local) (hcell : ∀ x ∈ fd.scope.names, x.2 ≠ .cell) (hy : (y == ("self" : Str)) = false) (hyd : (y == ("__debug__" : Str)) = false)
    (hco : fd.scope.isCoroutine = false) (hgen : fd.scope.isGenerator = false) (hno : findIn K (.ref C) fld = some none) (hKa : K.lookup a = none)
    (hE : ∀ L, eval (.Call (.Attribute (.Call (.Name "super" p0) [] [] p1) "__init__" p2) [.Name y p3] [] p4) (callEnv fd L f) = (do
      let ov ← attributeBase (.Call (.Name "super" p0) [] [] p1) "__init__" (callEnv fd L f) (eval (.Call (.Name "super" p0) [] [] p1) (callEnv fd L f))
      standAt p2.atName
      let (f', first) ← holding [ov] (getMethod ov "__init__" (pl L))
      callWith p4 f' first (backTo p4 (starEach [.Name y p3] (callEnv fd L f))) []))
    (hi : ∀ L, interactive (callEnv fd L f) = false) (hs : ∀ L, swapsWith (.Call (.Attribute (.Call (.Name "super" p0) [] [] p1) "__init__" p2) [.Name y p3] [] p4) none p5.line (callEnv fd L f) = pure false)
    (hs2 : ∀ L, swapsWith (.Name y p8) (some (.Attribute (.Name "self" p6) fld p7)) p9.line (callEnv fd L f) = pure false)
    (h : ∀ h' tk dx t1, (∀ b o, b ≠ a → s.heap.get? b = some o → h'.get? b = some o) → s.heap.objs.size ≤ dx → dx ≠ a → h'.get? a = some (exObj C (some dx) t1) → h'.Ns1 dx (fun z => if z = fld then some v else none) → R (.ok (.ret .none)) { s with heap := h', toks := tk }) :
    codeAny (model prog w) A (.call (.ref f) args) R s := by
  obtain ⟨oc, od, osl, lk⟩ := S.lk
  have hloc : ∀ x ∈ [(("self" : Str), Value.ref a), (y, v)], fd.scope.names.lookup x.1 = some .local := fun x hx => by
    rcases List.mem_cons.mp hx with rfl | hx
    · exact S.kself
    · rw [List.mem_singleton.mp hx]
      exact ky
  refine ks_codeAny_call_defAt hroom (M.kin _ _ lk) rfl M.lim (codeRec_of M.kin S.codeQ) hbody hbind hcell hloc (fun h₀ hns k0 => ?_) hco hgen S.kind
  have aL : a ≠ s.heap.objs.size := Nat.ne_of_lt (Heap.lt_size ha)
  have mself : (fun x : Str => ([(("self" : Str), Value.ref a), (y, v)] : List (Str × Value)).reverse.lookup x) "self" = some (.ref a) := by
    show List.lookup ("self" : Str) [(y, v), ("self", Value.ref a)] = _
    have : (("self" : Str) == y) = false := by
      rw [Bool.eq_false_iff] at hy ⊢
      exact fun e => hy (beq_iff_eq.mpr (beq_iff_eq.mp e).symm)
    simp [List.lookup, this]
  have my : (fun x : Str => ([(("self" : Str), Value.ref a), (y, v)] : List (Str × Value)).reverse.lookup x) y = some v := by
    show List.lookup y [(y, v), ("self", Value.ref a)] = _
    simp [List.lookup]
  generalize (fun x : Str => ([(("self" : Str), Value.ref a), (y, v)] : List (Str × Value)).reverse.lookup x) = m at hns mself my
  obtain ⟨hh, g, d, t, os⟩ := s
  refine ks_wpAt_execs_cons (wpAt_supInit (EB := EB) (v := v) S (M.keeps k0) hsm hns mself T (k0 _ _ ha) sub hsup aL (fun s1 Q1 n1 q1 => ?_) rfl (hE _) (hi _) (hs _) fun h1 tk t1 k1 e1 => ?_)
  · exact ld_loc S.kind ky n1 my (by
      obtain ⟨a1, a2, a3, a4, a5⟩ := s1
      exact q1 a4) hyd
  · have n1 : h1.Ns hh.objs.size m := ns_at hns fun o z => k1 _ _ aL.symm z
    refine ks_wpAt_execs_cons (ks_wpAt_Assign_Attr (wpAt_of_wpAny (ld_loc S.kind ky n1 my ?_ hyd)) (hs2 _))
    refine ld_loc S.kind S.kself n1 mself ?_ (by decide)
    have X1 : K.In h1 := fun b o z => by
      have zb : b ≠ a := fun q => by
        rw [q, hKa] at z
        cases z
      exact k1 b o zb (k0 b o (M.kin b o z))
    refine set_first (s := ⟨h1, g, d, tk, os⟩) X1 T e1 hno fun h2 tk2 dx k2 dn dne hx hnx => ?_
    have lt1 : hh.objs.size ≤ dx := Nat.le_trans (Nat.le_of_lt (by obtain ⟨o, _, _, e, _⟩ := n1; exact Heap.lt_size e)) dn
    refine wpAt_of_wpAny (wpAny_pure ?_)
    exact h h2 tk2 dx t1 (fun b o hb z => k2 b o hb (k1 b o hb (k0 b o z))) lt1 dne hx hnx
/-- from a changed exception and its new dict to the abstract heap -/
theorem exo_made {P : Program} {fs' : List Addr} {H : Hp} {hp h' : Heap} {dx t1 : Addr} {fs : List (Str × V)} {mA : Str → Option Value} (hok : HOk P w H hp) (e : H a = some (exo a C none))
    (k : ∀ b o, b ≠ a → hp.get? b = some o → h'.get? b = some o) (dn : hp.objs.size ≤ dx) (dne : dx ≠ a) (hx : h'.get? a = some (exObj C (some dx) t1)) (hn : h'.Ns1 dx mA) (rel : ∀ f, RelO (fs.lookup f) (mA f)) :
    Un fs' [] H (upd (upd H dx (exd dx fs)) a (exo a C (some dx))) hp h' ∧ HOk P w (upd (upd H dx (exd dx fs)) a (exo a C (some dx))) h' := by
  have hnd : H dx = none := hok.fresh dn
  have nd : ∀ {b : Addr} {o : Obj}, hp.get? b = some o → b ≠ dx := fun {b o} q => Nat.ne_of_lt (Nat.lt_of_lt_of_le (Heap.lt_size q) dn)
  have na : ∀ {b : Addr}, H b = none → b ≠ a := fun {b} n z => by
    rw [z, e] at n
    cases n
  refine ⟨{
    keep := fun b o q n _ _ => k b o (na n) q
    slot := fun b o q n _ _ => ⟨o.slots, k b o (na n) q⟩
    free := fun b o q n _ => by rw [upd_ne (na n), upd_ne (nd q)]; exact n
    there := fun b o q _ => by
      by_cases hb : b = a
      · exact ⟨_, by rw [hb]; exact hx⟩
      · exact ⟨o, k b o hb q⟩
    tups := fun b xs q => by rw [upd_ne (at_ne e q exo_tup), upd_ne (ne_of_none q hnd)]; exact q
    frzs := fun b o v q => by rw [upd_ne (at_ne e q exo_frz), upd_ne (ne_of_none q hnd)]; exact q
    tbls := fun b ps q => ⟨#[], by rw [upd_ne (at_ne e q exo_tbl), upd_ne (ne_of_none q hnd), q]; simp⟩ }, fun b o q => ?_⟩
  by_cases hb : b = a
  · subst hb
    rw [upd_same] at q
    cases q
    exact exo_ok hx
  · rw [upd_ne hb] at q
    by_cases hd : b = dx
    · subst hd
      rw [upd_same] at q
      cases q
      exact exd_ok hn rel
    · rw [upd_ne hd] at q
      exact (hok b o q).stay (fun c v hc z => k c v (by
          rcases hc with hc | hc
          · rw [hc]
            exact hb
          · exact at_ne e hc exo_own) z)
        (fun c hc => by rw [upd_ne (at_ne e hc exo_own), upd_ne (ne_of_none hc hnd)]; exact hc) (fun c xs hc => by rw [upd_ne (at_ne e hc exo_tup), upd_ne (ne_of_none hc hnd)]; exact hc)
theorem Env0.md {P : Program} {base : Heap} {outer : List Env} {H : Hp} (e0 : Env0 P w K mg base A outer s H) : Md K mg s.heap := by
  have k : ∀ b o, base.get? b = some o → s.heap.get? b = some o := fun b o z => (e0.bs b o z).1
  obtain ⟨mb, c, d⟩ := e0.mod.blt
  exact ⟨e0.mod.kin.keeps k, e0.mod.glob.keeps k, ⟨mb, c.keeps k, d⟩, e0.mod.nolimit.keeps k⟩
theorem Env0.off {P : Program} {base : Heap} {outer : List Env} {H : Hp} (e0 : Env0 P w K mg base A outer s H) {o : HO} (e : H a = some o) : K.lookup a = none := by
  cases z : K.lookup a with
  | none => rfl
  | some ob =>
    have := (e0.bs a ob (e0.mod.kin a ob z)).2
    rw [e] at this
    cases this
/-- the promise of such an __init__ -/
def spInit1 (EB : EBase) (K : PySem.W.Frag) (D : Addr) (fld : Str) : Sp := fun vs H Q _ => ∃ (a C : Addr) (x : V), vs = [.ref a, x] ∧ ExC EB K C ∧ mroIn K C (.ref D) = some true ∧ ks_superIn K C D "__init__" = some (some (.builtin EB.ini)) ∧ findIn K (.ref C) fld = some none ∧
  H a = some (exo a C none) ∧ ∀ dx, H dx = none → dx ≠ a → Q .non (upd (upd H dx (exd dx [(fld, x)])) a (exo a C (some dx)))
theorem fn_init1 {P : Program} {base : Heap} {p0 p1 p2 p3 p4 p5 p6 p7 p8 p9 : Pos} {y fld : Str} {pl : Addr → Sem Bool} (S : SupFn P K f fd D) (hsm : mg "super" = none)
    (hbody : fd.body = .stmts [.Expr (.Call (.Attribute (.Call (.Name "super" p0) [] [] p1) "__init__" p2) [.Name y p3] [] p4) p5, .Assign [.Attribute (.Name "self" p6) fld p7] (.Name y p8) p9])
    (ky : fd.scope.names.lookup y = some .local) (hcell : ∀ x ∈ fd.scope.names, x.2 ≠ .cell) (hy : (y == ("self" : Str)) = false) (hyd : (y == ("__debug__" : Str)) = false)
    (hco : fd.scope.isCoroutine = false) (hgen : fd.scope.isGenerator = false)
    (hE : ∀ L, eval (.Call (.Attribute (.Call (.Name "super" p0) [] [] p1) "__init__" p2) [.Name y p3] [] p4) (callEnv fd L f) = (do
      let ov ← attributeBase (.Call (.Name "super" p0) [] [] p1) "__init__" (callEnv fd L f) (eval (.Call (.Name "super" p0) [] [] p1) (callEnv fd L f))
      standAt p2.atName
      let (f', first) ← holding [ov] (getMethod ov "__init__" (pl L))
      callWith p4 f' first (backTo p4 (starEach [.Name y p3] (callEnv fd L f))) []))
    (hi : ∀ L, interactive (callEnv fd L f) = false) (hs : ∀ L, swapsWith (.Call (.Attribute (.Call (.Name "super" p0) [] [] p1) "__init__" p2) [.Name y p3] [] p4) none p5.line (callEnv fd L f) = pure false)
    (hs2 : ∀ L, swapsWith (.Name y p8) (some (.Attribute (.Name "self" p6) fld p7)) p9.line (callEnv fd L f) = pure false) :
    FnOk P w K mg base CX0 1 f fd ["self", y] (spInit1 EB K D fld) := by
  refine ⟨fun vs H Q E h => ?_, fun A outer s H args us vs Q E hr e0 hb r h => ?_⟩
  · obtain ⟨a, C, x, rfl, _⟩ := h
    rfl
  · obtain ⟨a, C, x, rfl, T, sub, hsup, hno, e, q⟩ := h
    obtain ⟨u1, v, rfl, r1, r2⟩ := vals2 r
    obtain rfl : u1 = Value.ref a := r1
    obtain ⟨t0, ha⟩ := exo_at e0.hok e
    refine init1 S (Env0.md e0) hsm T ha sub hsup hr.depth hbody hb ky hcell hy hyd hco hgen hno (Env0.off e0 e) hE hi hs hs2 fun h' tk dx t1 k dn dne hx hn => ?_
    obtain ⟨U, O⟩ := exo_made (fs' := frs outer) (fs := [(fld, x)]) e0.hok e k dn dne hx hn (relO_put (fs := []) r2 fun g => True.intro)
    exact ⟨.non, _, rfl, e0.bare, U, O, rfl, q dx (e0.hok.fresh dn) dne⟩
/-! ### super().__init__(text) where that is a def of the program -/
/-- what a def __init__ that makes the dict does, by the heap -/
def Does1 (prog : Program) (w : World) (K : PySem.W.Frag) (mg : Str → Option Value) (A : Around) (f2 C a : Addr) (fld : Str) (v : Value) : Prop := ∀ (s1 : Shared) (t0 : Addr) (R : Result → Shared → Prop), Md K mg s1.heap → s1.heap.get? a = some (exObj C none t0) →
  (∀ h' tk dx t1, (∀ b o, b ≠ a → s1.heap.get? b = some o → h'.get? b = some o) → s1.heap.objs.size ≤ dx → dx ≠ a → h'.get? a = some (exObj C (some dx) t1) → h'.Ns1 dx (fun z => if z = fld then some v else none) → R (.ok (.ret .none)) { s1 with heap := h', toks := tk }) →
  codeAny (model prog w) A (.call (.ref f2) ⟨[.ref a, v], []⟩) R s1
theorem wpAt_supCall {body : List Stmt} {p0 p1 p2 p4 p5 : Pos} {e : Expr} {pl : Sem Bool} {m : Str → Option Value} {t0 f2 : Addr} {fld2 : Str} {Pv : Value → Prop} {Q : Flow → Shared → Prop} (S : SupFn prog K f fd D) (M : Md K mg s.heap) (hsm : mg "super" = none) (hn : s.heap.Ns L m) (hself : m "self" = some (.ref a)) (T : ExC EB K C)
    (ha : s.heap.get? a = some (exObj C none t0)) (sub : mroIn K C (.ref D) = some true) (hsup : ks_superIn K C D "__init__" = some (some (.ref f2))) (hf2 : typeIn K (.ref f2) = some (.type "function")) (hf3 : fnIn K f2 = true)
    (hcall : ∀ v, Pv v → Does1 prog w K mg A f2 C a fld2 v)
    (hev : ∀ (s1 : Shared) (Q1 : Value → Shared → Prop), s1.heap.Ns L m → (∀ v tk, Pv v → Q1 v { s1 with toks := tk }) → wpAny (model prog w) A (eval e (callEnv fd L f)) Q1 E s1)
    (he : starEach [e] (callEnv fd L f) = [(false, eval e (callEnv fd L f))])
    (hE : eval (.Call (.Attribute (.Call (.Name "super" p0) [] [] p1) "__init__" p2) [e] [] p4) (callEnv fd L f) = (do
      let ov ← attributeBase (.Call (.Name "super" p0) [] [] p1) "__init__" (callEnv fd L f) (eval (.Call (.Name "super" p0) [] [] p1) (callEnv fd L f))
      standAt p2.atName
      let (f', first) ← holding [ov] (getMethod ov "__init__" pl)
      callWith p4 f' first (backTo p4 (starEach [e] (callEnv fd L f))) []))
    (hi : interactive (callEnv fd L f) = false) (hs : swapsWith (.Call (.Attribute (.Call (.Name "super" p0) [] [] p1) "__init__" p2) [e] [] p4) none p5.line (callEnv fd L f) = pure false)
    (h : ∀ v h' tk dx t1, Pv v → (∀ b o, b ≠ a → s.heap.get? b = some o → h'.get? b = some o) → s.heap.objs.size ≤ dx → dx ≠ a → h'.get? a = some (exObj C (some dx) t1) → h'.Ns1 dx (fun z => if z = fld2 then some v else none) → Q .next { s with heap := h', toks := tk }) :
    _root_.PySem.wpAt (model prog w) A (.func body (callEnv fd L f)) (exec (.Expr (.Call (.Attribute (.Call (.Name "super" p0) [] [] p1) "__init__" p2) [e] [] p4) p5) (callEnv fd L f)) Q E s := by
  obtain ⟨nm, q, N, bs, bm, sn, sb, ab, col, dd, k0, k1, k2, k3, k5, hC, hbm⟩ := T.cls
  have X := M.kin
  refine ks_wpAt_Expr_any (ks_wpAt_MethodCall (wpAt_sup S M hsm hn hself ha rfl (fun c z => by cases z) sub fun so h1 hso k1' lso => ?_) hE) hi hs
  obtain ⟨hh, g, d, t, os⟩ := s
  have X1 : K.In h1 := X.keeps k1'
  have hcl : clsIn K C = some { name := nm, bases := bs, mro := .ref C :: bm, ns := N, qualname := q, hasDict := true, slotNames := sn, subclasses := sb, abstract := ab, collection := col, hasDel := false } := by unfold clsIn; rw [hC] <;> rfl
  have hal : alongIn K "__init__" (((.ref C :: bm : List Value).dropWhile (· != .ref D)).drop 1) = some (some (.ref f2)) := by
    unfold ks_superIn at hsup
    rw [hcl] at hsup
    exact hsup
  have hI1 : InstAt h1 a (exObj C none t0) C none := ⟨k1' _ _ ha, rfl, rfl, trivial⟩
  have hno : Looks (model prog w) h1 (opaqueClassAbove (.ref C)) none := looks_opaque X1 S.op
  have hmro : Looks (model prog w) h1 (mroOf (.ref C)) (.ref C :: bm) := fun A Q E s k q => wpAny_bind ((looks_clsIn X1 hcl) A _ E s k (wpAny_pure q))
  have haC : a ≠ C := ks_ne X1 hI1 hcl
  obtain ⟨of, hof, hofc⟩ : ∃ of, h1.get? f2 = some of ∧ of.cls = .type "function" := by
    have ht' : (K.lookup f2).map (·.cls) = some (.type "function") := hf2
    cases z : K.lookup f2 with
    | none =>
      rw [z] at ht'
      cases ht'
    | some of =>
      rw [z] at ht'
      exact ⟨of, X1 _ _ z, Option.some.inj ht'⟩
  refine ks_wpAny_getMethod_super hso hno hmro rfl X1 hal hof hofc haC (by decide) ?_
  show wpAny (model prog w) A (callWith p4 (.ref h1.objs.size) [] (backTo p4 (starEach [e] (callEnv fd L f))) []) _ E _
  rw [he]
  have k2' : ∀ y o, hh.get? y = some o → (h1.push (methodObj (.ref f2) (.ref a))).get? y = some o := fun y o z => Heap.get?_push_of_some _ (k1' y o z)
  refine callWith_of (P := MethP K h1.objs.size f2 (.ref a)) rfl (keeps_M hf3) (Calls.evalArgs_plain ?_)
  refine Calls.spliced_cons (hev _ _ (hn.keeps k2') fun v tk hv => Calls.spliced_nil ⟨⟨Heap.get?_push_at rfl rfl, X.keeps k2'⟩, ?_⟩)
  refine wpAny_call (ks_codeAny_call_bound (Heap.get?_push_at rfl rfl) ?_)
  refine hcall v hv _ t0 _ (M.keeps k2') (k2' _ _ ha) fun h' tk' dx t1 k' dn dne hx hnx => ?_
  have szm : hh.objs.size ≤ (h1.push (methodObj (.ref f2) (.ref a))).objs.size := Nat.le_trans lso (Nat.le_of_lt (Heap.lt_size (Heap.get?_push_of_some _ hso)))
  exact h v h' tk' dx t1 hv (fun b o hb z => k' b o hb (k2' b o z)) (Nat.le_trans szm dn) dne hx hnx
/-- a further field -/
theorem set_more {t0 dx : Addr} {fld : Str} {v : Value} {m0 : Str → Option Value} {nl : List Str} {Q : Unit → Shared → Prop} (X : K.In s.heap) (T : ExC EB K C) (ha : s.heap.get? a = some (exObj C (some dx) t0)) (hns : s.heap.Ns1 dx m0) (hw : Within m0 nl) (hz : nl.length ≤ 1000) (hno : findIn K (.ref C) fld = some none)
    (h : ∀ h' tk, (∀ b o, b ≠ dx → s.heap.get? b = some o → h'.get? b = some o) → h'.Ns1 dx (fun z => if z = fld then some v else m0 z) → Q () { s with heap := h', toks := tk }) :
    wpAny (model prog w) A (setAttr (.ref a) fld v) Q E s := by
  obtain ⟨nm, q, N, bs, bm, sn, sub, ab, col, dd, k0, k1, k2, k3, k5, hC, hbm⟩ := T.cls
  have hcl : clsIn K C = some { name := nm, bases := bs, mro := .ref C :: bm, ns := N, qualname := q, hasDict := true, slotNames := sn, subclasses := sub, abstract := ab, collection := col, hasDel := false } := by unfold clsIn; rw [hC] <;> rfl
  obtain ⟨hp, g, d, t, os⟩ := s
  obtain ⟨oD, _, _, hoD, _, _⟩ := hns.count hw
  refine set_plain X (ox := exObj C (some dx) t0) (od := some oD) ⟨ha, rfl, rfl, hoD⟩ T.sa ?_
  exact so_old (EB := EB) X ha hns hw hz hcl (show rowIs EB.tail (.ref C :: bm) = true from hbm) rfl rfl hno (fun h' tk' k hn => h h' tk' k hn)
/-- def __init__(self, y): super().__init__('text'); self.fld = y -/
theorem init2 {p0 p1 p2 p3 p4 p5 p6 p7 p8 p9 : Pos} {y fld fld2 x2 : Str} {j2 : Nat} {v : Value} {t0 f2 : Addr} {args : Args} {pl : Addr → Sem Bool} {R : Result → Shared → Prop} (S : SupFn prog K f fd D) (M : Md K mg s.heap) (hsm : mg "super" = none) (T : ExC EB K C)
    (ha : s.heap.get? a = some (exObj C none t0)) (sub : mroIn K C (.ref D) = some true) (hsup : ks_superIn K C D "__init__" = some (some (.ref f2))) (hf2 : typeIn K (.ref f2) = some (.type "function")) (hf3 : fnIn K f2 = true) (hroom : A.depth < recursionLimit)
    (hbody : fd.body = .stmts [.Expr (.Call (.Attribute (.Call (.Name "super" p0) [] [] p1) "__init__" p2) [.Constant (.str x2) j2 p3] [] p4) p5, .Assign [.Attribute (.Name "self" p6) fld p7] (.Name y p8) p9])
    (hcall : ∀ L tk, Does1 prog w K mg (A.deeper (callEnv fd L f)) f2 C a fld2 (.str x2 tk))
    (hbind : BindsTo s fd args [("self", .ref a), (y, v)]) (ky : fd.scope.names.lookup y = some .local) (hcell : ∀ x ∈ fd.scope.names, x.2 ≠ .cell) (hy : (y == ("self" : Str)) = false) (hyd : (y == ("__debug__" : Str)) = false)
    (hco : fd.scope.isCoroutine = false) (hgen : fd.scope.isGenerator = false) (hno : findIn K (.ref C) fld = some none) (hKa : K.lookup a = none)
    (hE : ∀ L, eval (.Call (.Attribute (.Call (.Name "super" p0) [] [] p1) "__init__" p2) [.Constant (.str x2) j2 p3] [] p4) (callEnv fd L f) = (do
      let ov ← attributeBase (.Call (.Name "super" p0) [] [] p1) "__init__" (callEnv fd L f) (eval (.Call (.Name "super" p0) [] [] p1) (callEnv fd L f))
      standAt p2.atName
      let (f', first) ← holding [ov] (getMethod ov "__init__" (pl L))
      callWith p4 f' first (backTo p4 (starEach [.Constant (.str x2) j2 p3] (callEnv fd L f))) []))
    (hi : ∀ L, interactive (callEnv fd L f) = false) (hs : ∀ L, swapsWith (.Call (.Attribute (.Call (.Name "super" p0) [] [] p1) "__init__" p2) [.Constant (.str x2) j2 p3] [] p4) none p5.line (callEnv fd L f) = pure false)
    (hs2 : ∀ L, swapsWith (.Name y p8) (some (.Attribute (.Name "self" p6) fld p7)) p9.line (callEnv fd L f) = pure false)
    (h : ∀ h' tk dx t1 tk2, (∀ b o, b ≠ a → s.heap.get? b = some o → h'.get? b = some o) → s.heap.objs.size ≤ dx → dx ≠ a → h'.get? a = some (exObj C (some dx) t1) → h'.Ns1 dx (fun z => if z = fld then some v else if z = fld2 then some (.str x2 tk2) else none) → R (.ok (.ret .none)) { s with heap := h', toks := tk }) :
    codeAny (model prog w) A (.call (.ref f) args) R s := by
  obtain ⟨oc, od, osl, lk⟩ := S.lk
  have hloc : ∀ x ∈ [(("self" : Str), Value.ref a), (y, v)], fd.scope.names.lookup x.1 = some .local := fun x hx => by
    rcases List.mem_cons.mp hx with rfl | hx
    · exact S.kself
    · rw [List.mem_singleton.mp hx]
      exact ky
  refine ks_codeAny_call_defAt hroom (M.kin _ _ lk) rfl M.lim (codeRec_of M.kin S.codeQ) hbody hbind hcell hloc (fun h₀ hns k0 => ?_) hco hgen S.kind
  have aL : a ≠ s.heap.objs.size := Nat.ne_of_lt (Heap.lt_size ha)
  have mself : (fun x : Str => ([(("self" : Str), Value.ref a), (y, v)] : List (Str × Value)).reverse.lookup x) "self" = some (.ref a) := by
    show List.lookup ("self" : Str) [(y, v), ("self", Value.ref a)] = _
    have : (("self" : Str) == y) = false := by
      rw [Bool.eq_false_iff] at hy ⊢
      exact fun e => hy (beq_iff_eq.mpr (beq_iff_eq.mp e).symm)
    simp [List.lookup, this]
  have my : (fun x : Str => ([(("self" : Str), Value.ref a), (y, v)] : List (Str × Value)).reverse.lookup x) y = some v := by
    show List.lookup y [(y, v), ("self", Value.ref a)] = _
    simp [List.lookup]
  generalize (fun x : Str => ([(("self" : Str), Value.ref a), (y, v)] : List (Str × Value)).reverse.lookup x) = m at hns mself my
  obtain ⟨hh, g, d, t, os⟩ := s
  have lL : hh.objs.size < h₀.objs.size := by
    obtain ⟨o, _, _, e, _⟩ := hns
    exact Heap.lt_size e
  refine ks_wpAt_execs_cons (wpAt_supCall (fld2 := fld2) (Pv := fun v => ∃ tk, v = .str x2 tk) S (M.keeps k0) hsm hns mself T (k0 _ _ ha) sub hsup hf2 hf3 (fun v hv => ?_) (fun s1 Q1 n1 q1 => ?_) rfl (hE _) (hi _) (hs _) fun v2 h1 tk dx t1 hv2 k1 dn dne e1 hn1 => ?_)
  · obtain ⟨tk, rfl⟩ := hv
    exact hcall _ _
  · obtain ⟨a1, a2, a3, a4, a5⟩ := s1
    exact Calls.Constant_str (q1 _ _ ⟨_, rfl⟩)
  · obtain ⟨tk2', rfl⟩ := hv2
    have n1 : h1.Ns hh.objs.size m := ns_at hns fun o z => k1 _ _ aL.symm z
    refine ks_wpAt_execs_cons (ks_wpAt_Assign_Attr (wpAt_of_wpAny (ld_loc S.kind ky n1 my ?_ hyd)) (hs2 _))
    refine ld_loc S.kind S.kself n1 mself ?_ (by decide)
    have X1 : K.In h1 := fun b o z => by
      have zb : b ≠ a := fun q => by
        rw [q, hKa] at z
        cases z
      exact k1 b o zb (k0 b o (M.kin b o z))
    refine set_more (s := ⟨h1, g, d, tk, os⟩) (nl := [fld2]) X1 T e1 hn1 (fun z hz => ?_) (by show 1 ≤ 1000; decide) hno fun h2 tk2 k2 hnx => ?_
    · by_cases q : z = fld2
      · rw [q]
        exact List.mem_singleton.mpr rfl
      · exact absurd (if_neg q) hz
    · have ne1 : ∀ b o, hh.get? b = some o → b ≠ dx := fun b o z => Nat.ne_of_lt (Nat.lt_of_lt_of_le (Nat.lt_trans (Heap.lt_size z) lL) dn)
      refine wpAt_of_wpAny (wpAny_pure ?_)
      exact h h2 tk2 dx t1 _ (fun b o hb z => k2 b o (ne1 b o z) (k1 b o hb (k0 b o z))) (Nat.le_trans (Nat.le_of_lt lL) dn) dne (k2 a _ dne.symm e1) hnx
end
end Fk
namespace Fk
open PySem PySem.Spec PyProof.Rows L2
section
open PySem.W
variable {EB : EBase} {P : Program} {w : World} {A : Around} {E : Value → Shared → Prop} {s : Shared} {K : PySem.W.Frag} {mg : Str → Option Value} {base : Heap} {f D C a L : Addr} {fd : FuncData}
/-- what __init__ of the class C promises: the fields -/
def spI (C : Addr) (mk : V → List (Str × V)) : Sp := fun vs H Q _ => ∃ (a : Addr) (x : V), vs = [.ref a, x] ∧ H a = some (exo a C none) ∧ ∀ dx, H dx = none → dx ≠ a → Q .non (upd (upd H dx (exd dx (mk x))) a (exo a C (some dx)))
/-- a class, the def's class D, its field: what the plain __init__ asks -/
structure In1 (EB : EBase) (K : PySem.W.Frag) (C D : Addr) (fld : Str) : Prop where
  c : ExC EB K C
  sub : mroIn K C (.ref D) = some true
  sup : ks_superIn K C D "__init__" = some (some (.builtin EB.ini))
  no : findIn K (.ref C) fld = some none
/-- the shape of such a def -/
structure De1 (fd : FuncData) (y fld : Str) : Prop where
  body : ∃ (p0 p1 p2 p3 p4 p5 p6 p7 p8 p9 : Pos) (pl : Addr → Addr → Sem Bool), fd.body = .stmts [.Expr (.Call (.Attribute (.Call (.Name "super" p0) [] [] p1) "__init__" p2) [.Name y p3] [] p4) p5, .Assign [.Attribute (.Name "self" p6) fld p7] (.Name y p8) p9] ∧ ∀ (f L : Addr), eval (.Call (.Attribute (.Call (.Name "super" p0) [] [] p1) "__init__" p2) [.Name y p3] [] p4) (callEnv fd L f) = (do
      let ov ← attributeBase (.Call (.Name "super" p0) [] [] p1) "__init__" (callEnv fd L f) (eval (.Call (.Name "super" p0) [] [] p1) (callEnv fd L f))
      standAt p2.atName
      let (f', first) ← holding [ov] (getMethod ov "__init__" (pl f L))
      callWith p4 f' first (backTo p4 (starEach [.Name y p3] (callEnv fd L f))) [])
  ky : fd.scope.names.lookup y = some .local
  cell : ∀ x ∈ fd.scope.names, x.2 ≠ .cell
  hy : (y == ("self" : Str)) = false
  hyd : (y == ("__debug__" : Str)) = false
  co : fd.scope.isCoroutine = false
  gen : fd.scope.isGenerator = false
theorem inter_no (h : fd.scope.kind = .function) : interactive (callEnv fd L f) = false := by
  show (fd.scope.kind == .module && _) = false
  rw [h]
  rfl
theorem run1 {y fld : Str} {v : Value} {t0 : Addr} {args : Args} {R : Result → Shared → Prop} (S : SupFn P K f fd D) (De : De1 fd y fld) (M : Md K mg s.heap) (hsm : mg "super" = none) (T : In1 EB K C D fld)
    (ha : s.heap.get? a = some (exObj C none t0)) (hroom : A.depth < recursionLimit) (hbind : BindsTo s fd args [("self", .ref a), (y, v)]) (hKa : K.lookup a = none)
    (h : ∀ h' tk dx t1, (∀ b o, b ≠ a → s.heap.get? b = some o → h'.get? b = some o) → s.heap.objs.size ≤ dx → dx ≠ a → h'.get? a = some (exObj C (some dx) t1) → h'.Ns1 dx (fun z => if z = fld then some v else none) → R (.ok (.ret .none)) { s with heap := h', toks := tk }) :
    codeAny (model P w) A (.call (.ref f) args) R s := by
  obtain ⟨p0, p1, p2, p3, p4, p5, p6, p7, p8, p9, pl, hbody, hev⟩ := De.body
  exact init1 S M hsm T.c ha T.sub T.sup hroom hbody hbind De.ky De.cell De.hy De.hyd De.co De.gen T.no hKa (fun L => hev f L) (fun L => inter_no S.kind) (fun L => rfl) (fun L => rfl) h
theorem ini1 {y fld : Str} (S : SupFn P K f fd D) (De : De1 fd y fld) (hsm : mg "super" = none) (T : In1 EB K C D fld) : FnOk P w K mg base CX0 1 f fd ["self", y] (spI C fun x => [(fld, x)]) := by
  refine ⟨fun vs H Q E h => ?_, fun A outer s H args us vs Q E hr e0 hb r h => ?_⟩
  · obtain ⟨a, x, rfl, _⟩ := h
    rfl
  · obtain ⟨a, x, rfl, e, q⟩ := h
    obtain ⟨u1, v, rfl, r1, r2⟩ := vals2 r
    obtain rfl : u1 = Value.ref a := r1
    obtain ⟨t0, ha⟩ := exo_at e0.hok e
    refine run1 S De (Env0.md e0) hsm T ha hr.depth hb (Env0.off e0 e) fun h' tk dx t1 k dn dne hx hn => ?_
    obtain ⟨U, O⟩ := exo_made (fs' := frs outer) (fs := [(fld, x)]) e0.hok e k dn dne hx hn (relO_put (fs := []) r2 fun g => True.intro)
    exact ⟨.non, _, rfl, e0.bare, U, O, rfl, q dx (e0.hok.fresh dn) dne⟩
/-- __init__ that says super().__init__('text') to such a def -/
structure De2 (fd : FuncData) (y fld x2 : Str) : Prop where
  body : ∃ (p0 p1 p2 p3 : Pos) (j : Nat) (p4 p5 p6 p7 p8 p9 : Pos) (pl : Addr → Addr → Sem Bool), fd.body = .stmts [.Expr (.Call (.Attribute (.Call (.Name "super" p0) [] [] p1) "__init__" p2) [.Constant (.str x2) j p3] [] p4) p5, .Assign [.Attribute (.Name "self" p6) fld p7] (.Name y p8) p9] ∧ ∀ (f L : Addr), eval (.Call (.Attribute (.Call (.Name "super" p0) [] [] p1) "__init__" p2) [.Constant (.str x2) j p3] [] p4) (callEnv fd L f) = (do
      let ov ← attributeBase (.Call (.Name "super" p0) [] [] p1) "__init__" (callEnv fd L f) (eval (.Call (.Name "super" p0) [] [] p1) (callEnv fd L f))
      standAt p2.atName
      let (f', first) ← holding [ov] (getMethod ov "__init__" (pl f L))
      callWith p4 f' first (backTo p4 (starEach [.Constant (.str x2) j p3] (callEnv fd L f))) [])
  ky : fd.scope.names.lookup y = some .local
  cell : ∀ x ∈ fd.scope.names, x.2 ≠ .cell
  hy : (y == ("self" : Str)) = false
  hyd : (y == ("__debug__" : Str)) = false
  co : fd.scope.isCoroutine = false
  gen : fd.scope.isGenerator = false
structure In2 (EB : EBase) (K : PySem.W.Frag) (C D D2 f2 : Addr) (fld fld2 : Str) : Prop where
  i : In1 EB K C D2 fld2
  sub : mroIn K C (.ref D) = some true
  sup : ks_superIn K C D "__init__" = some (some (.ref f2))
  ty : typeIn K (.ref f2) = some (.type "function")
  fn : fnIn K f2 = true
  no : findIn K (.ref C) fld = some none
theorem ini2 {D2 f2 : Addr} {fd2 : FuncData} {y y2 fld fld2 x2 : Str} (S : SupFn P K f fd D) (De : De2 fd y fld x2) (S2 : SupFn P K f2 fd2 D2) (Db : De1 fd2 y2 fld2) (hb2 : ∀ (s : Shared) (a v : Value), K.In s.heap → BindsTo s fd2 ⟨[a, v], []⟩ [("self", a), (y2, v)])
    (hsm : mg "super" = none) (T : In2 EB K C D D2 f2 fld fld2) : FnOk P w K mg base CX0 2 f fd ["self", y] (spI C fun x => [(fld, x), (fld2, .str x2)]) := by
  refine ⟨fun vs H Q E h => ?_, fun A outer s H args us vs Q E hr e0 hb r h => ?_⟩
  · obtain ⟨a, x, rfl, _⟩ := h
    rfl
  · obtain ⟨a, x, rfl, e, q⟩ := h
    obtain ⟨u1, v, rfl, r1, r2⟩ := vals2 r
    obtain rfl : u1 = Value.ref a := r1
    obtain ⟨t0, ha⟩ := exo_at e0.hok e
    obtain ⟨p0, p1, p2, p3, j, p4, p5, p6, p7, p8, p9, pl, hbody, hev⟩ := De.body
    refine init2 (fld2 := fld2) S (Env0.md e0) hsm T.i.c ha T.sub T.sup T.ty T.fn hr.depth hbody (fun L tk => ?_) hb De.ky De.cell De.hy De.hyd De.co De.gen T.no (Env0.off e0 e) (fun L => hev f L) (fun L => inter_no S.kind) (fun L => rfl) (fun L => rfl) fun h' tk dx t1 tk2 k dn dne hx hn => ?_
    · intro s1 t1 R M1 ha1 h1
      exact run1 S2 Db M1 hsm T.i ha1 (Room.depth (hr.deeper _)) (hb2 s1 _ _ M1.kin) (Env0.off e0 e) h1
    · obtain ⟨U, O⟩ := exo_made (fs' := frs outer) (fs := [(fld, x), (fld2, .str x2)]) e0.hok e k dn dne hx hn (relO_put (fs := [(fld2, .str x2)]) r2 (relO_put (fs := []) ⟨tk2, rfl⟩ fun g => True.intro))
      exact ⟨.non, _, rfl, e0.bare, U, O, rfl, q dx (e0.hok.fresh dn) dne⟩
/-! ### C(..) as a value -/
/-- what is said of the class C, its __init__ and their promise -/
structure Mkr (P : Program) (w : World) (K : PySem.W.Frag) (mg : Str → Option Value) (base : Heap) (C : Addr) (y : Str) (mk : V → List (Str × V)) : Prop where
  ex : ∃ (EB : EBase) (fI : Addr) (fd : FuncData), ExC EB K C ∧ findIn K (.ref C) "__init__" = some (some (.ref fI)) ∧ typeIn K (.ref fI) = some (.type "function") ∧ FnOk P w K mg base CX0 2 fI fd ["self", y] (spI C mk) ∧
    (∀ (s : Shared) (a v : Value), K.In s.heap → BindsTo s fd ⟨[a, v], []⟩ [("self", a), (y, v)]) ∧ ∀ (s : Shared) (a v : Value), K.In s.heap → BindsTo s fd ⟨[a], [(y, v)]⟩ [("self", a), (y, v)]
/-- .. that may be called without an argument -/
structure Mk0 (P : Program) (w : World) (K : PySem.W.Frag) (mg : Str → Option Value) (base : Heap) (C : Addr) (y : Str) (mk : V → List (Str × V)) (dv : V) : Prop where
  ex : ∃ (EB : EBase) (fI : Addr) (fd : FuncData) (d : Value), ExC EB K C ∧ findIn K (.ref C) "__init__" = some (some (.ref fI)) ∧ typeIn K (.ref fI) = some (.type "function") ∧ FnOk P w K mg base CX0 2 fI fd ["self", y] (spI C mk) ∧
    RelV dv d ∧ ∀ (s : Shared) (a : Value), K.In s.heap → BindsTo s fd ⟨[a], []⟩ [("self", a), (y, d)]
theorem upd3 {H : Hp} {a dx : Addr} {o e u : HO} (h : dx ≠ a) : upd (upd (upd H a o) dx e) a u = upd (upd H dx e) a u := by
  funext b
  by_cases hb : b = a
  · rw [hb, upd_same, upd_same]
  · rw [upd_ne hb, upd_ne hb]
    by_cases hd : b = dx
    · rw [hd, upd_same, upd_same]
    · rw [upd_ne hd, upd_ne hd, upd_ne hb]
theorem run_ex {X : Cx} {pins : List (Addr × Obj)} {σ : L2.St} {H : Hp} {Q : Value → Shared → Prop} {y : Str} {mk : V → List (Str × V)} {fI : Addr} {us : List Value} {kw : List (Str × Value)} {x : V} {v : Value} (T : ExC EB X.K C) (iC : findIn X.K (.ref C) "__init__" = some (some (.ref fI))) (tI : typeIn X.K (.ref fI) = some (.type "function"))
    (F1 : FnOk X.prog X.w X.K X.mg X.base CX0 2 fI fd ["self", y] (spI C mk)) (hr : Room 3 X.A) (hb : ∀ (s : Shared) (a : Value), X.K.In s.heap → BindsTo s fd ⟨a :: us, kw⟩ [("self", a), (y, v)]) (rv : RelV x v) (hl : us.length ≤ 10) (I : Inv X pins σ H s)
    (h : ∀ (s' : Shared) (a dx : Addr), s.heap.objs.size ≤ a → H a = none → H dx = none → dx ≠ a → (∃ hp2, (∀ b o, s.heap.get? b = some o → hp2.get? b = some o) ∧ Un (frs X.stack) [] (upd H a (exo a C none)) (upd (upd H dx (exd dx (mk x))) a (exo a C (some dx))) hp2 s'.heap) → HOk X.prog X.w (upd (upd H dx (exd dx (mk x))) a (exo a C (some dx))) s'.heap →
      s'.os = s.os → AllBare s'.gens → Inv X pins σ (upd (upd H dx (exd dx (mk x))) a (exo a C (some dx))) s' → Q (.ref a) s') : wpAny (model X.prog X.w) X.A (call (.ref C) us kw) Q X.xe s := by
  obtain ⟨nm, q, N, bs, bm, sn, sub, ab, col, dd, k0, k1, k2, k3, k5, hC, hbm⟩ := T.cls
  obtain ⟨i0, tl0, fb⟩ := EB.fn
  obtain ⟨hp, g, dr, tk, os⟩ := s
  have hsz : hp.objs.size ≤ hp.objs.size + 1 := Nat.le_succ _
  have hn : H (hp.objs.size + 1) = none := I.hok.fresh hsz
  have kk : ∀ b o, hp.get? b = some o → ((hp.push (PySem.W.kdv_tup us)).push (PySem.HandSPX.excO C hp.objs.size)).get? b = some o := fun b o e => Heap.get?_push_of_some _ (Heap.get?_push_of_some _ e)
  have hget : ((hp.push (PySem.W.kdv_tup us)).push (PySem.HandSPX.excO C hp.objs.size)).get? (hp.objs.size + 1) = some (PySem.HandSPX.excO C hp.objs.size) := by heap_get
  have I2 : Inv X pins σ (upd H (hp.objs.size + 1) (exo (hp.objs.size + 1) C none)) ⟨(hp.push (PySem.W.kdv_tup us)).push (PySem.HandSPX.excO C hp.objs.size), g, dr, tk, os⟩ :=
    I.laid (t' := tk) (a := hp.objs.size + 1) (o := exo (hp.objs.size + 1) C none) (h' := (hp.push (PySem.W.kdv_tup us)).push (PySem.HandSPX.excO C hp.objs.size)) kk hsz (exo_ok hget)
  have hT : bm.contains (.type EB.nb) = true ∧ bm.contains (.type "AttributeError") = false ∧ bm.contains (.type "NameError") = false := ⟨(tl_has _ _ hbm).trans EB.has, (tl_has _ _ hbm).trans EB.noA, (tl_has _ _ hbm).trans EB.noN⟩
  have hus : us.length ≤ sizeLine := by
    rw [sizeLine_eq]
    omega
  refine wpAny_call (cl_own fb hT (I.kIn _ _ hC) (PySem.W.looks_findIn I.kIn iC) (fun self => PySem.W.bind_fn I.kIn self tI) hus
    (codeAny_mono (F1.run _ X.stack _ _ ⟨Value.ref (hp.objs.size + 1) :: us, kw⟩ [Value.ref (hp.objs.size + 1), v] [V.ref (hp.objs.size + 1), x] (fun r H2 => r = .non ∧ ∃ dx, H dx = none ∧ dx ≠ hp.objs.size + 1 ∧ H2 = upd (upd H dx (exd dx (mk x))) (hp.objs.size + 1) (exo (hp.objs.size + 1) C (some dx))) (fun _ _ _ => False) (hr.make C us kw) (I2.env0.make C us kw) (hb _ _ I2.kIn) (.cons rfl (.cons rv .nil)) ⟨_, x, rfl, upd_same, fun dx h1 h2 => ⟨rfl, dx, by rw [upd_ne h2] at h1; exact h1, h2, upd3 h2⟩⟩) fun r s' hq' => ?_))
  cases r with
  | error er => exact hq'.elim
  | ok fl =>
    cases fl with
    | ret u =>
      have I3 := I2.after hq'
      obtain ⟨v', H2, os2, bare2, un2, hok2, rv', ev, dx, h1, h2, rfl⟩ := hq'
      subst ev
      obtain ⟨v3, H3, J, r3, ev3, dx3, h13, h23, e3⟩ := I3
      refine ⟨rv', h s' (hp.objs.size + 1) dx hsz hn h1 h2 ⟨_, kk, un2⟩ hok2 os2 bare2 ?_⟩
      obtain ⟨hh, g2, d2, t2, os'⟩ := s'
      obtain rfl : os' = os := os2
      exact I2.call (h' := hh) (g' := g2) (d' := d2) (t' := t2) (ch := []) un2 hok2 bare2 (fun b z => absurd z (by simp))
    | next => exact False.elim hq'
    | brk => exact False.elim hq'
    | cont => exact False.elim hq'
end
/-- C(e) | C(k = e) | C(), a new exception -/
def tMkE (C : Addr) (mk : V → List (Str × V)) (ta : TA) : TE := fun σ H Q => ta σ H fun vs H1 => ∃ x, vs = [x] ∧ ∀ a dx, H1 a = none → H1 dx = none → dx ≠ a → Q (.ref a) (upd (upd H1 dx (exd dx (mk x))) a (exo a C (some dx)))
section
variable {X : Cx} {x y : Str} {p pos kp : Pos} {e : Expr} {te : TE} {C : Addr} {mk : V → List (Str × V)} {dv : V}
theorem pe_mkE (M : Mkr X.prog X.w X.K X.mg X.base C y mk) (hr : Room 3 X.A) (hg : Gl X x) (hm : X.mg x = some (.ref C)) (he : PE X e te) (hdb : (x == ("__debug__" : Str)) = false := by decide)
    (hse : starEach [e] X.env = [(false, eval e X.env)] := by rfl) : PE X (.Call (.Name x p) [e] [] pos) (tMkE C mk (tCons te tNil)) := by
  obtain ⟨EB, fI, fd, T, iC, tI, F1, b1, b2⟩ := M.ex
  refine ⟨fun pins s σ H Q I h => ?_⟩
  refine wpAny_Call_Name_kw (ld_glob I hg hm ?_ hdb)
  have ha : PA X [e] (tCons te tNil) := pa_cons he pa_nil hse
  refine PySem.W.callWith_K (h₀ := X.base) I.ok.mod.kin T.kC (thn (ha.run pos pins s σ H (fun vs H1 => ∃ z, vs = [z] ∧ ∀ a dx, H1 a = none → H1 dx = none → dx ≠ a → Q (.ref a) (upd (upd H1 dx (exd dx (mk z))) a (exo a C (some dx)))) I h) fun us s1 ⟨vs, H1, I1, r1, z, ez, q1⟩ => ⟨I1.kIn, ?_⟩) hse rfl
  subst ez
  obtain ⟨v, rfl, rv⟩ := vals1 r1
  exact run_ex T iC tI F1 hr (fun s a k => b1 s a v k) rv (by show 1 ≤ 10; decide) I1 fun s' a dx _ h1 h2 h3 _ _ _ _ J => ⟨.ref a, _, J, rfl, q1 a dx h1 h2 h3⟩
theorem pe_mkEk (M : Mkr X.prog X.w X.K X.mg X.base C y mk) (hr : Room 3 X.A) (hg : Gl X x) (hm : X.mg x = some (.ref C)) (he : PE X e te) (hdb : (x == ("__debug__" : Str)) = false := by decide) :
    PE X (.Call (.Name x p) [] [⟨some y, e, kp⟩] pos) (tMkE C mk (tCons te tNil)) := by
  obtain ⟨EB, fI, fd, T, iC, tI, F1, b1, b2⟩ := M.ex
  refine ⟨fun pins s σ H Q I h => ?_⟩
  refine wpAny_Call_Name_kw (ld_glob I hg hm ?_ hdb)
  have ha : PK X [⟨some y, e, kp⟩] (tCons te tNil) := pk_cons he pk_nil
  refine PySem.W.callWith_KW0 (h₀ := X.base) I.ok.mod.kin T.kC rfl (thn (ha.run pos pins s σ H (fun vs H1 => ∃ z, vs = [z] ∧ ∀ a dx, H1 a = none → H1 dx = none → dx ≠ a → Q (.ref a) (upd (upd H1 dx (exd dx (mk z))) a (exo a C (some dx)))) I h) fun us s1 ⟨vs, H1, I1, r1, z, ez, q1⟩ => ⟨I1.kIn, ?_⟩)
  subst ez
  obtain ⟨v, rfl, rv⟩ := vals1 r1
  show wpAny _ _ (call (.ref C) [] [(y, v)]) _ _ _
  exact run_ex T iC tI F1 hr (fun s a k => b2 s a v k) rv (by show 0 ≤ 10; decide) I1 fun s' a dx _ h1 h2 h3 _ _ _ _ J => ⟨.ref a, _, J, rfl, q1 a dx h1 h2 h3⟩
theorem pe_mkE0 (M : Mk0 X.prog X.w X.K X.mg X.base C y mk dv) (hr : Room 3 X.A) (hg : Gl X x) (hm : X.mg x = some (.ref C)) (hdb : (x == ("__debug__" : Str)) = false := by decide) :
    PE X (.Call (.Name x p) [] [] pos) (tMkE C mk fun σ H Q => Q [dv] H) := by
  obtain ⟨EB, fI, fd, d, T, iC, tI, F1, rv, b1⟩ := M.ex
  refine ⟨fun pins s σ H Q I h => ?_⟩
  refine wpAny_Call_Name_kw (ld_glob I hg hm ?_ hdb)
  refine PySem.W.callWith_K0 I.kIn T.kC ?_
  obtain ⟨z, ez, q1⟩ := h
  obtain rfl : dv = z := (List.cons.inj ez).1
  exact run_ex (us := []) T iC tI F1 hr (fun s a k => b1 s a k) rv (by show 0 ≤ 10; decide) I fun s' a dx _ h1 h2 h3 _ _ _ _ J => ⟨.ref a, _, J, rfl, q1 a dx h1 h2 h3⟩
/-- the same, raised -/
def tMkX (C : Addr) (mk : V → List (Str × V)) (ta : TA) : L2.St → Hp → XK → Prop := fun σ H Q => ta σ H fun vs H1 => ∃ x, vs = [x] ∧ ∀ dx, H1 dx = none → Q (.ref C) (some dx) (upd H1 dx (.xd (mk x)))
theorem pmk_ex1 (M : Mkr X.prog X.w X.K X.mg X.base C y mk) (hr : Room 3 X.A) (hg : Gl X x) (hm : X.mg x = some (.ref C)) (he : PE X e te) (hdb : (x == ("__debug__" : Str)) = false := by decide)
    (hse : starEach [e] X.env = [(false, eval e X.env)] := by rfl) : PMk X (.Call (.Name x p) [e] [] pos) (tMkX C mk (tCons te tNil)) := by
  obtain ⟨EB, fI, fd, T, iC, tI, F1, b1, b2⟩ := M.ex
  intro pins s σ H Q I h
  refine wpAny_Call_Name_kw (ld_glob I hg hm ?_ hdb)
  have ha : PA X [e] (tCons te tNil) := pa_cons he pa_nil hse
  refine PySem.W.callWith_K (h₀ := X.base) I.ok.mod.kin T.kC (thn (ha.run pos pins s σ H (fun vs H1 => ∃ z, vs = [z] ∧ ∀ dx, H1 dx = none → Q (.ref C) (some dx) (upd H1 dx (.xd (mk z)))) I h) fun us s1 ⟨vs, H1, I1, r1, z, ez, q1⟩ => ⟨I1.kIn, ?_⟩) hse rfl
  subst ez
  obtain ⟨v, rfl, rv⟩ := vals1 r1
  refine run_ex T iC tI F1 hr (fun s a k => b1 s a v k) rv (by show 1 ≤ 10; decide) I1 fun s' a dx ha h1 h2 h3 hu hok ho hbr J => ?_
  obtain ⟨hp2, kk, un⟩ := hu
  obtain ⟨hp, g, dr, tk, os⟩ := s1
  obtain ⟨hp', g', dr', tk', os'⟩ := s'
  have e1 : (upd (upd H1 dx (exd dx (mk z))) a (exo a C (some dx))) dx = some (exd dx (mk z)) := by rw [upd_ne h3, upd_same]
  refine mk_end (raises_own T.exC T.tyC) I1 ha kk un hok ho hbr upd_same e1 h2 ?_
  have e2 : upd (del (upd (upd H1 dx (exd dx (mk z))) a (exo a C (some dx))) a) dx (.xd (mk z)) = upd H1 dx (.xd (mk z)) := by
    funext b
    by_cases hb : b = dx
    · rw [hb, upd_same, upd_same]
    · rw [upd_ne hb, upd_ne hb]
      by_cases hba : b = a
      · rw [hba, del_same, h1]
      · rw [del_ne hba, upd_ne hba, upd_ne hb]
  rw [e2]
  exact q1 dx h2
end
end Fk
namespace Fk
open PySem PySem.Spec PyProof.Rows L2
/-- isinstance(e, c), e an exception that is held as a value -/
def rIsX (K : PySem.W.Frag) : List V → Hp → VK → Prop := fun xs H Q => ∃ (a D dx : Addr) (fs : List (Str × V)) (c : V) (u : Value) (b : Bool), xs = [.ref a, c] ∧ H a = some (exo a D (some dx)) ∧ H dx = some (exd dx fs) ∧ ExcC K D ∧ ClsV c u ∧ PySem.W.kitOne K (.ref D) u = some b ∧ Q (.bl b) H
theorem cls_some {K : PySem.W.Frag} {D : Addr} (T : ExcC K D) : (PySem.W.clsIn K D).isSome = true := by
  obtain ⟨cd, hc, _⟩ := PySem.W.any_some T.hd
  rw [hc]
  rfl
theorem call_isX {X : Cx} : CallR X (.builtin "isinstance") (rIsX X.K) := by
  intro pins s σ H xs us Q I r h
  obtain ⟨a, D, dx, fs, c, u, b, rfl, ea, ed, T, k, e, q⟩ := h
  obtain ⟨u1, u2, rfl, r1, r2⟩ := vals2 r
  have e2 := k.eq r2
  subst e2
  cases (show u1 = Value.ref a from r1)
  obtain ⟨t1, ha⟩ := exo_at I.hok ea
  obtain ⟨mA, hns, _⟩ := exd_at I.hok ed
  obtain ⟨od, es, ep, ho, _⟩ := hns
  have J : PySem.W.InstAt s.heap a (exObj D (some dx) t1) D (some od) := ⟨ha, rfl, rfl, ho⟩
  exact PySem.W.kia_one (PySem.W.kitx_exc (cls_some T) T.hg T.hk T.hs T.ha T.hn T.ht T.hm) I.kIn J e (fun z => nomatch z) fun tk => ⟨.bl b, H, I.tok tk, rfl, q⟩
/-- e.f of such an exception -/
def tFx (K : PySem.W.Frag) (f : Str) (te : TE) : TE := fun σ H Q => te σ H fun x H1 => ∃ (a D dx : Addr) (fs : List (Str × V)) (v : V), x = .ref a ∧ H1 a = some (exo a D (some dx)) ∧ H1 dx = some (exd dx fs) ∧ XfC K D ∧ PySem.W.findIn K (.ref D) f = some none ∧ fs.lookup f = some v ∧ Q v H1
theorem pe_fx {X : Cx} {e : Expr} {te : TE} {pos : Pos} {f : Str} (he : PE X e te) (hb : attributeBase e f X.env (eval e X.env) = eval e X.env := by rfl) : PE X (.Attribute e f pos) (tFx X.K f te) := by
  refine ⟨fun pins s σ H Q I h => ?_⟩
  refine attr_of hb (thn (he.run pins s σ H _ I h) fun u s1 hh => ?_)
  obtain ⟨x, H1, I1, rx, a, D, dx, fs, v, ex, ea, ed, T, hno, l, q⟩ := hh
  subst ex
  obtain rfl : u = Value.ref a := rx
  obtain ⟨t1, ha⟩ := exo_at I1.hok ea
  obtain ⟨mA, hns, hr⟩ := exd_at I1.hok ed
  obtain ⟨od, ho, hl⟩ := lookIn_ns hns
  obtain ⟨u, hu, ru⟩ := RelO.some_of (v := v) (o := mA f) (by rw [← l]; exact hr f)
  have J : PySem.W.InstAt s1.heap a (exObj D (some dx) t1) D (some od) := ⟨ha, rfl, rfl, ho⟩
  exact HandSPX.exc_get I1.kIn J T.ga T.gg T.exC (PySem.W.findObj_own T.hdC hno rfl (by rw [hl, hu])) (handed_of ru) ⟨v, H1, I1.tok _, ru, q⟩
/-- isinstance(e, (c1, ..)), e the exception that the suite holds -/
def rIsS (K : PySem.W.Frag) (a : Addr) (cls : Value) (d : Option Addr) : List V → Hp → VK → Prop := fun xs H Q => ∃ (D tp dx : Addr) (fs : List (Str × V)) (cs : List V) (us : List Value) (b : Bool), xs = [.ref a, .ref tp] ∧ cls = .ref D ∧ ExcC K D ∧ d = some dx ∧ H dx = some (.xd fs) ∧ H tp = some (.tup cs) ∧ Paired ClsV cs us ∧ PySem.W.kitAny K (.ref D) us = some b ∧ Q (.bl b) H
theorem call_isS {X : Cx} {a : Addr} {oe : Obj} {cls : Value} {d : Option Addr} {pn : List (Addr × Obj)} (hz : Zc cls d oe) (hf : ∃ vs, oe.data = .fields vs) : CallR (X.suite a ((a, oe) :: pn)) (.builtin "isinstance") (rIsS X.K a cls d) := by
  intro pins s σ H xs us Q I r h
  obtain ⟨D, tp, dx, fs, cs, ws, b, rfl, rfl, T, rfl, ed, hT, k, e, q⟩ := h
  obtain ⟨u1, u2, rfl, r1, r2⟩ := vals2 r
  cases (show u1 = Value.ref a from r1)
  cases (show u2 = Value.ref tp from r2)
  obtain ⟨ha, _⟩ := I.pin (a, oe) (List.mem_append_left _ List.mem_cons_self)
  obtain ⟨vs, hd⟩ := hf
  have hx : ObjOk X.prog X.w H s.heap dx (.xd fs) := I.hok dx _ ed
  obtain ⟨mA, hns, _⟩ := hx
  obtain ⟨od, es, ep, ho, _⟩ := hns
  have J : PySem.W.InstAt s.heap a oe D (some od) := ⟨ha, hz.1, by unfold PySem.W.notCls; rw [hd] <;> rfl, by rw [hz.2]; exact ho⟩
  obtain ⟨_, its, rv, o, h1, h2, n, h3⟩ := (show ObjOk X.prog X.w H s.heap tp (.tup cs) from I.hok tp _ hT)
  have e3 := ClsV.all k rv
  subst e3
  obtain ⟨oc, od', dt, sl⟩ := o
  simp only at h2 h3
  subst h2 h3
  exact PySem.W.kia_tup (PySem.W.kitx_exc (cls_some T) T.hg T.hk T.hs T.ha T.hn T.ht T.hm) I.kIn J h1 e (fun z => nomatch z) fun tk => ⟨.bl b, H, I.tok tk, rfl, q⟩
end Fk
namespace Fk
open PySem PySem.Spec PyProof.Rows L2
/-! ### __init__ defs that say super() -/
abbrev IniW : Type := Option (Str × Arguments × FuncBody × Scope × Addr × Addr)
def fI (K : PySem.W.Frag) (c : Str) : Addr := He.fAd K (c, some "__init__")
def iniW (K : PySem.W.Frag) (c : Str) : IniW := match K.lookup (fI K c) with
  | some ⟨_, _, .func fd, _⟩ => some (fd.qualname, fd.params, fd.body, fd.scope, fd.globals, fd.builtins)
  | _ => none
structure IniD where
  cls : Str
  qual : Str
  params : Arguments
  body : List Stmt
  scope : Scope
  dfl : List He.Dv := []
def IniD.val (d : IniD) : IniW := some (d.qual, d.params, .stmts d.body, d.scope, mainGlobals, builtinsNs)
def cellB (K : PySem.W.Frag) (D : Addr) : List (Str × Addr) → Bool
  | [(n, cc)] => decide (n = "__class__") && (match K.lookup cc with
    | some ⟨_, _, .cell (some (.ref D')), _⟩ => decide (D' = D)
    | _ => false)
  | _ => false
def fileB (K : PySem.W.Frag) (file : Str) : Value → Bool
  | .ref cda => (match K.lookup cda with
    | some ⟨_, _, .fields vs, _⟩ => (match (vs : Array Value)[2]? with
      | some (Value.str fl _) => file == fl
      | _ => false)
    | _ => false)
  | _ => false
def IniD.ok (file : Str) (K : PySem.W.Frag) (d : IniD) : Bool := match K.lookup (fI K d.cls) with
  | some ⟨_, _, .func fd, _⟩ => PySem.W.codeIn K fd.code d.qual && (He.dflB K fd.defaults (d.dfl.map (He.Dv.v K)) && (cellB K (He.ga K d.cls) fd.closure && (fileB K file fd.code && ((PySem.W.clsIn K (He.ga K d.cls)).isSome && decide (PySem.W.nsIn K cStatics "thirdparty.any" = some none)))))
  | _ => false
theorem cellB_ok {K : PySem.W.Frag} {D : Addr} {l : List (Str × Addr)} (h : cellB K D l = true) : ∃ cc cl cld csl, l = [(("__class__" : Str), cc)] ∧ K.lookup cc = some ⟨cl, cld, .cell (some (.ref D)), csl⟩ := by
  unfold cellB at h
  split at h
  · rename_i n cc
    rw [Bool.and_eq_true] at h
    obtain ⟨h1, h2⟩ := h
    split at h2
    · rename_i c d D' sl e
      rw [of_decide_eq_true h1, ← of_decide_eq_true h2]
      exact ⟨_, _, _, _, rfl, e⟩
    · cases h2
  · cases h
theorem fileB_ok {K : PySem.W.Frag} {file : Str} {v : Value} (h : fileB K file v = true) : ∃ cda ccl cdd ccs vs fl tf, v = .ref cda ∧ K.lookup cda = some ⟨ccl, cdd, .fields vs, ccs⟩ ∧ vs[2]? = some (.str fl tf) ∧ (file == fl) = true := by
  unfold fileB at h
  split at h
  · split at h
    · split at h
      · rename_i e1 _ fl tf e2
        exact ⟨_, _, _, _, _, _, _, rfl, e1, e2, h⟩
      · cases h
    · cases h
  · cases h
/-- what is asked of such a def's scope -/
structure ScI (sc : Scope) (params : Arguments) (y : Str) : Prop where
  ks : sc.names.lookup ("super" : Str) = some .globalImplicit
  kc : sc.names.lookup ("__class__" : Str) = some .free
  kself : sc.names.lookup ("self" : Str) = some .local
  ky : sc.names.lookup y = some .local
  kind : sc.kind = .function
  co : sc.isCoroutine = false
  gen : sc.isGenerator = false
  cell : (sc.names.all fun x => decide (x.2 ≠ .cell)) = true
  par : ∃ ar, (params.posonlyargs ++ params.args).head? = some ar ∧ ar.arg = "self"
  hy : (y == ("self" : Str)) = false
  hyd : (y == ("__debug__" : Str)) = false
/-- the def, its facts -/
theorem IniD.get {P : Program} {K : PySem.W.Frag} {d : IniD} {y : Str} (e : iniW K d.cls = d.val) (c : d.ok P.main.file K = true) (S : ScI d.scope d.params y) (top : (P.main.scope.names.lookup ("super" : Str)).isSome = false) :
    ∃ fd, SupFn P K (fI K d.cls) fd (He.ga K d.cls) ∧ (∃ n1 clo dV n9 n10 n11 n12 n13 n14, fd = ⟨n1, d.qual, d.params, .stmts d.body, d.scope, mainGlobals, clo, dV, n9, n10, n11, n12, n13, n14, builtinsNs⟩ ∧ DflV K dV (d.dfl.map (He.Dv.v K))) := by
  unfold iniW at e
  unfold IniD.ok at c
  cases q : K.lookup (fI K d.cls) with
  | none =>
    rw [q] at c
    cases c
  | some o =>
    obtain ⟨oc, od, dt, osl⟩ := o
    rw [q] at c e
    cases dt with
    | func fd =>
      obtain ⟨n1, n2, n3, n4, n5, n6, n7, n8, n9, n10, n11, n12, n13, n14, n15⟩ := fd
      have e2 : (some (n2, n3, n4, n5, n6, n15) : IniW) = some (d.qual, d.params, .stmts d.body, d.scope, mainGlobals, builtinsNs) := e
      simp only [Option.some.injEq, Prod.mk.injEq] at e2
      obtain ⟨rfl, rfl, rfl, rfl, rfl, rfl⟩ := e2
      obtain ⟨c1, c⟩ := He.ba (show (PySem.W.codeIn K n13 d.qual && (He.dflB K n8 (d.dfl.map (He.Dv.v K)) && (cellB K (He.ga K d.cls) n7 && (fileB K P.main.file n13 && ((PySem.W.clsIn K (He.ga K d.cls)).isSome && decide (PySem.W.nsIn K cStatics "thirdparty.any" = some none)))))) = true from c)
      obtain ⟨c2, c⟩ := He.ba c
      obtain ⟨c3, c⟩ := He.ba c
      obtain ⟨c4, c⟩ := He.ba c
      obtain ⟨c5, c6⟩ := He.ba c
      refine ⟨_, ⟨⟨oc, od, osl, q⟩, rfl, rfl, fileB_ok c4, c1, cellB_ok c3, Option.isSome_iff_exists.mp c5, of_decide_eq_true c6, top, S.ks, S.kc, S.kself, S.kind, S.par⟩, n1, n7, n8, n9, n10, n11, n12, n13, n14, rfl, He.dflB_ok c2⟩
    | _ => cases c
/-! ### the classes -/
def eb (key : Bool) : EBase := if key then ebK else ebV
def clsB (EB : EBase) (K : PySem.W.Frag) (C : Addr) : Bool := (match K.lookup C with
  | some ⟨.type "type", _, .cls cd, sl⟩ => (match cd.mro, sl.toList with
    | .ref C' :: bm, [_, _, _, _, some (.builtin n), _] => C' == C && n == EB.nw && !cd.hasDel && cd.hasDict && rowIs EB.tail bm
    | _, _ => false)
  | _ => false) && (decide (PySem.W.findIn K (.ref C) "__setattr__" = some (some (.builtin "object.__setattr__"))) && (decide (PySem.W.subIn K (.ref C) (.type "BaseException") = some true) && (decide (PySem.W.typeIn K (.ref C) = some (.type "type")) && (PySem.W.keepIn K (.ref C) && decide (PySem.W.mroIn K C (.type EB.B) = some true)))))
theorem clsB_ok {EB : EBase} {K : PySem.W.Frag} {C : Addr} (h : clsB EB K C = true) : ExC EB K C := by
  obtain ⟨q, h⟩ := He.ba h
  obtain ⟨h1, h⟩ := He.ba h
  obtain ⟨h2, h⟩ := He.ba h
  obtain ⟨h3, h⟩ := He.ba h
  obtain ⟨h4, h5⟩ := He.ba h
  refine ⟨?_, of_decide_eq_true h1, of_decide_eq_true h2, of_decide_eq_true h3, h4, of_decide_eq_true h5⟩
  split at q
  · rename_i dd cd sl ho
    split at q
    · rename_i C' bm k0 k1 k2 k3 n k5 hm hs
      simp only [Bool.and_eq_true, beq_iff_eq, Bool.not_eq_true'] at q
      obtain ⟨⟨⟨⟨rfl, rfl⟩, z1⟩, z2⟩, z3⟩ := q
      obtain ⟨nm, bs, mro, ns, qn, hd, sn, sub, ab, col, del⟩ := cd
      dsimp only at hm z1 z2
      subst hm z1 z2
      obtain rfl : sl = #[k0, k1, k2, k3, some (.builtin EB.nw), k5] := by
        obtain ⟨l⟩ := sl
        simp only at hs
        rw [hs]
      exact ⟨nm, qn, ns, bs, bm, sn, sub, ab, col, dd, k0, k1, k2, k3, k5, ho, z3⟩
    · cases q
  · cases q
def exkB (K : PySem.W.Frag) (C : Addr) : Bool := xfB K C && (decide (PySem.W.findIn K (.ref C) "__class__" = some (some (.builtin "object.__class__"))) && (decide (PySem.W.specialIn K (.builtin "object.__class__") "__get__" = some (some (.builtin "getset_descriptor.__get__"))) && (decide (PySem.W.takesIn K (.builtin "object.__class__") = some true) && decide (PySem.W.mroIn K C (.type "object") = some true))))
theorem exkB_ok {K : PySem.W.Frag} {C : Addr} (h : exkB K C = true) : XfC K C ∧ ExcC K C := by
  obtain ⟨h0, h⟩ := He.ba h
  obtain ⟨h1, h⟩ := He.ba h
  obtain ⟨h2, h⟩ := He.ba h
  obtain ⟨h3, h4⟩ := He.ba h
  have z := xfB_ok h0
  exact ⟨z, z.ga, z.gg, z.exC, z.hdC, of_decide_eq_true h1, of_decide_eq_true h2, of_decide_eq_true h3, of_decide_eq_true h4⟩
/-- a class of errors: whose __init__ it has, the def over the built-in class, the fields -/
structure ErrD where
  cls : Str
  own : Str
  root : Str
  key : Bool
  fld : Str
  fld2 : Str
def ErrD.ok (K : PySem.W.Frag) (e : ErrD) : Bool := clsB (eb e.key) K (He.ga K e.cls) && (exkB K (He.ga K e.cls) && (decide (PySem.W.mroIn K (He.ga K e.cls) (.ref (He.ga K e.root)) = some true) && (decide (PySem.W.ks_superIn K (He.ga K e.cls) (He.ga K e.root) "__init__" = some (some (.builtin (eb e.key).ini))) &&
  (decide (PySem.W.findIn K (.ref (He.ga K e.cls)) e.fld = some none) && (decide (PySem.W.findIn K (.ref (He.ga K e.cls)) e.fld2 = some none) && (decide (PySem.W.findIn K (.ref (He.ga K e.cls)) "__init__" = some (some (.ref (fI K e.own)))) && (decide (PySem.W.typeIn K (.ref (fI K e.own)) = some (.type "function")) &&
  (decide (e.own = e.root) || (decide (PySem.W.mroIn K (He.ga K e.cls) (.ref (He.ga K e.own)) = some true) && (decide (PySem.W.ks_superIn K (He.ga K e.cls) (He.ga K e.own) "__init__" = some (some (.ref (fI K e.root)))) && (decide (PySem.W.typeIn K (.ref (fI K e.root)) = some (.type "function")) && PySem.W.fnIn K (fI K e.root))))))))))))
structure ErrOk (K : PySem.W.Frag) (e : ErrD) : Prop where
  c : ExC (eb e.key) K (He.ga K e.cls)
  xf : XfC K (He.ga K e.cls)
  xc : ExcC K (He.ga K e.cls)
  i1 : In1 (eb e.key) K (He.ga K e.cls) (He.ga K e.root) e.fld2
  no : PySem.W.findIn K (.ref (He.ga K e.cls)) e.fld = some none
  ini : PySem.W.findIn K (.ref (He.ga K e.cls)) "__init__" = some (some (.ref (fI K e.own)))
  ty : PySem.W.typeIn K (.ref (fI K e.own)) = some (.type "function")
  i2 : e.own ≠ e.root → In2 (eb e.key) K (He.ga K e.cls) (He.ga K e.own) (He.ga K e.root) (fI K e.root) e.fld e.fld2
theorem ErrD.get {K : PySem.W.Frag} {e : ErrD} (h : e.ok K = true) : ErrOk K e := by
  obtain ⟨h1, h⟩ := He.ba h
  obtain ⟨h2, h⟩ := He.ba h
  obtain ⟨h3, h⟩ := He.ba h
  obtain ⟨h4, h⟩ := He.ba h
  obtain ⟨h5, h⟩ := He.ba h
  obtain ⟨h6, h⟩ := He.ba h
  obtain ⟨h7, h⟩ := He.ba h
  obtain ⟨h8, h⟩ := He.ba h
  have i1 : In1 (eb e.key) K (He.ga K e.cls) (He.ga K e.root) e.fld2 := ⟨clsB_ok h1, of_decide_eq_true h3, of_decide_eq_true h4, of_decide_eq_true h6⟩
  refine ⟨clsB_ok h1, (exkB_ok h2).1, (exkB_ok h2).2, i1, of_decide_eq_true h5, of_decide_eq_true h7, of_decide_eq_true h8, fun hne => ?_⟩
  rcases Bool.or_eq_true_iff.mp h with h | h
  · exact absurd (of_decide_eq_true h) hne
  · obtain ⟨g1, h⟩ := He.ba h
    obtain ⟨g2, h⟩ := He.ba h
    obtain ⟨g3, g4⟩ := He.ba h
    exact ⟨i1, of_decide_eq_true g1, of_decide_eq_true g2, of_decide_eq_true g3, g4, of_decide_eq_true h5⟩
/-! ### the Hook -/
def asY (g : Addr → Option Obj) : Nat → List Addr
  | 0 => [mainGlobals, cStatics]
  | n + 1 => He.growD g (asY g n)
abbrev AlY : Type := He.AlD × Bool × List IniW
def obsY (file : Str) (fa : List He.Fa) (fn : List He.DefD) (ini : List IniD) (ex : PySem.W.Frag → Bool) (K : PySem.W.Frag) : AlY := (He.obsD fa fn K, (ini.all fun d => d.ok file K) && ex K, ini.map fun d => iniW K d.cls)
def valY (fn : List He.DefD) (ini : List IniD) : AlY := (He.valD fn, true, ini.map IniD.val)
structure SaysY (file : Str) (fa : List He.Fa) (fn : List He.DefD) (ini : List IniD) (ex : PySem.W.Frag → Bool) (K : PySem.W.Frag) : Prop where
  d : He.SaysD fa fn K
  ok : ∀ d ∈ ini, d.ok file K = true
  ex : ex K = true
  w : ini.map (fun d => iniW K d.cls) = ini.map IniD.val
theorem saysY_of {file : Str} {fa : List He.Fa} {fn : List He.DefD} {ini : List IniD} {ex : PySem.W.Frag → Bool} {K : PySem.W.Frag} (e : obsY file fa fn ini ex K = valY fn ini) : SaysY file fa fn ini ex K := by
  obtain ⟨h1, h2⟩ := He.ba (show ((ini.all fun d => d.ok file K) && ex K) = true from congrArg (fun z : AlY => z.2.1) e)
  exact ⟨congrArg (fun z : AlY => z.1) e, fun d hd => List.all_eq_true.mp h1 d hd, h2, congrArg (fun z : AlY => z.2.2) e⟩
theorem SaysY.ini {file : Str} {fa : List He.Fa} {fn : List He.DefD} {ini : List IniD} {ex : PySem.W.Frag → Bool} {K : PySem.W.Frag} (c : SaysY file fa fn ini ex K) (i : Nat) {d : IniD} (h : ini[i]? = some d) : iniW K d.cls = d.val ∧ d.ok file K = true := by
  refine ⟨?_, c.ok d (List.mem_of_getElem? h)⟩
  have e2 : (ini.map fun d => iniW K d.cls)[i]? = (ini.map IniD.val)[i]? := by rw [c.w]
  rw [List.getElem?_map, List.getElem?_map, h] at e2
  exact Option.some.inj e2
def obsYG (file : Str) (n : Nat) (fa : List He.Fa) (fn : List He.DefD) (ini : List IniD) (ex : PySem.W.Frag → Bool) (g : Addr → Option Obj) : AlY := obsY file fa fn ini ex (He.frG g (asY g n))
def hookY (file : Str) (n : Nat) (fa : List He.Fa) (fn : List He.DefD) (ini : List IniD) (ex : PySem.W.Frag → Bool) : PySem.W.Hook where
  α := AlY
  obs := fun s => obsYG file n fa fn ini ex s.heap.get?
  val := fun _ => valY fn ini
  says := fun _ h => ∃ K : PySem.W.Frag, K.In h ∧ SaysY file fa fn ini ex K
  of := fun _ _ e => ⟨_, He.frG_in, saysY_of e⟩
  keeps := fun _ _ _ ⟨K, hK, c⟩ k => ⟨K, PySem.W.Frag.In.keeps hK k, c⟩
theorem obsYG_eq {file : Str} {n : Nat} {fa : List He.Fa} {fn : List He.DefD} {ini : List IniD} {ex : PySem.W.Frag → Bool} {g : Addr → Option Obj} {s : Shared} (h : ∀ a, g a = s.heap.get? a) : obsYG file n fa fn ini ex g = (hookY file n fa fn ini ex).obs s := by
  have e : g = s.heap.get? := funext h
  rw [e] <;> rfl
end Fk
namespace Fk
open PySem PySem.Spec PyProof.Rows L2
/-! ### defs by a path of one's own: getters of properties -/
/-- the property x of the class at C: its object, its getter -/
def prA (K : PySem.W.Frag) (C : Addr) (x : Str) : Addr := match PySem.W.findIn K (.ref C) x with
  | some (some (.ref p)) => p
  | _ => 0
def prG (K : PySem.W.Frag) (C : Addr) (x : Str) : Addr := match PySem.W.recIn K (prA K C x) "property" with
  | some (.ref g :: _) => g
  | _ => 0
structure DefP where
  at_ : PySem.W.Frag → Addr
  name : Str
  qual : Str
  params : Arguments
  body : List Stmt
  scope : Scope
abbrev FnP : Type := Option (Str × Str × Arguments × FuncBody × Scope × Addr × List (Str × Addr) × Addr)
def fnP (K : PySem.W.Frag) (a : Addr) : FnP := match K.lookup a with
  | some ⟨_, _, .func fd, _⟩ => some (fd.name, fd.qualname, fd.params, fd.body, fd.scope, fd.globals, fd.closure, fd.builtins)
  | _ => none
def DefP.val (d : DefP) : FnP := some (d.name, d.qual, d.params, .stmts d.body, d.scope, mainGlobals, [], builtinsNs)
def DefP.ok (K : PySem.W.Frag) (d : DefP) : Bool := PySem.W.keepIn K (.ref (d.at_ K)) && (match K.lookup (d.at_ K) with
  | some ⟨_, _, .func fd, _⟩ => PySem.W.codeIn K fd.code d.qual && (He.dflB K fd.defaults [] && He.kwdB K fd.kwdefaults [])
  | _ => false)
theorem DefP.get {K : PySem.W.Frag} {d : DefP} (e : fnP K (d.at_ K) = d.val) (c : d.ok K = true) : ∃ fd, FunD K d.name d.qual d.params d.body d.scope [] [] (d.at_ K) fd := by
  obtain ⟨kp, c2⟩ := He.ba c
  unfold fnP at e
  cases q : K.lookup (d.at_ K) with
  | none =>
    rw [q] at c2
    cases c2
  | some o =>
    obtain ⟨oc, od, dt, osl⟩ := o
    rw [q] at c2 e
    cases dt with
    | func fd =>
      obtain ⟨n1, n2, n3, n4, n5, n6, n7, n8, n9, n10, n11, n12, n13, n14, n15⟩ := fd
      have e2 : (some (n1, n2, n3, n4, n5, n6, n7, n15) : FnP) = some (d.name, d.qual, d.params, .stmts d.body, d.scope, mainGlobals, [], builtinsNs) := e
      simp only [Option.some.injEq, Prod.mk.injEq] at e2
      obtain ⟨rfl, rfl, rfl, rfl, rfl, rfl, rfl, rfl⟩ := e2
      obtain ⟨k1, k2⟩ := He.ba (show (PySem.W.codeIn K n13 d.qual && (He.dflB K n8 [] && He.kwdB K n9 [])) = true from c2)
      obtain ⟨k3, k4⟩ := He.ba k2
      exact ⟨_, ⟨oc, od, n8, n9, n10, n11, n12, n13, n14, osl, rfl, q, k1, He.dflB_ok k3, He.kwdB_ok k4⟩, kp⟩
    | _ => cases c2
/-- the class at C has x as such a property -/
def prB (K : PySem.W.Frag) (C : Addr) (x : Str) : Bool := decide (PySem.W.findIn K (.ref C) x = some (some (.ref (prA K C x)))) && (decide (PySem.W.specialIn K (.ref (prA K C x)) "__get__" = some (some (.builtin "property.__get__"))) && (decide (PySem.W.takesIn K (.ref (prA K C x)) = some true) &&
  (match PySem.W.recIn K (prA K C x) "property" with
    | some (.ref _ :: _) => true
    | _ => false)))
theorem prB_ok {K : PySem.W.Frag} {C : Addr} {x : Str} (h : prB K C x = true) : PropOf K C x (prA K C x) (prG K C x) := by
  obtain ⟨h1, h⟩ := He.ba h
  obtain ⟨h2, h⟩ := He.ba h
  obtain ⟨h3, h4⟩ := He.ba h
  refine ⟨of_decide_eq_true h1, of_decide_eq_true h2, of_decide_eq_true h3, ?_⟩
  unfold prG
  split at h4
  · rename_i g rest e
    rw [e]
    exact ⟨rest, rfl⟩
  · cases h4
/-! ### the Hook with these -/
abbrev AlZ : Type := AlY × Bool × List FnP
def obsZ (file : Str) (fa : List He.Fa) (fn : List He.DefD) (ini : List IniD) (gt : List DefP) (ex : PySem.W.Frag → Bool) (K : PySem.W.Frag) : AlZ := (obsY file fa fn ini ex K, gt.all fun d => d.ok K, gt.map fun d => fnP K (d.at_ K))
def valZ (fn : List He.DefD) (ini : List IniD) (gt : List DefP) : AlZ := (valY fn ini, true, gt.map DefP.val)
structure SaysZ (file : Str) (fa : List He.Fa) (fn : List He.DefD) (ini : List IniD) (gt : List DefP) (ex : PySem.W.Frag → Bool) (K : PySem.W.Frag) : Prop where
  y : SaysY file fa fn ini ex K
  ok : ∀ d ∈ gt, d.ok K = true
  w : gt.map (fun d => fnP K (d.at_ K)) = gt.map DefP.val
theorem SaysZ.get {file : Str} {fa : List He.Fa} {fn : List He.DefD} {ini : List IniD} {gt : List DefP} {ex : PySem.W.Frag → Bool} {K : PySem.W.Frag} (c : SaysZ file fa fn ini gt ex K) (i : Nat) {d : DefP} (h : gt[i]? = some d := by rfl) : ∃ fd, FunD K d.name d.qual d.params d.body d.scope [] [] (d.at_ K) fd := by
  have e2 : (gt.map fun d => fnP K (d.at_ K))[i]? = (gt.map DefP.val)[i]? := by rw [c.w]
  rw [List.getElem?_map, List.getElem?_map, h] at e2
  exact DefP.get (Option.some.inj e2) (c.ok d (List.mem_of_getElem? h))
def obsZG (file : Str) (n : Nat) (fa : List He.Fa) (fn : List He.DefD) (ini : List IniD) (gt : List DefP) (ex : PySem.W.Frag → Bool) (g : Addr → Option Obj) : AlZ := obsZ file fa fn ini gt ex (He.frG g (asY g n))
def hookZ (file : Str) (n : Nat) (fa : List He.Fa) (fn : List He.DefD) (ini : List IniD) (gt : List DefP) (ex : PySem.W.Frag → Bool) : PySem.W.Hook where
  α := AlZ
  obs := fun s => obsZG file n fa fn ini gt ex s.heap.get?
  val := fun _ => valZ fn ini gt
  says := fun _ h => ∃ K : PySem.W.Frag, K.In h ∧ SaysZ file fa fn ini gt ex K
  of := fun _ _ e => ⟨_, He.frG_in, ⟨saysY_of (congrArg (fun z : AlZ => z.1) e), fun d hd => List.all_eq_true.mp (congrArg (fun z : AlZ => z.2.1) e) d hd, congrArg (fun z : AlZ => z.2.2) e⟩⟩
  keeps := fun _ _ _ ⟨K, hK, c⟩ k => ⟨K, PySem.W.Frag.In.keeps hK k, c⟩
theorem obsZG_eq {file : Str} {n : Nat} {fa : List He.Fa} {fn : List He.DefD} {ini : List IniD} {gt : List DefP} {ex : PySem.W.Frag → Bool} {g : Addr → Option Obj} {s : Shared} (h : ∀ a, g a = s.heap.get? a) : obsZG file n fa fn ini gt ex g = (hookZ file n fa fn ini gt ex).obs s := by
  have e : g = s.heap.get? := funext h
  rw [e] <;> rfl
/-! ### the run, part by part (each part by itself: less memory) -/
def Ko (n : Nat) (s : PySem.W.SharedT) : PySem.W.Frag := He.frG (HandSHeadRun.getT s) (asY (HandSHeadRun.getT s) n)
theorem runZ {file : Str} {n : Nat} {fa : List He.Fa} {fn : List He.DefD} {ini : List IniD} {gt : List DefP} {ex : PySem.W.Frag → Bool} {β : Type} {x : Option PySem.W.SharedT} {g1 : PySem.W.SharedT → Bool} {g2 : PySem.W.SharedT → β} {v : β}
    (h1 : x.map (fun s => (g1 s, g2 s)) = some (true, v)) (h2 : x.map (fun s => fa.all fun f => f.ok (Ko n s)) = some true)
    (h3 : x.map (fun s => (fn.all (fun d => d.ok (Ko n s)), fn.map fun d => He.fnW (Ko n s) d.at_)) = some (true, fn.map He.DefD.val))
    (h4 : x.map (fun s => ((ini.all fun d => d.ok file (Ko n s)) && ex (Ko n s), ini.map fun d => iniW (Ko n s) d.cls)) = some (true, ini.map IniD.val))
    (h5 : x.map (fun s => (gt.all (fun d => d.ok (Ko n s)), gt.map fun d => fnP (Ko n s) (d.at_ (Ko n s)))) = some (true, gt.map DefP.val)) :
    x.map (fun s => (g1 s, g2 s, obsZG file n fa fn ini gt ex (HandSHeadRun.getT s))) = some (true, v, valZ fn ini gt) := by
  cases x with
  | none => cases h1
  | some s =>
    have e1 := Option.some.inj h1
    have e2 : (fa.all fun f => f.ok (Ko n s)) = true := Option.some.inj h2
    have e3 := Option.some.inj h3
    have e4 := Option.some.inj h4
    have e5 := Option.some.inj h5
    have a1 : g1 s = true := congrArg Prod.fst e1
    have a2 : g2 s = v := congrArg Prod.snd e1
    have a3 : (fn.all fun d => d.ok (Ko n s)) = true := congrArg Prod.fst e3
    have a4 : (fn.map fun d => He.fnW (Ko n s) d.at_) = fn.map He.DefD.val := congrArg Prod.snd e3
    have a5 : ((ini.all fun d => d.ok file (Ko n s)) && ex (Ko n s)) = true := congrArg Prod.fst e4
    have a6 : (ini.map fun d => iniW (Ko n s) d.cls) = ini.map IniD.val := congrArg Prod.snd e4
    have a7 : (gt.all fun d => d.ok (Ko n s)) = true := congrArg Prod.fst e5
    have a8 : (gt.map fun d => fnP (Ko n s) (d.at_ (Ko n s))) = gt.map DefP.val := congrArg Prod.snd e5
    have o : obsZG file n fa fn ini gt ex (HandSHeadRun.getT s) = (((((fa.all fun f => f.ok (Ko n s)) && fn.all fun d => d.ok (Ko n s)), fn.map fun d => He.fnW (Ko n s) d.at_), ((ini.all fun d => d.ok file (Ko n s)) && ex (Ko n s)), ini.map fun d => iniW (Ko n s) d.cls), (gt.all fun d => d.ok (Ko n s)), gt.map fun d => fnP (Ko n s) (d.at_ (Ko n s))) := rfl
    show some (g1 s, g2 s, obsZG file n fa fn ini gt ex (HandSHeadRun.getT s)) = _
    rw [o, a1, a2, e2, a3, a4, a5, a6, a7, a8]
    rfl
end Fk
/-! FkOwn: facts of own classes, as booleans of the fragment -/
namespace Fk
open PySem PySem.Spec PyProof.Rows L2
def tyL : List String := ["NoneType", "bool", "int", "str", "bytes", "tuple", "list", "dict"]
def clB (K : PySem.W.Frag) (C : Addr) : Bool := decide (PySem.W.findIn K (.ref C) "__class__" = some (some (.builtin "object.__class__"))) && (decide (PySem.W.specialIn K (.builtin "object.__class__") "__get__" = some (some (.builtin "getset_descriptor.__get__"))) && (decide (PySem.W.takesIn K (.builtin "object.__class__") = some true) && decide (PySem.W.mroIn K C (.type "object") = some true)))
def noL (K : PySem.W.Frag) : Bool := K.all fun p => !(decide (p.2.cls = Value.type "list"))
/-- an own class among own classes and built-in types -/
def ownB (K : PySem.W.Frag) (own : List Str) (C : Str) : Bool := clB K (He.ga K C) && ((own.all fun D => decide (PySem.W.kitOne K (.ref (He.ga K C)) (.ref (He.ga K D)) = some (decide (C = D))) && PySem.W.notFirst K (He.ga K C) (.ref (He.ga K D))) &&
  (tyL.all fun t => decide (PySem.W.kitOne K (.type t) (.ref (He.ga K C)) = some false) && (decide (PySem.W.kitOne K (.ref (He.ga K C)) (.type t) = some false) && PySem.W.notFirst K (He.ga K C) (.type t))))
/-- no own __ne__ -/
def neB (K : PySem.W.Frag) (C : Str) : Bool := decide (PySem.W.findIn K (.ref (He.ga K C)) "__ne__" = some (some (.builtin "object.__ne__")))
/-- the keyword's default of the def at f, if it is an object -/
def kwdAt (f : Str × Option Str) (x : Str) (K : PySem.W.Frag) : Addr := match K.lookup (He.fAd K f) with
  | some ⟨_, _, .func fd, _⟩ => (match fd.kwdefaults with
    | .ref T => (match PySem.W.nsIn K T x with
      | some (some (.ref a)) => a
      | _ => 0)
    | _ => 0)
  | _ => 0
/-- the empty tuple -/
def emT (K : PySem.W.Frag) (a : Addr) : Bool := match K.lookup a with
  | some ⟨.type c, _, .seq its _, _⟩ => decide (c = "tuple") && decide (its.toList = [])
  | _ => false
theorem emT_ok {K : PySem.W.Frag} {a : Addr} (h : emT K a = true) (H : Hp) : SqT K H a [] := by
  unfold emT at h
  cases q : K.lookup a with
  | none =>
    rw [q] at h
    cases h
  | some o =>
    obtain ⟨oc, od, dt, osl⟩ := o
    rw [q] at h
    cases oc with
    | type c =>
      cases dt with
      | seq its n =>
        obtain ⟨h1, h2⟩ := He.ba (show (decide (c = "tuple") && decide (its.toList = [])) = true from h)
        have h2 : its.toList = [] := of_decide_eq_true h2
        refine .inr ⟨_, its, n, q, congrArg Value.type (of_decide_eq_true h1), rfl, ?_, ?_⟩
        · have : its.size = 0 := by rw [← Array.length_toList, h2]; rfl
          rw [this]
          exact Nat.zero_le _
        · rw [h2]
          exact .nil
      | _ => cases h
    | _ => cases dt <;> cases h
/-! ### a smaller growth: codes, modules are not opened -/
def nub : List Addr → List Addr → List Addr
  | [], _ => []
  | a :: as, all => if all.contains a then nub as all else a :: nub as (a :: all)
def refsS (o : Obj) : List Addr := match o.data with
  | .func fd => He.refV fd.code ++ (He.refV fd.defaults ++ (He.refV fd.kwdefaults ++ fd.closure.map (·.2)))
  | .cls cd => cd.ns :: cd.mro.flatMap He.refV
  | .dict es _ => es.toList.flatMap fun e => He.refV e.val
  | .seq its _ => its.toList.flatMap He.refV
  | .cell (some v) => He.refV v
  | .fields vs => if o.cls = .type "property" then vs.toList.flatMap He.refV else []
  | _ => []
def asF (g : Addr → Option Obj) : Nat → List Addr × List Addr
  | 0 => ([mainGlobals, cStatics], [mainGlobals, cStatics])
  | n + 1 => let p := asF g n
    let nw := nub (p.2.flatMap fun a => match g a with
      | some o => refsS o
      | none => []) p.1
    (p.1 ++ nw, nw)
def obsFG (file : Str) (n : Nat) (fa : List He.Fa) (fn : List He.DefD) (ini : List IniD) (gt : List DefP) (ex : PySem.W.Frag → Bool) (g : Addr → Option Obj) : AlZ := obsZ file fa fn ini gt ex (He.frG g (asF g n).1)
def hookF (file : Str) (n : Nat) (fa : List He.Fa) (fn : List He.DefD) (ini : List IniD) (gt : List DefP) (ex : PySem.W.Frag → Bool) : PySem.W.Hook where
  α := AlZ
  obs := fun s => obsFG file n fa fn ini gt ex s.heap.get?
  val := fun _ => valZ fn ini gt
  says := fun _ h => ∃ K : PySem.W.Frag, K.In h ∧ SaysZ file fa fn ini gt ex K
  of := fun _ _ e => ⟨_, He.frG_in, ⟨saysY_of (congrArg (fun z : AlZ => z.1) e), fun d hd => List.all_eq_true.mp (congrArg (fun z : AlZ => z.2.1) e) d hd, congrArg (fun z : AlZ => z.2.2) e⟩⟩
  keeps := fun _ _ _ ⟨K, hK, c⟩ k => ⟨K, PySem.W.Frag.In.keeps hK k, c⟩
theorem obsFG_eq {file : Str} {n : Nat} {fa : List He.Fa} {fn : List He.DefD} {ini : List IniD} {gt : List DefP} {ex : PySem.W.Frag → Bool} {g : Addr → Option Obj} {s : Shared} (h : ∀ a, g a = s.heap.get? a) : obsFG file n fa fn ini gt ex g = (hookF file n fa fn ini gt ex).obs s := by
  have e : g = s.heap.get? := funext h
  rw [e] <;> rfl
end Fk
namespace Rf
open PySem
def errNames : List Str := ["ForkError", "BadName", "BadMark", "BadObject", "Clash", "NoObject"]
def subT : List (Str × List Str) := [("ForkError", ["ForkError", "BadName", "BadMark", "BadObject", "Clash"]), ("BadName", ["BadName"]), ("BadMark", ["BadMark"]), ("BadObject", ["BadObject"]), ("Clash", ["Clash"]), ("NoObject", ["NoObject"])]
def subE (x c : Str) : Bool := ((subT.lookup x).getD []).contains c
end Rf
namespace K56
open PySem PySem.Spec PyProof.Rows L2
def top (i : Nat) : Stmt := PySem.Challenge.pw_forkhaul_k56_candidates_of_searches.main.body.getD i (.Pass ⟨0, 0, 0, 0⟩)
abbrev s__wall : Stmt := top 0
abbrev s_ForkError___init__ : Stmt := inClass (top 2) 0
abbrev s_BadObject___init__ : Stmt := inClass (top 5) 0
abbrev s_Clash___init__ : Stmt := inClass (top 6) 0
abbrev s_NoObject___init__ : Stmt := inClass (top 7) 0
abbrev s_is_whole : Stmt := top 17
abbrev s_is_count : Stmt := top 18
abbrev s_is_time : Stmt := top 19
abbrev s_has_only : Stmt := top 20
abbrev s_is_id : Stmt := top 21
abbrev s_is_segment : Stmt := top 22
abbrev s_is_author : Stmt := top 23
abbrev s_is_text : Stmt := top 24
abbrev s_are_ids : Stmt := top 25
abbrev s_Blob___init__ : Stmt := inClass (top 30) 0
abbrev s_Blob_text : Stmt := inClass (top 30) 1
abbrev s_Blob___eq__ : Stmt := inClass (top 30) 2
abbrev s_is_entry : Stmt := top 31
abbrev s_Tree___init__ : Stmt := inClass (top 32) 0
abbrev s_Tree_entries : Stmt := inClass (top 32) 1
abbrev s_Tree___eq__ : Stmt := inClass (top 32) 2
abbrev s_are_parents : Stmt := top 33
abbrev s_Commit___init__ : Stmt := inClass (top 34) 0
abbrev s_Commit_tree : Stmt := inClass (top 34) 1
abbrev s_Commit_parents : Stmt := inClass (top 34) 2
abbrev s_Commit_author : Stmt := inClass (top 34) 3
abbrev s_Commit_time : Stmt := inClass (top 34) 4
abbrev s_Commit_message : Stmt := inClass (top 34) 5
abbrev s_Commit___eq__ : Stmt := inClass (top 34) 6
abbrev s_Tag___init__ : Stmt := inClass (top 35) 0
abbrev s_Tag_target : Stmt := inClass (top 35) 1
abbrev s_Tag_label : Stmt := inClass (top 35) 2
abbrev s_Tag_message : Stmt := inClass (top 35) 3
abbrev s_Tag___eq__ : Stmt := inClass (top 35) 4
abbrev s_is_object : Stmt := top 36
abbrev s_commit_of : Stmt := top 38
abbrev s_History___init__ : Stmt := inClass (top 39) 0
abbrev s_History_check_names : Stmt := inClass (top 39) 3
abbrev s_History_check_pair : Stmt := inClass (top 39) 4
abbrev s_History_below : Stmt := inClass (top 39) 5
abbrev s_History_searched : Stmt := inClass (top 39) 6
abbrev s_History_reaches : Stmt := inClass (top 39) 7
abbrev s_Search___init__ : Stmt := inClass (top 41) 0
abbrev s_Search_marked : Stmt := inClass (top 41) 1
abbrev s_Search_mark : Stmt := inClass (top 41) 2
abbrev s_Search_bad : Stmt := inClass (top 41) 3
abbrev s_Search_good : Stmt := inClass (top 41) 4
abbrev s_Search_skip : Stmt := inClass (top 41) 5
abbrev s_Search_undo : Stmt := inClass (top 41) 6
abbrev s_Search_candidates : Stmt := inClass (top 41) 7
abbrev s_Search_next : Stmt := inClass (top 41) 8
abbrev s_Search_found : Stmt := inClass (top 41) 9
abbrev s_encode_tree : Stmt := top 46
abbrev s_encode_commit : Stmt := top 47
abbrev s_encode : Stmt := top 48
abbrev s_sum_of : Stmt := top 49
abbrev s_id_of : Stmt := top 50
abbrev s_Store___init__ : Stmt := inClass (top 52) 0
abbrev s_Store_put : Stmt := inClass (top 52) 1
abbrev s_Store___contains__ : Stmt := inClass (top 52) 2
abbrev s_Store___getitem__ : Stmt := inClass (top 52) 3
abbrev s_Store___iter__ : Stmt := inClass (top 52) 4
abbrev s_Store___len__ : Stmt := inClass (top 52) 5
abbrev s_Store_ids : Stmt := inClass (top 52) 6
abbrev s__law_draw : Stmt := top 54
abbrev s__law_shuffled : Stmt := top 55
abbrev s__law_history : Stmt := top 56
abbrev s__law_reached : Stmt := top 57
abbrev s__law_candidates : Stmt := top 58
abbrev s__law_called : Stmt := top 59
abbrev s__law_right : Stmt := top 60
abbrev s_law : Stmt := top 61
def d__wall : He.DefD := ⟨("_wall", none), "_wall", "_wall", defArgs s__wall, defBody s__wall, defScope s__wall, [], []⟩
def d_is_whole : He.DefD := ⟨("is_whole", none), "is_whole", "is_whole", defArgs s_is_whole, defBody s_is_whole, defScope s_is_whole, [], []⟩
def d_is_count : He.DefD := ⟨("is_count", none), "is_count", "is_count", defArgs s_is_count, defBody s_is_count, defScope s_is_count, [.int 0], []⟩
def d_is_time : He.DefD := ⟨("is_time", none), "is_time", "is_time", defArgs s_is_time, defBody s_is_time, defScope s_is_time, [], []⟩
def d_has_only : He.DefD := ⟨("has_only", none), "has_only", "has_only", defArgs s_has_only, defBody s_has_only, defScope s_has_only, [], []⟩
def d_is_id : He.DefD := ⟨("is_id", none), "is_id", "is_id", defArgs s_is_id, defBody s_is_id, defScope s_is_id, [], []⟩
def d_is_segment : He.DefD := ⟨("is_segment", none), "is_segment", "is_segment", defArgs s_is_segment, defBody s_is_segment, defScope s_is_segment, [], []⟩
def d_is_author : He.DefD := ⟨("is_author", none), "is_author", "is_author", defArgs s_is_author, defBody s_is_author, defScope s_is_author, [], []⟩
def d_is_text : He.DefD := ⟨("is_text", none), "is_text", "is_text", defArgs s_is_text, defBody s_is_text, defScope s_is_text, [.int 2000], []⟩
def d_are_ids : He.DefD := ⟨("are_ids", none), "are_ids", "are_ids", defArgs s_are_ids, defBody s_are_ids, defScope s_are_ids, [], []⟩
def d_Blob___init__ : He.DefD := ⟨("Blob", some "__init__"), "__init__", "Blob.__init__", defArgs s_Blob___init__, defBody s_Blob___init__, defScope s_Blob___init__, [], []⟩
def d_Blob___eq__ : He.DefD := ⟨("Blob", some "__eq__"), "__eq__", "Blob.__eq__", defArgs s_Blob___eq__, defBody s_Blob___eq__, defScope s_Blob___eq__, [], []⟩
def d_is_entry : He.DefD := ⟨("is_entry", none), "is_entry", "is_entry", defArgs s_is_entry, defBody s_is_entry, defScope s_is_entry, [], []⟩
def d_Tree___init__ : He.DefD := ⟨("Tree", some "__init__"), "__init__", "Tree.__init__", defArgs s_Tree___init__, defBody s_Tree___init__, defScope s_Tree___init__, [], []⟩
def d_Tree___eq__ : He.DefD := ⟨("Tree", some "__eq__"), "__eq__", "Tree.__eq__", defArgs s_Tree___eq__, defBody s_Tree___eq__, defScope s_Tree___eq__, [], []⟩
def d_are_parents : He.DefD := ⟨("are_parents", none), "are_parents", "are_parents", defArgs s_are_parents, defBody s_are_parents, defScope s_are_parents, [], []⟩
def d_Commit___init__ : He.DefD := ⟨("Commit", some "__init__"), "__init__", "Commit.__init__", defArgs s_Commit___init__, defBody s_Commit___init__, defScope s_Commit___init__, [.adr (He.dflAt ("Commit", some "__init__") 0)], [("message", .str "")]⟩
def d_Commit___eq__ : He.DefD := ⟨("Commit", some "__eq__"), "__eq__", "Commit.__eq__", defArgs s_Commit___eq__, defBody s_Commit___eq__, defScope s_Commit___eq__, [], []⟩
def d_Tag___init__ : He.DefD := ⟨("Tag", some "__init__"), "__init__", "Tag.__init__", defArgs s_Tag___init__, defBody s_Tag___init__, defScope s_Tag___init__, [], [("message", .str "")]⟩
def d_Tag___eq__ : He.DefD := ⟨("Tag", some "__eq__"), "__eq__", "Tag.__eq__", defArgs s_Tag___eq__, defBody s_Tag___eq__, defScope s_Tag___eq__, [], []⟩
def d_is_object : He.DefD := ⟨("is_object", none), "is_object", "is_object", defArgs s_is_object, defBody s_is_object, defScope s_is_object, [], []⟩
def d_commit_of : He.DefD := ⟨("commit_of", none), "commit_of", "commit_of", defArgs s_commit_of, defBody s_commit_of, defScope s_commit_of, [], []⟩
def d_History___init__ : He.DefD := ⟨("History", some "__init__"), "__init__", "History.__init__", defArgs s_History___init__, defBody s_History___init__, defScope s_History___init__, [], [("cut", .adr (Fk.kwdAt ("History", some "__init__") "cut"))]⟩
def d_History_check_names : He.DefD := ⟨("History", some "check_names"), "check_names", "History.check_names", defArgs s_History_check_names, defBody s_History_check_names, defScope s_History_check_names, [], []⟩
def d_History_check_pair : He.DefD := ⟨("History", some "check_pair"), "check_pair", "History.check_pair", defArgs s_History_check_pair, defBody s_History_check_pair, defScope s_History_check_pair, [], []⟩
def d_History_below : He.DefD := ⟨("History", some "below"), "below", "History.below", defArgs s_History_below, defBody s_History_below, defScope s_History_below, [], []⟩
def d_History_searched : He.DefD := ⟨("History", some "searched"), "searched", "History.searched", defArgs s_History_searched, defBody s_History_searched, defScope s_History_searched, [], []⟩
def d_History_reaches : He.DefD := ⟨("History", some "reaches"), "reaches", "History.reaches", defArgs s_History_reaches, defBody s_History_reaches, defScope s_History_reaches, [], []⟩
def d_Search___init__ : He.DefD := ⟨("Search", some "__init__"), "__init__", "Search.__init__", defArgs s_Search___init__, defBody s_Search___init__, defScope s_Search___init__, [], []⟩
def d_Search_marked : He.DefD := ⟨("Search", some "marked"), "marked", "Search.marked", defArgs s_Search_marked, defBody s_Search_marked, defScope s_Search_marked, [], []⟩
def d_Search_mark : He.DefD := ⟨("Search", some "mark"), "mark", "Search.mark", defArgs s_Search_mark, defBody s_Search_mark, defScope s_Search_mark, [], []⟩
def d_Search_bad : He.DefD := ⟨("Search", some "bad"), "bad", "Search.bad", defArgs s_Search_bad, defBody s_Search_bad, defScope s_Search_bad, [], []⟩
def d_Search_good : He.DefD := ⟨("Search", some "good"), "good", "Search.good", defArgs s_Search_good, defBody s_Search_good, defScope s_Search_good, [], []⟩
def d_Search_skip : He.DefD := ⟨("Search", some "skip"), "skip", "Search.skip", defArgs s_Search_skip, defBody s_Search_skip, defScope s_Search_skip, [], []⟩
def d_Search_undo : He.DefD := ⟨("Search", some "undo"), "undo", "Search.undo", defArgs s_Search_undo, defBody s_Search_undo, defScope s_Search_undo, [], []⟩
def d_Search_candidates : He.DefD := ⟨("Search", some "candidates"), "candidates", "Search.candidates", defArgs s_Search_candidates, defBody s_Search_candidates, defScope s_Search_candidates, [], []⟩
def d_Search_next : He.DefD := ⟨("Search", some "next"), "next", "Search.next", defArgs s_Search_next, defBody s_Search_next, defScope s_Search_next, [], []⟩
def d_Search_found : He.DefD := ⟨("Search", some "found"), "found", "Search.found", defArgs s_Search_found, defBody s_Search_found, defScope s_Search_found, [], []⟩
def d_encode_tree : He.DefD := ⟨("encode_tree", none), "encode_tree", "encode_tree", defArgs s_encode_tree, defBody s_encode_tree, defScope s_encode_tree, [], []⟩
def d_encode_commit : He.DefD := ⟨("encode_commit", none), "encode_commit", "encode_commit", defArgs s_encode_commit, defBody s_encode_commit, defScope s_encode_commit, [], []⟩
def d_encode : He.DefD := ⟨("encode", none), "encode", "encode", defArgs s_encode, defBody s_encode, defScope s_encode, [], []⟩
def d_sum_of : He.DefD := ⟨("sum_of", none), "sum_of", "sum_of", defArgs s_sum_of, defBody s_sum_of, defScope s_sum_of, [], [("short", .bl false)]⟩
def d_id_of : He.DefD := ⟨("id_of", none), "id_of", "id_of", defArgs s_id_of, defBody s_id_of, defScope s_id_of, [], [("short", .bl false)]⟩
def d_Store___init__ : He.DefD := ⟨("Store", some "__init__"), "__init__", "Store.__init__", defArgs s_Store___init__, defBody s_Store___init__, defScope s_Store___init__, [], [("short", .bl false)]⟩
def d_Store_put : He.DefD := ⟨("Store", some "put"), "put", "Store.put", defArgs s_Store_put, defBody s_Store_put, defScope s_Store_put, [], []⟩
def d_Store___contains__ : He.DefD := ⟨("Store", some "__contains__"), "__contains__", "Store.__contains__", defArgs s_Store___contains__, defBody s_Store___contains__, defScope s_Store___contains__, [], []⟩
def d_Store___getitem__ : He.DefD := ⟨("Store", some "__getitem__"), "__getitem__", "Store.__getitem__", defArgs s_Store___getitem__, defBody s_Store___getitem__, defScope s_Store___getitem__, [], []⟩
def d_Store___iter__ : He.DefD := ⟨("Store", some "__iter__"), "__iter__", "Store.__iter__", defArgs s_Store___iter__, defBody s_Store___iter__, defScope s_Store___iter__, [], []⟩
def d_Store___len__ : He.DefD := ⟨("Store", some "__len__"), "__len__", "Store.__len__", defArgs s_Store___len__, defBody s_Store___len__, defScope s_Store___len__, [], []⟩
def d_Store_ids : He.DefD := ⟨("Store", some "ids"), "ids", "Store.ids", defArgs s_Store_ids, defBody s_Store_ids, defScope s_Store_ids, [], []⟩
def d__law_draw : He.DefD := ⟨("_law_draw", none), "_law_draw", "_law_draw", defArgs s__law_draw, defBody s__law_draw, defScope s__law_draw, [], []⟩
def d__law_shuffled : He.DefD := ⟨("_law_shuffled", none), "_law_shuffled", "_law_shuffled", defArgs s__law_shuffled, defBody s__law_shuffled, defScope s__law_shuffled, [], []⟩
def d__law_history : He.DefD := ⟨("_law_history", none), "_law_history", "_law_history", defArgs s__law_history, defBody s__law_history, defScope s__law_history, [], []⟩
def d__law_reached : He.DefD := ⟨("_law_reached", none), "_law_reached", "_law_reached", defArgs s__law_reached, defBody s__law_reached, defScope s__law_reached, [], []⟩
def d__law_candidates : He.DefD := ⟨("_law_candidates", none), "_law_candidates", "_law_candidates", defArgs s__law_candidates, defBody s__law_candidates, defScope s__law_candidates, [], []⟩
def d__law_called : He.DefD := ⟨("_law_called", none), "_law_called", "_law_called", defArgs s__law_called, defBody s__law_called, defScope s__law_called, [], []⟩
def d__law_right : He.DefD := ⟨("_law_right", none), "_law_right", "_law_right", defArgs s__law_right, defBody s__law_right, defScope s__law_right, [], []⟩
def d_law : He.DefD := ⟨("law", none), "law", "law", defArgs s_law, defBody s_law, defScope s_law, [], []⟩
def fn : List He.DefD := [d__wall, d_is_whole, d_is_count, d_is_time, d_has_only, d_is_id, d_is_segment, d_is_author, d_is_text, d_are_ids, d_Blob___init__, d_Blob___eq__, d_is_entry, d_Tree___init__, d_Tree___eq__, d_are_parents, d_Commit___init__, d_Commit___eq__, d_Tag___init__, d_Tag___eq__, d_is_object, d_commit_of, d_History___init__, d_History_check_names, d_History_check_pair, d_History_below, d_History_searched, d_History_reaches, d_Search___init__, d_Search_marked, d_Search_mark, d_Search_bad, d_Search_good, d_Search_skip, d_Search_undo, d_Search_candidates, d_Search_next, d_Search_found, d_encode_tree, d_encode_commit, d_encode, d_sum_of, d_id_of, d_Store___init__, d_Store_put, d_Store___contains__, d_Store___getitem__, d_Store___iter__, d_Store___len__, d_Store_ids, d__law_draw, d__law_shuffled, d__law_history, d__law_reached, d__law_candidates, d__law_called, d__law_right, d_law]
def i_ForkError : Fk.IniD := ⟨"ForkError", "ForkError.__init__", defArgs s_ForkError___init__, defBody s_ForkError___init__, defScope s_ForkError___init__, [.str ""]⟩
def i_BadObject : Fk.IniD := ⟨"BadObject", "BadObject.__init__", defArgs s_BadObject___init__, defBody s_BadObject___init__, defScope s_BadObject___init__, []⟩
def i_Clash : Fk.IniD := ⟨"Clash", "Clash.__init__", defArgs s_Clash___init__, defBody s_Clash___init__, defScope s_Clash___init__, []⟩
def i_NoObject : Fk.IniD := ⟨"NoObject", "NoObject.__init__", defArgs s_NoObject___init__, defBody s_NoObject___init__, defScope s_NoObject___init__, []⟩
def inis : List Fk.IniD := [i_ForkError, i_BadObject, i_Clash, i_NoObject]
def e_ForkError : Fk.ErrD := ⟨"ForkError", "ForkError", "ForkError", false, "why", "why"⟩
def e_BadName : Fk.ErrD := ⟨"BadName", "ForkError", "ForkError", false, "why", "why"⟩
def e_BadMark : Fk.ErrD := ⟨"BadMark", "ForkError", "ForkError", false, "why", "why"⟩
def e_BadObject : Fk.ErrD := ⟨"BadObject", "BadObject", "ForkError", false, "at", "why"⟩
def e_Clash : Fk.ErrD := ⟨"Clash", "Clash", "ForkError", false, "name", "why"⟩
def e_NoObject : Fk.ErrD := ⟨"NoObject", "NoObject", "NoObject", true, "name", "name"⟩
def errs : List Fk.ErrD := [e_ForkError, e_BadName, e_BadMark, e_BadObject, e_Clash, e_NoObject]
def g_Blob_text : Fk.DefP := ⟨fun K => Fk.prG K (He.ga K "Blob") "text", "text", "Blob.text", defArgs s_Blob_text, defBody s_Blob_text, defScope s_Blob_text⟩
def g_Tree_entries : Fk.DefP := ⟨fun K => Fk.prG K (He.ga K "Tree") "entries", "entries", "Tree.entries", defArgs s_Tree_entries, defBody s_Tree_entries, defScope s_Tree_entries⟩
def g_Commit_tree : Fk.DefP := ⟨fun K => Fk.prG K (He.ga K "Commit") "tree", "tree", "Commit.tree", defArgs s_Commit_tree, defBody s_Commit_tree, defScope s_Commit_tree⟩
def g_Commit_parents : Fk.DefP := ⟨fun K => Fk.prG K (He.ga K "Commit") "parents", "parents", "Commit.parents", defArgs s_Commit_parents, defBody s_Commit_parents, defScope s_Commit_parents⟩
def g_Commit_author : Fk.DefP := ⟨fun K => Fk.prG K (He.ga K "Commit") "author", "author", "Commit.author", defArgs s_Commit_author, defBody s_Commit_author, defScope s_Commit_author⟩
def g_Commit_time : Fk.DefP := ⟨fun K => Fk.prG K (He.ga K "Commit") "time", "time", "Commit.time", defArgs s_Commit_time, defBody s_Commit_time, defScope s_Commit_time⟩
def g_Commit_message : Fk.DefP := ⟨fun K => Fk.prG K (He.ga K "Commit") "message", "message", "Commit.message", defArgs s_Commit_message, defBody s_Commit_message, defScope s_Commit_message⟩
def g_Tag_target : Fk.DefP := ⟨fun K => Fk.prG K (He.ga K "Tag") "target", "target", "Tag.target", defArgs s_Tag_target, defBody s_Tag_target, defScope s_Tag_target⟩
def g_Tag_label : Fk.DefP := ⟨fun K => Fk.prG K (He.ga K "Tag") "label", "label", "Tag.label", defArgs s_Tag_label, defBody s_Tag_label, defScope s_Tag_label⟩
def g_Tag_message : Fk.DefP := ⟨fun K => Fk.prG K (He.ga K "Tag") "message", "message", "Tag.message", defArgs s_Tag_message, defBody s_Tag_message, defScope s_Tag_message⟩
def gets : List Fk.DefP := [g_Blob_text, g_Tree_entries, g_Commit_tree, g_Commit_parents, g_Commit_author, g_Commit_time, g_Commit_message, g_Tag_target, g_Tag_label, g_Tag_message]
def props : List (PySem.Str × PySem.Str) := [("Blob", "text"), ("Tree", "entries"), ("Commit", "tree"), ("Commit", "parents"), ("Commit", "author"), ("Commit", "time"), ("Commit", "message"), ("Tag", "target"), ("Tag", "label"), ("Tag", "message")]
def fa0 : List He.Fa := [.glo "_wall", .glo "ForkError", .glo "BadName", .glo "BadMark", .glo "BadObject", .glo "Clash", .glo "NoObject", .str "SMALL" "abcdefghijklmnopqrstuvwxyz", .str "DIGITS" "0123456789", .str "HEX" "0123456789abcdef", .int "ID_LENGTH" 16, .int "MOST_SEGMENT" 12, .int "MOST_TEXT" 2000, .int "MOST_MESSAGE" 200, .int "MOST_TIME" 1000000000000, .glo "is_whole", .glo "is_count", .glo "is_time", .glo "has_only", .glo "is_id", .glo "is_segment", .glo "is_author", .glo "is_text", .glo "are_ids", .glo "KINDS", .int "MOST_ENTRIES" 30, .int "MOST_PARENTS" 6, .glo "Blob", .glo "is_entry", .glo "Tree"]
def fa1 : List He.Fa := [.glo "are_parents", .glo "Commit", .glo "Tag", .glo "is_object", .glo "commit_of", .glo "History", .glo "Search", .int "LONG" 2305843009213693951, .int "SHORT" 251, .int "FACTOR" 1000003, .glo "encode_tree", .glo "encode_commit", .glo "encode", .glo "sum_of", .glo "id_of", .glo "Store", .glo "_law_draw", .glo "_law_shuffled", .glo "_law_history", .glo "_law_reached", .glo "_law_candidates", .glo "_law_called", .glo "_law_right", .glo "law", .cls "Blob", .mkr "Blob", .noat "Blob" "held", .meth "Blob" "__init__", .meth "Blob" "__eq__", .cls "Tree"]
def fa2 : List He.Fa := [.mkr "Tree", .noat "Tree" "held", .meth "Tree" "__init__", .meth "Tree" "__eq__", .cls "Commit", .mkr "Commit", .noat "Commit" "held", .meth "Commit" "__init__", .meth "Commit" "__eq__", .cls "Tag", .mkr "Tag", .noat "Tag" "held", .meth "Tag" "__init__", .meth "Tag" "__eq__", .cls "History", .mkr "History", .noat "History" "held", .noat "History" "ends", .noat "History" "known", .noat "History" "depths", .meth "History" "__init__", .meth "History" "check_names", .meth "History" "check_pair", .meth "History" "below", .meth "History" "searched", .meth "History" "reaches", .cls "Search", .mkr "Search", .noat "Search" "past", .noat "Search" "marks"]
def fa3 : List He.Fa := [.meth "Search" "__init__", .meth "Search" "marked", .meth "Search" "mark", .meth "Search" "bad", .meth "Search" "good", .meth "Search" "skip", .meth "Search" "undo", .meth "Search" "candidates", .meth "Search" "next", .meth "Search" "found", .cls "Store", .mkr "Store", .noat "Store" "short", .noat "Store" "kept", .meth "Store" "__init__", .meth "Store" "put", .meth "Store" "__contains__", .meth "Store" "__getitem__", .meth "Store" "__iter__", .meth "Store" "__len__", .meth "Store" "ids", .free "len", .free "int", .free "range", .free "isinstance", .free "str", .free "super", .free "all", .free "any", .free "sorted"]
def fa4 : List He.Fa := [.free "tuple", .free "dict", .free "list", .free "bool", .free "zip", .free "bytes", .free "min", .free "max", .free "enumerate", .free "sum"]
def fa : List He.Fa := fa0 ++ fa1 ++ fa2 ++ fa3 ++ fa4
def loose0 : List PySem.Str := ["_wall", "ForkError", "BadName", "BadMark", "BadObject", "Clash", "NoObject", "SMALL", "DIGITS", "HEX", "ID_LENGTH", "MOST_SEGMENT", "MOST_TEXT", "MOST_MESSAGE", "MOST_TIME", "is_whole", "is_count", "is_time", "has_only", "is_id", "is_segment", "is_author", "is_text", "are_ids", "KINDS"]
def loose1 : List PySem.Str := ["MOST_ENTRIES", "MOST_PARENTS", "Blob", "is_entry", "Tree", "are_parents", "Commit", "Tag", "is_object", "commit_of", "History", "Search", "LONG", "SHORT", "FACTOR", "encode_tree", "encode_commit", "encode", "sum_of", "id_of", "Store", "_law_draw", "_law_shuffled", "_law_history", "_law_reached"]
def loose2 : List PySem.Str := ["_law_candidates", "_law_called", "_law_right"]
def loose : List PySem.Str := loose0 ++ loose1 ++ loose2
def hxs : List Fk.ErrD := [e_BadMark]
def own : List PySem.Str := ["Blob", "Tree", "Commit", "Tag", "History", "Search", "Store"]
def emps : List (PySem.W.Frag → Addr) := [He.dflAt ("Commit", some "__init__") 0, Fk.kwdAt ("History", some "__init__") "cut"]
def tups : List (PySem.Str × List He.Dv) := [("KINDS", [.str "file", .str "exec", .str "dir"])]
def exl (K : PySem.W.Frag) : List Bool := [errs.all fun e => e.ok K, props.all fun p => Fk.prB K (He.ga K p.1) p.2, own.all fun c => Fk.ownB K own c, own.all fun c => Fk.neB K c, tups.all fun p => He.tupB K p.1 p.2, emps.all fun a => Fk.emT K (a K), errs.all fun e => hxs.all fun x => decide (PySem.W.exmOne K (.ref (He.ga K e.cls)) (.ref (He.ga K x.cls)) = some (Rf.subE x.cls e.cls)), Fk.noL K]
def exx (K : PySem.W.Frag) : Bool := (exl K).all id
abbrev FILE : Str := PySem.Challenge.pw_forkhaul_k56_candidates_of_searches.main.file
structure Ctx (K : PySem.W.Frag) (mg : Str → Option Value) : Prop where
  ex : ∃ h : Heap, K.In h ∧ h.Ns mainGlobals mg
  z : Fk.SaysZ FILE fa fn inis gets exx K
theorem Ctx.y {K : PySem.W.Frag} {mg : Str → Option Value} (T : Ctx K mg) : Fk.SaysY FILE fa fn inis exx K := T.z.y
theorem Ctx.c {K : PySem.W.Frag} {mg : Str → Option Value} (T : Ctx K mg) : He.SaysD fa fn K := T.y.d
section
variable {K : PySem.W.Frag} {mg : Str → Option Value}
theorem Ctx.glo (T : Ctx K mg) (i : Nat) {x : Str} (h : fa[i]? = some (.glo x) := by rfl) : mg x = some (.ref (He.ga K x)) := by
  obtain ⟨h0, X, G⟩ := T.ex
  exact He.glo_ok X G (T.c.fact i h)
theorem Ctx.fre (T : Ctx K mg) (i : Nat) {x : Str} (h : fa[i]? = some (.free x) := by rfl) : mg x = none := by
  obtain ⟨h0, X, G⟩ := T.ex
  exact He.free_ok X G (T.c.fact i h)
theorem Ctx.int (T : Ctx K mg) (i : Nat) {x : Str} {n : Int} (h : fa[i]? = some (.int x n) := by rfl) : ∃ t, mg x = some (.int n t) := by
  obtain ⟨h0, X, G⟩ := T.ex
  exact He.int_ok X G (T.c.fact i h)
theorem Ctx.str (T : Ctx K mg) (i : Nat) {x z : Str} (h : fa[i]? = some (.str x z) := by rfl) : ∃ t, mg x = some (.str z t) := by
  obtain ⟨h0, X, G⟩ := T.ex
  exact He.str_ok X G (T.c.fact i h)
theorem Ctx.g__wall (T : Ctx K mg) : mg "_wall" = some (.ref (He.ga K "_wall")) := T.glo 0
theorem Ctx.g_ForkError (T : Ctx K mg) : mg "ForkError" = some (.ref (He.ga K "ForkError")) := T.glo 1
theorem Ctx.g_BadName (T : Ctx K mg) : mg "BadName" = some (.ref (He.ga K "BadName")) := T.glo 2
theorem Ctx.g_BadMark (T : Ctx K mg) : mg "BadMark" = some (.ref (He.ga K "BadMark")) := T.glo 3
theorem Ctx.g_BadObject (T : Ctx K mg) : mg "BadObject" = some (.ref (He.ga K "BadObject")) := T.glo 4
theorem Ctx.g_Clash (T : Ctx K mg) : mg "Clash" = some (.ref (He.ga K "Clash")) := T.glo 5
theorem Ctx.g_NoObject (T : Ctx K mg) : mg "NoObject" = some (.ref (He.ga K "NoObject")) := T.glo 6
theorem Ctx.c_SMALL {X : Cx} {pos : Pos} (T : Ctx X.K X.mg) (hg : Gl X "SMALL") : PE X (.Name "SMALL" pos) (tC (.str "abcdefghijklmnopqrstuvwxyz")) := by
  obtain ⟨t, e⟩ := T.str 7 (x := "SMALL") (z := "abcdefghijklmnopqrstuvwxyz")
  exact pe_glob hg e ⟨t, rfl⟩
theorem Ctx.c_DIGITS {X : Cx} {pos : Pos} (T : Ctx X.K X.mg) (hg : Gl X "DIGITS") : PE X (.Name "DIGITS" pos) (tC (.str "0123456789")) := by
  obtain ⟨t, e⟩ := T.str 8 (x := "DIGITS") (z := "0123456789")
  exact pe_glob hg e ⟨t, rfl⟩
theorem Ctx.c_HEX {X : Cx} {pos : Pos} (T : Ctx X.K X.mg) (hg : Gl X "HEX") : PE X (.Name "HEX" pos) (tC (.str "0123456789abcdef")) := by
  obtain ⟨t, e⟩ := T.str 9 (x := "HEX") (z := "0123456789abcdef")
  exact pe_glob hg e ⟨t, rfl⟩
theorem Ctx.c_ID_LENGTH {X : Cx} {pos : Pos} (T : Ctx X.K X.mg) (hg : Gl X "ID_LENGTH") : PE X (.Name "ID_LENGTH" pos) (tC (.int 16)) := by
  obtain ⟨t, e⟩ := T.int 10 (x := "ID_LENGTH") (n := 16)
  exact pe_glob hg e ⟨t, rfl⟩
theorem Ctx.c_MOST_SEGMENT {X : Cx} {pos : Pos} (T : Ctx X.K X.mg) (hg : Gl X "MOST_SEGMENT") : PE X (.Name "MOST_SEGMENT" pos) (tC (.int 12)) := by
  obtain ⟨t, e⟩ := T.int 11 (x := "MOST_SEGMENT") (n := 12)
  exact pe_glob hg e ⟨t, rfl⟩
theorem Ctx.c_MOST_TEXT {X : Cx} {pos : Pos} (T : Ctx X.K X.mg) (hg : Gl X "MOST_TEXT") : PE X (.Name "MOST_TEXT" pos) (tC (.int 2000)) := by
  obtain ⟨t, e⟩ := T.int 12 (x := "MOST_TEXT") (n := 2000)
  exact pe_glob hg e ⟨t, rfl⟩
theorem Ctx.c_MOST_MESSAGE {X : Cx} {pos : Pos} (T : Ctx X.K X.mg) (hg : Gl X "MOST_MESSAGE") : PE X (.Name "MOST_MESSAGE" pos) (tC (.int 200)) := by
  obtain ⟨t, e⟩ := T.int 13 (x := "MOST_MESSAGE") (n := 200)
  exact pe_glob hg e ⟨t, rfl⟩
theorem Ctx.c_MOST_TIME {X : Cx} {pos : Pos} (T : Ctx X.K X.mg) (hg : Gl X "MOST_TIME") : PE X (.Name "MOST_TIME" pos) (tC (.int 1000000000000)) := by
  obtain ⟨t, e⟩ := T.int 14 (x := "MOST_TIME") (n := 1000000000000)
  exact pe_glob hg e ⟨t, rfl⟩
theorem Ctx.g_is_whole (T : Ctx K mg) : mg "is_whole" = some (.ref (He.ga K "is_whole")) := T.glo 15
theorem Ctx.g_is_count (T : Ctx K mg) : mg "is_count" = some (.ref (He.ga K "is_count")) := T.glo 16
theorem Ctx.g_is_time (T : Ctx K mg) : mg "is_time" = some (.ref (He.ga K "is_time")) := T.glo 17
theorem Ctx.g_has_only (T : Ctx K mg) : mg "has_only" = some (.ref (He.ga K "has_only")) := T.glo 18
theorem Ctx.g_is_id (T : Ctx K mg) : mg "is_id" = some (.ref (He.ga K "is_id")) := T.glo 19
theorem Ctx.g_is_segment (T : Ctx K mg) : mg "is_segment" = some (.ref (He.ga K "is_segment")) := T.glo 20
theorem Ctx.g_is_author (T : Ctx K mg) : mg "is_author" = some (.ref (He.ga K "is_author")) := T.glo 21
theorem Ctx.g_is_text (T : Ctx K mg) : mg "is_text" = some (.ref (He.ga K "is_text")) := T.glo 22
theorem Ctx.g_are_ids (T : Ctx K mg) : mg "are_ids" = some (.ref (He.ga K "are_ids")) := T.glo 23
theorem Ctx.g_KINDS (T : Ctx K mg) : mg "KINDS" = some (.ref (He.ga K "KINDS")) := T.glo 24
theorem Ctx.c_MOST_ENTRIES {X : Cx} {pos : Pos} (T : Ctx X.K X.mg) (hg : Gl X "MOST_ENTRIES") : PE X (.Name "MOST_ENTRIES" pos) (tC (.int 30)) := by
  obtain ⟨t, e⟩ := T.int 25 (x := "MOST_ENTRIES") (n := 30)
  exact pe_glob hg e ⟨t, rfl⟩
theorem Ctx.c_MOST_PARENTS {X : Cx} {pos : Pos} (T : Ctx X.K X.mg) (hg : Gl X "MOST_PARENTS") : PE X (.Name "MOST_PARENTS" pos) (tC (.int 6)) := by
  obtain ⟨t, e⟩ := T.int 26 (x := "MOST_PARENTS") (n := 6)
  exact pe_glob hg e ⟨t, rfl⟩
theorem Ctx.g_Blob (T : Ctx K mg) : mg "Blob" = some (.ref (He.ga K "Blob")) := T.glo 27
theorem Ctx.g_is_entry (T : Ctx K mg) : mg "is_entry" = some (.ref (He.ga K "is_entry")) := T.glo 28
theorem Ctx.g_Tree (T : Ctx K mg) : mg "Tree" = some (.ref (He.ga K "Tree")) := T.glo 29
theorem Ctx.g_are_parents (T : Ctx K mg) : mg "are_parents" = some (.ref (He.ga K "are_parents")) := T.glo 30
theorem Ctx.g_Commit (T : Ctx K mg) : mg "Commit" = some (.ref (He.ga K "Commit")) := T.glo 31
theorem Ctx.g_Tag (T : Ctx K mg) : mg "Tag" = some (.ref (He.ga K "Tag")) := T.glo 32
theorem Ctx.g_is_object (T : Ctx K mg) : mg "is_object" = some (.ref (He.ga K "is_object")) := T.glo 33
theorem Ctx.g_commit_of (T : Ctx K mg) : mg "commit_of" = some (.ref (He.ga K "commit_of")) := T.glo 34
theorem Ctx.g_History (T : Ctx K mg) : mg "History" = some (.ref (He.ga K "History")) := T.glo 35
theorem Ctx.g_Search (T : Ctx K mg) : mg "Search" = some (.ref (He.ga K "Search")) := T.glo 36
theorem Ctx.c_LONG {X : Cx} {pos : Pos} (T : Ctx X.K X.mg) (hg : Gl X "LONG") : PE X (.Name "LONG" pos) (tC (.int 2305843009213693951)) := by
  obtain ⟨t, e⟩ := T.int 37 (x := "LONG") (n := 2305843009213693951)
  exact pe_glob hg e ⟨t, rfl⟩
theorem Ctx.c_SHORT {X : Cx} {pos : Pos} (T : Ctx X.K X.mg) (hg : Gl X "SHORT") : PE X (.Name "SHORT" pos) (tC (.int 251)) := by
  obtain ⟨t, e⟩ := T.int 38 (x := "SHORT") (n := 251)
  exact pe_glob hg e ⟨t, rfl⟩
theorem Ctx.c_FACTOR {X : Cx} {pos : Pos} (T : Ctx X.K X.mg) (hg : Gl X "FACTOR") : PE X (.Name "FACTOR" pos) (tC (.int 1000003)) := by
  obtain ⟨t, e⟩ := T.int 39 (x := "FACTOR") (n := 1000003)
  exact pe_glob hg e ⟨t, rfl⟩
theorem Ctx.g_encode_tree (T : Ctx K mg) : mg "encode_tree" = some (.ref (He.ga K "encode_tree")) := T.glo 40
theorem Ctx.g_encode_commit (T : Ctx K mg) : mg "encode_commit" = some (.ref (He.ga K "encode_commit")) := T.glo 41
theorem Ctx.g_encode (T : Ctx K mg) : mg "encode" = some (.ref (He.ga K "encode")) := T.glo 42
theorem Ctx.g_sum_of (T : Ctx K mg) : mg "sum_of" = some (.ref (He.ga K "sum_of")) := T.glo 43
theorem Ctx.g_id_of (T : Ctx K mg) : mg "id_of" = some (.ref (He.ga K "id_of")) := T.glo 44
theorem Ctx.g_Store (T : Ctx K mg) : mg "Store" = some (.ref (He.ga K "Store")) := T.glo 45
theorem Ctx.g__law_draw (T : Ctx K mg) : mg "_law_draw" = some (.ref (He.ga K "_law_draw")) := T.glo 46
theorem Ctx.g__law_shuffled (T : Ctx K mg) : mg "_law_shuffled" = some (.ref (He.ga K "_law_shuffled")) := T.glo 47
theorem Ctx.g__law_history (T : Ctx K mg) : mg "_law_history" = some (.ref (He.ga K "_law_history")) := T.glo 48
theorem Ctx.g__law_reached (T : Ctx K mg) : mg "_law_reached" = some (.ref (He.ga K "_law_reached")) := T.glo 49
theorem Ctx.g__law_candidates (T : Ctx K mg) : mg "_law_candidates" = some (.ref (He.ga K "_law_candidates")) := T.glo 50
theorem Ctx.g__law_called (T : Ctx K mg) : mg "_law_called" = some (.ref (He.ga K "_law_called")) := T.glo 51
theorem Ctx.g__law_right (T : Ctx K mg) : mg "_law_right" = some (.ref (He.ga K "_law_right")) := T.glo 52
theorem Ctx.g_law (T : Ctx K mg) : mg "law" = some (.ref (He.ga K "law")) := T.glo 53
theorem Ctx.k_Blob (T : Ctx K mg) : Cls K (He.ga K "Blob") := He.cls_ok (T.c.fact 54 rfl)
theorem Ctx.mk_Blob (T : Ctx K mg) : Mk K (He.ga K "Blob") (He.ma K (He.ga K "Blob") "__init__") := He.mkr_ok (T.c.fact 55 rfl)
theorem Ctx.n_Blob_held (T : Ctx K mg) : NoAttr K (He.ga K "Blob") "held" := He.noat_ok (T.c.fact 56 rfl)
theorem Ctx.m_Blob___init__ (T : Ctx K mg) : Meth K (He.ga K "Blob") "__init__" (He.ma K (He.ga K "Blob") "__init__") := He.meth_ok (T.c.fact 57 rfl)
theorem Ctx.m_Blob___eq__ (T : Ctx K mg) : Meth K (He.ga K "Blob") "__eq__" (He.ma K (He.ga K "Blob") "__eq__") := He.meth_ok (T.c.fact 58 rfl)
theorem Ctx.k_Tree (T : Ctx K mg) : Cls K (He.ga K "Tree") := He.cls_ok (T.c.fact 59 rfl)
theorem Ctx.mk_Tree (T : Ctx K mg) : Mk K (He.ga K "Tree") (He.ma K (He.ga K "Tree") "__init__") := He.mkr_ok (T.c.fact 60 rfl)
theorem Ctx.n_Tree_held (T : Ctx K mg) : NoAttr K (He.ga K "Tree") "held" := He.noat_ok (T.c.fact 61 rfl)
theorem Ctx.m_Tree___init__ (T : Ctx K mg) : Meth K (He.ga K "Tree") "__init__" (He.ma K (He.ga K "Tree") "__init__") := He.meth_ok (T.c.fact 62 rfl)
theorem Ctx.m_Tree___eq__ (T : Ctx K mg) : Meth K (He.ga K "Tree") "__eq__" (He.ma K (He.ga K "Tree") "__eq__") := He.meth_ok (T.c.fact 63 rfl)
theorem Ctx.k_Commit (T : Ctx K mg) : Cls K (He.ga K "Commit") := He.cls_ok (T.c.fact 64 rfl)
theorem Ctx.mk_Commit (T : Ctx K mg) : Mk K (He.ga K "Commit") (He.ma K (He.ga K "Commit") "__init__") := He.mkr_ok (T.c.fact 65 rfl)
theorem Ctx.n_Commit_held (T : Ctx K mg) : NoAttr K (He.ga K "Commit") "held" := He.noat_ok (T.c.fact 66 rfl)
theorem Ctx.m_Commit___init__ (T : Ctx K mg) : Meth K (He.ga K "Commit") "__init__" (He.ma K (He.ga K "Commit") "__init__") := He.meth_ok (T.c.fact 67 rfl)
theorem Ctx.m_Commit___eq__ (T : Ctx K mg) : Meth K (He.ga K "Commit") "__eq__" (He.ma K (He.ga K "Commit") "__eq__") := He.meth_ok (T.c.fact 68 rfl)
theorem Ctx.k_Tag (T : Ctx K mg) : Cls K (He.ga K "Tag") := He.cls_ok (T.c.fact 69 rfl)
theorem Ctx.mk_Tag (T : Ctx K mg) : Mk K (He.ga K "Tag") (He.ma K (He.ga K "Tag") "__init__") := He.mkr_ok (T.c.fact 70 rfl)
theorem Ctx.n_Tag_held (T : Ctx K mg) : NoAttr K (He.ga K "Tag") "held" := He.noat_ok (T.c.fact 71 rfl)
theorem Ctx.m_Tag___init__ (T : Ctx K mg) : Meth K (He.ga K "Tag") "__init__" (He.ma K (He.ga K "Tag") "__init__") := He.meth_ok (T.c.fact 72 rfl)
theorem Ctx.m_Tag___eq__ (T : Ctx K mg) : Meth K (He.ga K "Tag") "__eq__" (He.ma K (He.ga K "Tag") "__eq__") := He.meth_ok (T.c.fact 73 rfl)
theorem Ctx.k_History (T : Ctx K mg) : Cls K (He.ga K "History") := He.cls_ok (T.c.fact 74 rfl)
theorem Ctx.mk_History (T : Ctx K mg) : Mk K (He.ga K "History") (He.ma K (He.ga K "History") "__init__") := He.mkr_ok (T.c.fact 75 rfl)
theorem Ctx.n_History_held (T : Ctx K mg) : NoAttr K (He.ga K "History") "held" := He.noat_ok (T.c.fact 76 rfl)
theorem Ctx.n_History_ends (T : Ctx K mg) : NoAttr K (He.ga K "History") "ends" := He.noat_ok (T.c.fact 77 rfl)
theorem Ctx.n_History_known (T : Ctx K mg) : NoAttr K (He.ga K "History") "known" := He.noat_ok (T.c.fact 78 rfl)
theorem Ctx.n_History_depths (T : Ctx K mg) : NoAttr K (He.ga K "History") "depths" := He.noat_ok (T.c.fact 79 rfl)
theorem Ctx.m_History___init__ (T : Ctx K mg) : Meth K (He.ga K "History") "__init__" (He.ma K (He.ga K "History") "__init__") := He.meth_ok (T.c.fact 80 rfl)
theorem Ctx.m_History_check_names (T : Ctx K mg) : Meth K (He.ga K "History") "check_names" (He.ma K (He.ga K "History") "check_names") := He.meth_ok (T.c.fact 81 rfl)
theorem Ctx.m_History_check_pair (T : Ctx K mg) : Meth K (He.ga K "History") "check_pair" (He.ma K (He.ga K "History") "check_pair") := He.meth_ok (T.c.fact 82 rfl)
theorem Ctx.m_History_below (T : Ctx K mg) : Meth K (He.ga K "History") "below" (He.ma K (He.ga K "History") "below") := He.meth_ok (T.c.fact 83 rfl)
theorem Ctx.m_History_searched (T : Ctx K mg) : Meth K (He.ga K "History") "searched" (He.ma K (He.ga K "History") "searched") := He.meth_ok (T.c.fact 84 rfl)
theorem Ctx.m_History_reaches (T : Ctx K mg) : Meth K (He.ga K "History") "reaches" (He.ma K (He.ga K "History") "reaches") := He.meth_ok (T.c.fact 85 rfl)
theorem Ctx.k_Search (T : Ctx K mg) : Cls K (He.ga K "Search") := He.cls_ok (T.c.fact 86 rfl)
theorem Ctx.mk_Search (T : Ctx K mg) : Mk K (He.ga K "Search") (He.ma K (He.ga K "Search") "__init__") := He.mkr_ok (T.c.fact 87 rfl)
theorem Ctx.n_Search_past (T : Ctx K mg) : NoAttr K (He.ga K "Search") "past" := He.noat_ok (T.c.fact 88 rfl)
theorem Ctx.n_Search_marks (T : Ctx K mg) : NoAttr K (He.ga K "Search") "marks" := He.noat_ok (T.c.fact 89 rfl)
theorem Ctx.m_Search___init__ (T : Ctx K mg) : Meth K (He.ga K "Search") "__init__" (He.ma K (He.ga K "Search") "__init__") := He.meth_ok (T.c.fact 90 rfl)
theorem Ctx.m_Search_marked (T : Ctx K mg) : Meth K (He.ga K "Search") "marked" (He.ma K (He.ga K "Search") "marked") := He.meth_ok (T.c.fact 91 rfl)
theorem Ctx.m_Search_mark (T : Ctx K mg) : Meth K (He.ga K "Search") "mark" (He.ma K (He.ga K "Search") "mark") := He.meth_ok (T.c.fact 92 rfl)
theorem Ctx.m_Search_bad (T : Ctx K mg) : Meth K (He.ga K "Search") "bad" (He.ma K (He.ga K "Search") "bad") := He.meth_ok (T.c.fact 93 rfl)
theorem Ctx.m_Search_good (T : Ctx K mg) : Meth K (He.ga K "Search") "good" (He.ma K (He.ga K "Search") "good") := He.meth_ok (T.c.fact 94 rfl)
theorem Ctx.m_Search_skip (T : Ctx K mg) : Meth K (He.ga K "Search") "skip" (He.ma K (He.ga K "Search") "skip") := He.meth_ok (T.c.fact 95 rfl)
theorem Ctx.m_Search_undo (T : Ctx K mg) : Meth K (He.ga K "Search") "undo" (He.ma K (He.ga K "Search") "undo") := He.meth_ok (T.c.fact 96 rfl)
theorem Ctx.m_Search_candidates (T : Ctx K mg) : Meth K (He.ga K "Search") "candidates" (He.ma K (He.ga K "Search") "candidates") := He.meth_ok (T.c.fact 97 rfl)
theorem Ctx.m_Search_next (T : Ctx K mg) : Meth K (He.ga K "Search") "next" (He.ma K (He.ga K "Search") "next") := He.meth_ok (T.c.fact 98 rfl)
theorem Ctx.m_Search_found (T : Ctx K mg) : Meth K (He.ga K "Search") "found" (He.ma K (He.ga K "Search") "found") := He.meth_ok (T.c.fact 99 rfl)
theorem Ctx.k_Store (T : Ctx K mg) : Cls K (He.ga K "Store") := He.cls_ok (T.c.fact 100 rfl)
theorem Ctx.mk_Store (T : Ctx K mg) : Mk K (He.ga K "Store") (He.ma K (He.ga K "Store") "__init__") := He.mkr_ok (T.c.fact 101 rfl)
theorem Ctx.n_Store_short (T : Ctx K mg) : NoAttr K (He.ga K "Store") "short" := He.noat_ok (T.c.fact 102 rfl)
theorem Ctx.n_Store_kept (T : Ctx K mg) : NoAttr K (He.ga K "Store") "kept" := He.noat_ok (T.c.fact 103 rfl)
theorem Ctx.m_Store___init__ (T : Ctx K mg) : Meth K (He.ga K "Store") "__init__" (He.ma K (He.ga K "Store") "__init__") := He.meth_ok (T.c.fact 104 rfl)
theorem Ctx.m_Store_put (T : Ctx K mg) : Meth K (He.ga K "Store") "put" (He.ma K (He.ga K "Store") "put") := He.meth_ok (T.c.fact 105 rfl)
theorem Ctx.m_Store___contains__ (T : Ctx K mg) : Meth K (He.ga K "Store") "__contains__" (He.ma K (He.ga K "Store") "__contains__") := He.meth_ok (T.c.fact 106 rfl)
theorem Ctx.m_Store___getitem__ (T : Ctx K mg) : Meth K (He.ga K "Store") "__getitem__" (He.ma K (He.ga K "Store") "__getitem__") := He.meth_ok (T.c.fact 107 rfl)
theorem Ctx.m_Store___iter__ (T : Ctx K mg) : Meth K (He.ga K "Store") "__iter__" (He.ma K (He.ga K "Store") "__iter__") := He.meth_ok (T.c.fact 108 rfl)
theorem Ctx.m_Store___len__ (T : Ctx K mg) : Meth K (He.ga K "Store") "__len__" (He.ma K (He.ga K "Store") "__len__") := He.meth_ok (T.c.fact 109 rfl)
theorem Ctx.m_Store_ids (T : Ctx K mg) : Meth K (He.ga K "Store") "ids" (He.ma K (He.ga K "Store") "ids") := He.meth_ok (T.c.fact 110 rfl)
theorem Ctx.f_len (T : Ctx K mg) : mg "len" = none := T.fre 111
theorem Ctx.f_int (T : Ctx K mg) : mg "int" = none := T.fre 112
theorem Ctx.f_range (T : Ctx K mg) : mg "range" = none := T.fre 113
theorem Ctx.f_isinstance (T : Ctx K mg) : mg "isinstance" = none := T.fre 114
theorem Ctx.f_str (T : Ctx K mg) : mg "str" = none := T.fre 115
theorem Ctx.f_super (T : Ctx K mg) : mg "super" = none := T.fre 116
theorem Ctx.f_all (T : Ctx K mg) : mg "all" = none := T.fre 117
theorem Ctx.f_any (T : Ctx K mg) : mg "any" = none := T.fre 118
theorem Ctx.f_sorted (T : Ctx K mg) : mg "sorted" = none := T.fre 119
theorem Ctx.f_tuple (T : Ctx K mg) : mg "tuple" = none := T.fre 120
theorem Ctx.f_dict (T : Ctx K mg) : mg "dict" = none := T.fre 121
theorem Ctx.f_list (T : Ctx K mg) : mg "list" = none := T.fre 122
theorem Ctx.f_bool (T : Ctx K mg) : mg "bool" = none := T.fre 123
theorem Ctx.f_zip (T : Ctx K mg) : mg "zip" = none := T.fre 124
theorem Ctx.f_bytes (T : Ctx K mg) : mg "bytes" = none := T.fre 125
theorem Ctx.f_min (T : Ctx K mg) : mg "min" = none := T.fre 126
theorem Ctx.f_max (T : Ctx K mg) : mg "max" = none := T.fre 127
theorem Ctx.f_enumerate (T : Ctx K mg) : mg "enumerate" = none := T.fre 128
theorem Ctx.f_sum (T : Ctx K mg) : mg "sum" = none := T.fre 129
end
abbrev R : PySem.W.OpenRow := PySem.W.OpenLaw.row PySem.Challenge.rw_forkhaul_k56_candidates_of_searches
abbrev hk : PySem.W.Hook := Fk.hookF FILE 5 fa fn inis gets exx
def ob (s : PySem.W.SharedT) : Fk.AlZ := Fk.obsFG FILE 5 fa fn inis gets exx (HandSHeadRun.getT s)
theorem ob_eq (s : PySem.W.SharedT) : ob s = hk.obs s.abs := Fk.obsFG_eq (HandSHeadRun.getT_eq s)
theorem run (w : World) : HandSHeadRun.RunEq R (PySem.W.view R.prog [61]) hk ob 60000 loose w := by
  intro os
  kernel_rfl
end K56
namespace Fk
open PySem PySem.Spec PyProof.Rows L2
/-! ### == by an own __eq__, both answers -/
/-- the class C has the own __eq__ at f that keeps sp -/
structure EqM (P : Program) (w : World) (K : PySem.W.Frag) (mg : Str → Option Value) (base : Heap) (k : Nat) (C : Addr) (sp : Sp) : Prop where
  ex : ∃ (f : Addr) (fd : FuncData) (ps : List Str), FnOk P w K mg base CX0 k f fd ps sp ∧ PySem.W.findIn K (.ref C) "__eq__" = some (some (.ref f)) ∧ PySem.W.isFn K (.ref f) = true ∧ Binds K fd ps []
/-- x == y, x an instance of C -/
def rEqO (K : PySem.W.Frag) (C : Addr) (sp : Sp) : R2 := fun x y H Q => ∃ (a dx : Addr) (fs : List (Str × V)) (tb : Value), x = .ref a ∧ H a = some (.ins C dx fs) ∧ TyX K H y tb ∧ PySem.W.notFirst K C tb = true ∧ sp [x, y] H (fun v H' => ∃ b, v = .bl b ∧ Q (.bl b) H') E0
section
variable {X : Cx} {n : Nat} {C : Addr} {sp : Sp}
theorem run_eqO {pins : List (Addr × Obj)} {σ : L2.St} {H : Hp} {s : Shared} {a : Addr} {y : V} {u : Value} {Qv : Bool → Hp → Prop} {A : Around} {f : Addr} {fd : FuncData} {ps : List Str} {E : Value → Shared → Prop} (F : FnOk X.prog X.w X.K X.mg X.base CX0 n f fd ps sp) (hb : Binds X.K fd ps [])
    (sb : L2.Sub X n A) (I : Inv X pins σ H s) (ry : RelV y u) (h : sp [.ref a, y] H (fun v H' => ∃ b, v = .bl b ∧ Qv b H') E0) :
    wpAny (model X.prog X.w) A (call (.ref f) [.ref a, u]) (fun v s' => ∃ b H', v = .bool b ∧ Inv X pins σ H' s' ∧ Qv b H') E s := by
  have e0 : Env0 X.prog X.w X.K X.mg X.base A X.stack s H := by
    have e := I.env0
    exact ⟨by rw [sb.fr]; exact e.frames, e.mod, e.bs, e.bsz, e.funs, e.frf, e.hok, e.bare⟩
  have hl := F.len _ _ _ _ h
  have r2 : Vals [V.ref a, y] [Value.ref a, u] := .cons rfl (.cons ry .nil)
  refine wpAny_call (codeAny_mono (F.run A X.stack s H ⟨[.ref a, u], []⟩ [.ref a, u] [.ref a, y] _ E0 sb.room e0 (by
    have := hb s [.ref a, u] I.kIn (by simpa using hl)
    simpa using this) r2 h) fun r s' hq => ?_)
  cases r with
  | error e => exact hq.elim
  | ok fl =>
    cases fl with
    | ret z =>
      obtain ⟨v, H', I', rz, b, rfl, q⟩ := I.after hq
      cases rz
      exact ⟨b, H', rfl, I', q⟩
    | next => exact False.elim hq
    | brk => exact False.elim hq
    | cont => exact False.elim hq
theorem op_eqO (M : EqM X.prog X.w X.K X.mg X.base n C sp) (hr : Room n X.A) : OpR X (compareOp .Eq) (rEqO X.K C sp) := by
  obtain ⟨f, fd, ps, F, hs, hf, hb⟩ := M.ex
  intro pins s σ H x y v u Q I rx ry hq
  obtain ⟨a, dx, fs, tb, rfl, ha, ty, nf, h⟩ := hq
  cases rx
  obtain ⟨mA, J, _⟩ := ins_get I.hok ha
  obtain ⟨od, J, _⟩ := J.look
  obtain ⟨Pk, Z, p, _⟩ := kit_of I ry ty
  obtain ⟨m, hF⟩ := I.fr
  show wpAny (model X.prog X.w) X.A (richCompare .Eq (.ref a) u) (EP X pins σ Q) X.xe s
  refine PySem.W.cmp_K (op := .Eq) hr.units0 hF I.ok.mod.kin J (Z.ty _ _ I.kIn p) nf hs hf ?_
  refine wpAny_mono (run_eqO F hb ⟨hr, rfl⟩ I ry h) (fun v s' z => ?_) fun _ _ x => x
  obtain ⟨b, H', rfl, I', q⟩ := z
  exact ⟨.bl b, H', I', rfl, q⟩
/-! ### != : object's __ne__ asks __eq__ -/
theorem ifBound_ne {M : Model} {A : Around} {s : Shared} {K : PySem.W.Frag} {x C : Addr} {ox : Obj} {od : Option Obj} {args : List Value} {Q : Option Value → Shared → Prop} {E : Value → Shared → Prop} (Xk : K.In s.heap) (I : PySem.W.InstAt s.heap x ox C od) (hs : PySem.W.findIn K (.ref C) "__ne__" = some (some (.builtin "object.__ne__")))
    (h : wpAny M A (call (.builtin "object.__ne__") (.ref x :: args)) (fun v => Q (some v)) E s) : wpAny M A (callSpecialIfBound? (.ref x) "__ne__" args) Q E s := by
  simp only [callSpecialIfBound?, bindSpecialIfBound?]
  refine wpAny_holding (wpAny_bind (wpAny_bind (wpAny_bind (I.type.here ((PySem.W.looks_findIn Xk hs).here ?_)))))
  simp only [F.cmp_object.ne.bind]
  refine wpAny_bind (wpAny_askSetting (wpAny_ite ?_))
  have fin : wpAny M A (call (.builtin "object.__ne__") ([.ref x] ++ args) >>= fun v => pure (some v)) Q E s := wpAny_bind (wpAny_mono h (fun v s' h' => wpAny_pure h') fun _ _ h' => h')
  split
  · exact wpAny_bind (wpAny_pure (wpAny_pure fin))
  · exact wpAny_tryCatch (wpAny_bind (wpAny_pure (wpAny_pure fin)))
/-- the class has no own __ne__ -/
structure NeM (K : PySem.W.Frag) (C : Addr) : Prop where
  ne : PySem.W.findIn K (.ref C) "__ne__" = some (some (.builtin "object.__ne__"))
  ob : PySem.W.mroIn K C (.type "object") = some true
/-- x != y, x an instance of C -/
def rNeO (K : PySem.W.Frag) (C : Addr) (sp : Sp) : R2 := fun x y H Q => ∃ (a dx : Addr) (fs : List (Str × V)) (tb : Value), x = .ref a ∧ H a = some (.ins C dx fs) ∧ TyX K H y tb ∧ PySem.W.notFirst K C tb = true ∧ sp [x, y] H (fun v H' => ∃ b, v = .bl b ∧ Q (.bl (!b)) H') E0
theorem op_neO (M : EqM X.prog X.w X.K X.mg X.base n C sp) (N : NeM X.K C) (hr : Room (n + 2) X.A) : OpR X (compareOp .NotEq) (rNeO X.K C sp) := by
  obtain ⟨f, fd, ps, F1, hs, hf, hb⟩ := M.ex
  intro pins s σ H x y v u Q I rx ry hq
  obtain ⟨a, dx, fs, tb, rfl, ha, ty, nf, h⟩ := hq
  cases rx
  obtain ⟨mA, J, _⟩ := ins_get I.hok ha
  obtain ⟨od, J, _⟩ := J.look
  obtain ⟨Pk, Z, p, _⟩ := kit_of I ry ty
  have one : wpAny (model X.prog X.w) X.A (tryCompare (.ref a) "__ne__" u) (fun r s' => ∃ v, r = some v ∧ EP X pins σ Q v s') X.xe s := by
    unfold tryCompare
    refine wpAny_bind (ifBound_ne I.kIn J N.ne ?_)
    have sub : PySem.W.Looks (model X.prog X.w) s.heap (isInstance (.ref a) (.type "object")) true := J.type.andThen (PySem.W.looks_mroIn I.kIn N.ob)
    obtain ⟨hh, g, d, t, os⟩ := s
    refine wpAny_call (codeAny_call_builtin F.cmp_object.ne.plain F.cmpEntry_ne (@PySem.W.check_slot (model X.prog X.w) _ _ ⟨hh, g, d, t, os⟩ "object.__ne__" "object" "__ne__" (.ref a) [u] [] _ F.cmpKind_ne F.cmpSplit_ne sub (F.cmpArgs_ne (.ref a) u) ?_))
    unfold Builtin.«object.__ne__»
    refine wpAny_bind (wpAny_of_eq (a := ((Value.ref a : Value), [u])) (by first | rfl | (simp only [slotArgs]; rfl)) ?_)
    refine wpAny_bind (wpAny_cRoomFor ?_ ?_)
    · exact (hr.in1).units0
    · refine wpAny_bind (PySem.W.ifBound_K I.kIn J hs hf ?_)
      refine wpAny_mono (run_eqO F1 hb ⟨(hr.in1).mono (Nat.le_succ n), rfl⟩ I ry h) (fun v s' z => ?_) fun _ _ x => x
      obtain ⟨b, H', rfl, I', q⟩ := z
      show wpAny _ _ (truthy (.bool b) >>= fun r => ret (.bool (!r))) _ _ _
      refine wpAny_bind (wpAny_truthy_bool ?_)
      refine wpAny_pure ?_
      exact wpAny_pure ⟨_, rfl, .bl (!b), H', I', rfl, q⟩
  show wpAny (model X.prog X.w) X.A (richCompare .NotEq (.ref a) u) (EP X pins σ Q) X.xe s
  unfold richCompare
  simp only [oneThing_ref]
  refine wpAny_holding (wpAny_bind (wpAny_cRoomFor hr.units0 ?_))
  refine wpAny_bind (J.type.here (wpAny_bind ((Z.ty _ _ I.kIn p).here ?_)))
  split
  · rename_i q
    have e : PySem.W.subIn X.K tb (.ref C) = some false := by
      rcases Bool.or_eq_true_iff.mp nf with e | e
      · rw [beq_iff_eq.mp e] at q
        simp at q
      · exact beq_iff_eq.mp e
    refine wpAny_bind ((PySem.W.looks_subIn I.kIn e).here ?_)
    simp only [Bool.false_eq_true, if_false]
    refine wpAny_bind (wpAny_mono one (fun r s' z => ?_) fun _ _ e => e)
    obtain ⟨v, rfl, hq⟩ := z
    exact wpAny_pure hq
  · refine wpAny_bind (wpAny_pure ?_)
    simp only [Bool.false_eq_true, if_false]
    refine wpAny_bind (wpAny_mono one (fun r s' z => ?_) fun _ _ e => e)
    obtain ⟨v, rfl, hq⟩ := z
    exact wpAny_pure hq
end
end Fk
namespace Fk
open PySem PySem.Spec PyProof.Rows L2
/-- text.encode(), codes below 128 -/
def rEnc : V → List V → Hp → VK → Prop := fun x vs H Q => ∃ t : Str, x = .str t ∧ vs = [] ∧ PySem.W.KSb.Asc t ∧ t.length ≤ 16777216 ∧ ∀ c : Array UInt8, PySem.W.KBw.bInts c = PySem.W.KSb.codes t → Q (.byt c) H
theorem mt_encode {X : Cx} : MtR X "str.encode" rEnc := by
  intro pins s σ H x vs u us Q I rx r h
  obtain ⟨t, rfl, rfl, ha, hz, q⟩ := h
  obtain ⟨k, rfl⟩ := rx
  cases r
  exact PySem.W.KSb.encode_K ha hz fun c t' k e _ _ => ⟨.byt c, H, I.tok _, ⟨_, rfl⟩, q c e⟩
end Fk
/-! Mv0: values without a heap, an abstract heap of the things that change, results; how they stand for HandS' values -/
namespace Mv
open PySem PySem.Spec PyProof.Rows L2 Fk
/-- a value; lists and instances by value are never changed; ref n: the n-th thing that changes; ptp: a tuple that is known to have no dict of its own -/
inductive MV where
  | non | bl (b : Bool) | int (i : Int) | str (x : Str) | byt (b : Array UInt8)
  | tup (xs : List MV) | ptp (xs : List MV) | lst (xs : List MV) | obj (C : Str) (fs : List (Str × MV))
  | ref (n : Nat) | ty (n : String) | glo (x : Str)
instance : Inhabited MV := ⟨.non⟩
/-- a thing that changes; lkd, lkl: a dict, a list that is walked -/
inductive MO where
  | lst (xs : List MV) | dct (kvs : List (Key × MV)) | lkd (kvs : List (Key × MV)) | lkl (xs : List MV) | ins (C : Str) (fs : List (Str × MV))
instance : Inhabited MO := ⟨.lst []⟩
abbrev AH := List MO
abbrev ME := List (Option MV)
/-- how an expression ends -/
inductive Rs (α : Type) where
  | ok (a : α) (A : AH) | err (c : Str) (fs : List (Str × MV)) (A : AH) | bad
def Rs.bind {α β : Type} : Rs α → (α → AH → Rs β) → Rs β
  | .ok a A, k => k a A
  | .err c fs A, _ => .err c fs A
  | .bad, _ => .bad
/-- how a statement ends -/
inductive Fs where
  | nx (ρ : ME) (A : AH) | rt (v : MV) (A : AH) | bk (ρ : ME) (A : AH) | ct (ρ : ME) (A : AH) | err (c : Str) (fs : List (Str × MV)) (ρ : ME) (A : AH) | bad
abbrev FE := ME → AH → Rs MV
abbrev FB := ME → AH → Rs Bool
abbrev FL := ME → AH → Rs (List MV)
abbrev FS := ME → AH → Fs
/-! ### the relation -/
abbrev H0 : Hp := fun _ => none
/-- the tracked addresses; those that only one knows -/
structure Io where
  tr : List Addr
  pv : List Addr
def Io.out (ι : Io) (a : Addr) : Prop := a ∉ ι.tr ∧ a ∉ ι.pv
mutual
inductive RV (K : PySem.W.Frag) (ι : Io) (H : Hp) : MV → V → Prop
  | non : RV K ι H .non .non
  | bl (b : Bool) : RV K ι H (.bl b) (.bl b)
  | int (i : Int) : RV K ι H (.int i) (.int i)
  | str (x : Str) : RV K ι H (.str x) (.str x)
  | byt (b : Array UInt8) : RV K ι H (.byt b) (.byt b)
  | ty (n : String) : RV K ι H (.ty n) (.ty n)
  | glo (x : Str) : RV K ι H (.glo x) (.ref (He.ga K x))
  | ref {n : Nat} {a : Addr} : ι.tr[n]? = some a → RV K ι H (.ref n) (.ref a)
  | tup {a : Addr} {vs : List MV} {xs : List V} : ((ι.out a ∧ Rd H a (.tup xs)) ∨ SqT K H0 a xs) → RVs K ι H vs xs → RV K ι H (.tup vs) (.ref a)
  | ptp {a : Addr} {ob : Obj} {vs : List MV} {xs : List V} : ι.out a → H a = some (.frz ob (.tup xs)) → ob.dict = none → RVs K ι H vs xs → RV K ι H (.ptp vs) (.ref a)
  | lst {a : Addr} {vs : List MV} {xs : List V} : (ι.out a ∧ Rd H a (.lst xs)) → RVs K ι H vs xs → RV K ι H (.lst vs) (.ref a)
  | obj {a dx : Addr} {C : Str} {fs : List (Str × MV)} {ps : List (Str × V)} : ι.out a → H a = some (.ins (He.ga K C) dx ps) → RFs K ι H fs ps → RV K ι H (.obj C fs) (.ref a)
inductive RVs (K : PySem.W.Frag) (ι : Io) (H : Hp) : List MV → List V → Prop
  | nil : RVs K ι H [] []
  | cons {v : MV} {vs : List MV} {x : V} {xs : List V} : RV K ι H v x → RVs K ι H vs xs → RVs K ι H (v :: vs) (x :: xs)
inductive RFs (K : PySem.W.Frag) (ι : Io) (H : Hp) : List (Str × MV) → List (Str × V) → Prop
  | nil : RFs K ι H [] []
  | cons {k : Str} {v : MV} {vs : List (Str × MV)} {x : V} {xs : List (Str × V)} : RV K ι H v x → RFs K ι H vs xs → RFs K ι H ((k, v) :: vs) ((k, x) :: xs)
end
inductive RKs (K : PySem.W.Frag) (ι : Io) (H : Hp) : List (Key × MV) → List (Key × V) → Prop
  | nil : RKs K ι H [] []
  | cons {k : Key} {v : MV} {vs : List (Key × MV)} {x : V} {xs : List (Key × V)} : RV K ι H v x → RKs K ι H vs xs → RKs K ι H ((k, v) :: vs) ((k, x) :: xs)
/-- what was known is known still -/
structure Le (ι : Io) (H : Hp) (ι' : Io) (H' : Hp) : Prop where
  pre : ι.tr <+: ι'.tr
  keep : ∀ p o, ι.out p → H p = some o → ι'.out p ∧ H' p = some o
/-- what a run may do: what is untracked stays, what comes to the tracked was free, locks stay -/
structure Ext (ι : Io) (H : Hp) (ι' : Io) (H' : Hp) : Prop where
  pre : ι.tr <+: ι'.tr
  pv : ι'.pv = ι.pv
  new : ∀ p ∈ ι'.tr, p ∉ ι.tr → H p = none
  keep : ∀ p o, p ∉ ι.tr → H p = some o → H' p = some o
  frz : ∀ p o u, H p = some (.frz o u) → H' p = some (.frz o u)
theorem Ext.refl (ι : Io) (H : Hp) : Ext ι H ι H := ⟨List.prefix_refl _, rfl, fun _ h n => absurd h n, fun _ _ _ h => h, fun _ _ _ h => h⟩
theorem Ext.out {ι ι' : Io} {H H' : Hp} (e : Ext ι H ι' H') {p : Addr} {o : HO} (n : p ∉ ι.tr) (h : H p = some o) : p ∉ ι'.tr := fun hp => by
  rw [e.new p hp n] at h
  cases h
theorem Ext.trans {ι ι' ι'' : Io} {H H' H'' : Hp} (a : Ext ι H ι' H') (b : Ext ι' H' ι'' H'') : Ext ι H ι'' H'' := by
  refine ⟨a.pre.trans b.pre, b.pv.trans a.pv, fun p hp n => ?_, fun p o n h => b.keep p o (a.out n h) (a.keep p o n h), fun p o u h => b.frz p o u (a.frz p o u h)⟩
  by_cases hq : p ∈ ι'.tr
  · exact a.new p hq n
  · cases e : H p with
    | none => rfl
    | some o =>
      have := b.new p hp hq
      rw [a.keep p o n e] at this
      cases this
theorem Ext.le {ι ι' : Io} {H H' : Hp} (e : Ext ι H ι' H') : Le ι H ι' H' := ⟨e.pre, fun p o n h => ⟨⟨e.out n.1 h, by rw [e.pv]; exact n.2⟩, e.keep p o n.1 h⟩⟩
theorem Le.refl (ι : Io) (H : Hp) : Le ι H ι H := (Ext.refl ι H).le
theorem Le.trans {ι ι' ι'' : Io} {H H' H'' : Hp} (a : Le ι H ι' H') (b : Le ι' H' ι'' H'') : Le ι H ι'' H'' := ⟨a.pre.trans b.pre, fun p o n h => b.keep p o (a.keep p o n h).1 (a.keep p o n h).2⟩
theorem pre_get {l l' : List Addr} (e : l <+: l') {n : Nat} {a : Addr} (h : l[n]? = some a) : l'[n]? = some a := by
  obtain ⟨t, rfl⟩ := e
  rw [List.getElem?_append_left]
  · exact h
  · exact (List.getElem?_eq_some_iff.mp h).1
theorem Ext.get {ι ι' : Io} {H H' : Hp} (e : Ext ι H ι' H') {n : Nat} {a : Addr} (h : ι.tr[n]? = some a) : ι'.tr[n]? = some a := pre_get e.pre h
theorem Le.rd {ι ι' : Io} {H H' : Hp} (e : Le ι H ι' H') {a : Addr} {u : HO} (n : ι.out a) (h : Rd H a u) : ι'.out a ∧ Rd H' a u := by
  rcases h with h | ⟨o, h⟩
  · exact ⟨(e.keep _ _ n h).1, .inl (e.keep _ _ n h).2⟩
  · exact ⟨(e.keep _ _ n h).1, .inr ⟨o, (e.keep _ _ n h).2⟩⟩
section
variable {K : PySem.W.Frag} {ι ι' : Io} {H H' : Hp}
mutual
theorem RV.le (e : Le ι H ι' H') : ∀ {v : MV} {x : V}, RV K ι H v x → RV K ι' H' v x
  | _, _, .non => .non
  | _, _, .bl b => .bl b
  | _, _, .int b => .int b
  | _, _, .str b => .str b
  | _, _, .byt b => .byt b
  | _, _, .ty b => .ty b
  | _, _, .glo b => .glo b
  | _, _, .ref h => .ref (pre_get e.pre h)
  | _, _, .tup h r => .tup (h.imp (fun h => e.rd h.1 h.2) id) (RVs.le e r)
  | _, _, .ptp n h d r => .ptp (e.keep _ _ n h).1 (e.keep _ _ n h).2 d (RVs.le e r)
  | _, _, .lst h r => .lst (e.rd h.1 h.2) (RVs.le e r)
  | _, _, .obj n h r => .obj (e.keep _ _ n h).1 (e.keep _ _ n h).2 (RFs.le e r)
theorem RVs.le (e : Le ι H ι' H') : ∀ {v : List MV} {x : List V}, RVs K ι H v x → RVs K ι' H' v x
  | _, _, .nil => .nil
  | _, _, .cons a b => .cons (RV.le e a) (RVs.le e b)
theorem RFs.le (e : Le ι H ι' H') : ∀ {v : List (Str × MV)} {x : List (Str × V)}, RFs K ι H v x → RFs K ι' H' v x
  | _, _, .nil => .nil
  | _, _, .cons a b => .cons (RV.le e a) (RFs.le e b)
end
theorem RKs.le (e : Le ι H ι' H') : ∀ {v : List (Key × MV)} {x : List (Key × V)}, RKs K ι H v x → RKs K ι' H' v x
  | _, _, .nil => .nil
  | _, _, .cons a b => .cons (RV.le e a) (RKs.le e b)
theorem RV.ext (e : Ext ι H ι' H') {v : MV} {x : V} (h : RV K ι H v x) : RV K ι' H' v x := h.le e.le
theorem RVs.ext (e : Ext ι H ι' H') {v : List MV} {x : List V} (h : RVs K ι H v x) : RVs K ι' H' v x := h.le e.le
theorem RFs.ext (e : Ext ι H ι' H') {v : List (Str × MV)} {x : List (Str × V)} (h : RFs K ι H v x) : RFs K ι' H' v x := h.le e.le
theorem RKs.ext (e : Ext ι H ι' H') {v : List (Key × MV)} {x : List (Key × V)} (h : RKs K ι H v x) : RKs K ι' H' v x := h.le e.le
theorem RVs.length : ∀ {v : List MV} {x : List V}, RVs K ι H v x → v.length = x.length
  | _, _, .nil => rfl
  | _, _, .cons _ b => congrArg (· + 1) b.length
theorem RVs.get : ∀ {v : List MV} {x : List V} {i : Nat} {a : MV}, RVs K ι H v x → v[i]? = some a → ∃ b, x[i]? = some b ∧ RV K ι H a b
  | _, _, _, _, .nil, e => by simp at e
  | _, _, 0, _, .cons r _, e => by simp at e; subst e; exact ⟨_, rfl, r⟩
  | _, _, i + 1, a, .cons _ t, e => by
    obtain ⟨b, h1, h2⟩ := RVs.get (i := i) (a := a) t (by simpa using e)
    exact ⟨b, by simpa using h1, h2⟩
theorem RVs.getR : ∀ {v : List MV} {x : List V} {i : Nat} {b : V}, RVs K ι H v x → x[i]? = some b → ∃ a, v[i]? = some a ∧ RV K ι H a b
  | _, _, _, _, .nil, e => by simp at e
  | _, _, 0, _, .cons r _, e => by simp at e; subst e; exact ⟨_, rfl, r⟩
  | _, _, i + 1, a, .cons _ t, e => by
    obtain ⟨b, h1, h2⟩ := RVs.getR (i := i) (b := a) t (by simpa using e)
    exact ⟨b, by simpa using h1, h2⟩
theorem RVs.append : ∀ {v w : List MV} {x y : List V}, RVs K ι H v x → RVs K ι H w y → RVs K ι H (v ++ w) (x ++ y)
  | _, _, _, _, .nil, q => q
  | _, _, _, _, .cons a b, q => .cons a (b.append q)
theorem RVs.take : ∀ {v : List MV} {x : List V} (n : Nat), RVs K ι H v x → RVs K ι H (v.take n) (x.take n)
  | _, _, 0, _ => .nil
  | _, _, _ + 1, .nil => .nil
  | _, _, n + 1, .cons r t => .cons r (RVs.take n t)
theorem RVs.drop : ∀ {v : List MV} {x : List V} (n : Nat), RVs K ι H v x → RVs K ι H (v.drop n) (x.drop n)
  | _, _, 0, r => r
  | _, _, _ + 1, .nil => .nil
  | _, _, n + 1, .cons _ t => RVs.drop n t
theorem RVs.set {a : MV} {b : V} (r : RV K ι H a b) : ∀ {v : List MV} {x : List V} (i : Nat), RVs K ι H v x → RVs K ι H (v.set i a) (x.set i b)
  | _, _, _, .nil => .nil
  | _, _, 0, .cons _ t => .cons r t
  | _, _, i + 1, .cons q t => .cons q (RVs.set r i t)
theorem RVs.one {v : MV} {x : V} (h : RV K ι H v x) : RVs K ι H [v] [x] := .cons h .nil
theorem RVs.reverse : ∀ {v : List MV} {x : List V}, RVs K ι H v x → RVs K ι H v.reverse x.reverse
  | _, _, .nil => .nil
  | _, _, .cons a b => by
    rw [List.reverse_cons, List.reverse_cons]
    exact RVs.append (RVs.reverse b) (.one a)
theorem RFs.get : ∀ {v : List (Str × MV)} {x : List (Str × V)} {f : Str} {a : MV}, RFs K ι H v x → v.lookup f = some a → ∃ b, x.lookup f = some b ∧ RV K ι H a b
  | _, _, _, _, .nil, e => by cases e
  | _, _, f, a, .cons (k := k) (v := v) (x := x) r t, e => by
    rw [List.lookup_cons] at e ⊢
    cases h : f == k with
    | true => rw [h] at e; cases e; exact ⟨_, rfl, r⟩
    | false => rw [h] at e; exact RFs.get t e
theorem RFs.getN : ∀ {v : List (Str × MV)} {x : List (Str × V)} {f : Str}, RFs K ι H v x → v.lookup f = none → x.lookup f = none
  | _, _, _, .nil, e => rfl
  | _, _, f, .cons (k := k) (v := v) (x := x) r t, e => by
    rw [List.lookup_cons] at e ⊢
    cases h : f == k with
    | true => rw [h] at e; cases e
    | false => rw [h] at e; exact RFs.getN t e
theorem RFs.length : ∀ {v : List (Str × MV)} {x : List (Str × V)}, RFs K ι H v x → v.length = x.length
  | _, _, .nil => rfl
  | _, _, .cons _ b => congrArg (· + 1) b.length
theorem RKs.length : ∀ {v : List (Key × MV)} {x : List (Key × V)}, RKs K ι H v x → v.length = x.length
  | _, _, .nil => rfl
  | _, _, .cons _ b => congrArg (· + 1) b.length
end
/-! ### things that change -/
inductive OkO (K : PySem.W.Frag) (ι : Io) (H : Hp) : MO → Addr → Prop
  | lst {a : Addr} {vs : List MV} {xs : List V} : H a = some (.lst xs) → RVs K ι H vs xs → OkO K ι H (.lst vs) a
  | dct {a : Addr} {vs : List (Key × MV)} {xs : List (Key × V)} : H a = some (.dK xs) → RKs K ι H vs xs → OkO K ι H (.dct vs) a
  | lkd {a : Addr} {o : Obj} {vs : List (Key × MV)} {xs : List (Key × V)} : H a = some (.frz o (.dK xs)) → RKs K ι H vs xs → OkO K ι H (.lkd vs) a
  | lkl {a : Addr} {o : Obj} {vs : List MV} {xs : List V} : H a = some (.frz o (.lst xs)) → RVs K ι H vs xs → OkO K ι H (.lkl vs) a
  | ins {a dx : Addr} {C : Str} {vs : List (Str × MV)} {xs : List (Str × V)} : H a = some (.ins (He.ga K C) dx xs) → RFs K ι H vs xs → OkO K ι H (.ins C vs) a
theorem OkO.some {K : PySem.W.Frag} {ι : Io} {H : Hp} {o : MO} {a : Addr} (h : OkO K ι H o a) : ∃ u, H a = some u := by
  cases h with
  | lst h _ => exact ⟨_, h⟩
  | dct h _ => exact ⟨_, h⟩
  | lkd h _ => exact ⟨_, h⟩
  | lkl h _ => exact ⟨_, h⟩
  | ins h _ => exact ⟨_, h⟩
/-- .. when its own place stays and all outside too -/
theorem OkO.le {K : PySem.W.Frag} {ι ι' : Io} {H H' : Hp} {o : MO} {a : Addr} (e : Le ι H ι' H') (s : H' a = H a) (h : OkO K ι H o a) : OkO K ι' H' o a := by
  cases h with
  | lst h r => exact .lst (s.trans h) (r.le e)
  | dct h r => exact .dct (s.trans h) (r.le e)
  | lkd h r => exact .lkd (s.trans h) (r.le e)
  | lkl h r => exact .lkl (s.trans h) (r.le e)
  | ins h r => exact .ins (s.trans h) (r.le e)
structure Sim (K : PySem.W.Frag) (ι : Io) (A : AH) (H : Hp) : Prop where
  nd : ι.tr.Nodup
  len : ι.tr.length = A.length
  ok : ∀ (n : Nat) (a : Addr) (o : MO), ι.tr[n]? = some a → A[n]? = some o → OkO K ι H o a
  pvs : ∀ p ∈ ι.pv, ∃ u, H p = some u
section
variable {K : PySem.W.Frag} {ι ι' : Io} {tr pv : List Addr} {H H' : Hp} {A A' : AH}
theorem Sim.at (S : Sim K ι A H) {n : Nat} {o : MO} (h : A[n]? = some o) : ∃ a, ι.tr[n]? = some a ∧ OkO K ι H o a := by
  have hl := (List.getElem?_eq_some_iff.mp h).1
  rw [← S.len] at hl
  have e : ι.tr[n]? = some ι.tr[n] := List.getElem?_eq_getElem hl
  exact ⟨ι.tr[n], e, S.ok n _ _ e h⟩
/-- the thing that a reference leads to -/
theorem Sim.ref (S : Sim K ι A H) {n : Nat} {o : MO} {u : V} (r : RV K ι H (.ref n) u) (h : A[n]? = some o) : ∃ a, u = .ref a ∧ ι.tr[n]? = some a ∧ OkO K ι H o a := by
  cases r with
  | ref e => exact ⟨_, rfl, e, S.ok n _ _ e h⟩
theorem Sim.inn (S : Sim K ι A H) {p : Addr} (h : p ∈ ι.tr) : ∃ u, H p = some u := by
  obtain ⟨n, hn, e⟩ := List.mem_iff_getElem.mp h
  have e1 : ι.tr[n]? = some p := by rw [List.getElem?_eq_getElem hn, e]
  have hl : n < A.length := by rw [← S.len]; exact hn
  exact (S.ok n p _ e1 (List.getElem?_eq_getElem hl)).some
theorem Sim.out (S : Sim K ι A H) {p : Addr} (h : H p = none) : p ∉ ι.tr := fun hp => by
  obtain ⟨u, e⟩ := S.inn hp
  rw [h] at e
  cases e
theorem Sim.outA (S : Sim K ι A H) {p : Addr} (h : H p = none) : ι.out p := ⟨S.out h, fun hp => by
  obtain ⟨u, e⟩ := S.pvs p hp
  rw [h] at e
  cases e⟩
theorem Sim.le (S : Sim K ι A H) (e : Le ι H ι' H') (ht : ι'.tr = ι.tr) (s : ∀ p ∈ ι.tr, H' p = H p) (hp : ∀ p ∈ ι'.pv, ∃ u, H' p = some u) : Sim K ι' A H' := ⟨by rw [ht]; exact S.nd, by rw [ht]; exact S.len, fun n a o h1 h2 => by
  rw [ht] at h1
  exact (S.ok n a o h1 h2).le e (s a (List.mem_of_getElem? h1)), hp⟩
theorem upd_some {p q : Addr} {o : HO} (h : ∃ u, H p = some u) : ∃ u, upd H q o p = some u := by
  by_cases e : p = q
  · subst e
    exact ⟨_, upd_same⟩
  · rw [upd_ne e]
    exact h
/-- a new object outside -/
theorem Ext.new1 {p : Addr} {o : HO} (h : H p = none) : Ext ι H ι (upd H p o) := ⟨List.prefix_refl _, rfl, fun _ h n => absurd h n, fun q u n e => by
  rw [upd_ne (ne_of_none e h)]
  exact e, fun q ob u e => by
  rw [upd_ne (ne_of_none e h)]
  exact e⟩
theorem Sim.new1 (S : Sim K ι A H) {p : Addr} {o : HO} (h : H p = none) : Sim K ι A (upd H p o) := S.le (Ext.new1 h).le rfl (fun q hq => upd_ne fun z => by
  subst z
  exact S.out h hq) fun p hp => upd_some (S.pvs p hp)
/-- hide what is new, show it again -/
theorem Le.hide {a : Addr} (h : H a = none) : Le ⟨tr, pv⟩ H ⟨tr, a :: pv⟩ H := ⟨List.prefix_refl _, fun p o n e => ⟨⟨n.1, fun q => by
  rcases List.mem_cons.mp q with q | q
  · subst q
    rw [h] at e
    cases e
  · exact n.2 q⟩, e⟩⟩
theorem Le.show {a : Addr} : Le ⟨tr, a :: pv⟩ H ⟨tr, pv⟩ H := ⟨List.prefix_refl _, fun p o n e => ⟨⟨n.1, fun q => n.2 (List.mem_cons_of_mem _ q)⟩, e⟩⟩
theorem Sim.hide {a : Addr} {o : HO} (S : Sim K ⟨tr, pv⟩ A H) (h : H a = none) : Sim K ⟨tr, a :: pv⟩ A (upd H a o) := S.le ((Le.hide h).trans ⟨List.prefix_refl _, fun p u n e => ⟨n, by
  rw [upd_ne (ne_of_none e h)]
  exact e⟩⟩) rfl (fun q hq => upd_ne fun z => by
  subst z
  exact S.out h hq) fun p hp => by
  rcases List.mem_cons.mp hp with q | q
  · subst q
    exact ⟨_, upd_same⟩
  · exact upd_some (S.pvs p q)
theorem Sim.show {a : Addr} (S : Sim K ⟨tr, a :: pv⟩ A H) : Sim K ⟨tr, pv⟩ A H := S.le Le.show rfl (fun _ _ => rfl) fun p hp => S.pvs p (List.mem_cons_of_mem _ hp)
/-- a hidden thing changes -/
theorem Le.priv {a : Addr} {o : HO} (h : a ∈ ι.pv) : Le ι H ι (upd H a o) := ⟨List.prefix_refl _, fun p u n e => ⟨n, by
  rw [upd_ne (fun z => n.2 (by rw [z]; exact h))]
  exact e⟩⟩
theorem Sim.priv {a : Addr} {o : HO} (S : Sim K ι A H) (h : a ∈ ι.pv) (n : a ∉ ι.tr) : Sim K ι A (upd H a o) := S.le (Le.priv h) rfl (fun p hp => upd_ne fun z => n (by rw [← z]; exact hp)) fun p hp => upd_some (S.pvs p hp)
/-- what was free at the start may change -/
theorem Ext.mutNew {p : Addr} {o : HO} (e : Ext ι H ι' H') (h : H p = none) : Ext ι H ι' (upd H' p o) := ⟨e.pre, e.pv, e.new, fun q u n h' => by
  rw [upd_ne (ne_of_none h' h)]
  exact e.keep q u n h', fun q ob u h' => by
  rw [upd_ne (ne_of_none h' h)]
  exact e.frz q ob u h'⟩
/-- a hidden thing becomes tracked -/
theorem Le.adopt {a : Addr} : Le ⟨tr, a :: pv⟩ H ⟨tr ++ [a], pv⟩ H := ⟨List.prefix_append _ _, fun p o n e => ⟨⟨fun q => by
  rcases List.mem_append.mp q with q | q
  · exact n.1 q
  · exact n.2 (by rw [List.mem_singleton.mp q]; exact List.mem_cons_self ..), fun q => n.2 (List.mem_cons_of_mem _ q)⟩, e⟩⟩
theorem Sim.adopt {a : Addr} {m : MO} (S : Sim K ⟨tr, a :: pv⟩ A H) (n : a ∉ tr) (q : OkO K ⟨tr ++ [a], pv⟩ H m a) : Sim K ⟨tr ++ [a], pv⟩ (A ++ [m]) H := by
  have sl : tr.length = A.length := S.len
  refine ⟨?_, by simp [sl], fun i b u h1 h2 => ?_, fun p hp => S.pvs p (List.mem_cons_of_mem _ hp)⟩
  · show (tr ++ [a]).Nodup
    rw [List.nodup_append]
    exact ⟨S.nd, by simp, fun x hx b hb e => by
      rw [List.mem_singleton.mp hb] at e
      rw [e] at hx
      exact n hx⟩
  · have h1 : (tr ++ [a])[i]? = some b := h1
    by_cases hn : i < A.length
    · rw [List.getElem?_append_left hn] at h2
      rw [List.getElem?_append_left (by rw [sl]; exact hn)] at h1
      exact (S.ok i b u h1 h2).le Le.adopt rfl
    · have hn2 : i < (A ++ [m]).length := (List.getElem?_eq_some_iff.mp h2).1
      have en : i = A.length := by simp at hn2; omega
      subst en
      rw [List.getElem?_append_right (Nat.le_refl _), Nat.sub_self] at h2
      rw [← sl, List.getElem?_append_right (Nat.le_refl _), Nat.sub_self] at h1
      simp at h1 h2
      subst h1 h2
      exact q
theorem Ext.adopt {a : Addr} (e : Ext ι H ⟨tr, pv⟩ H') (h : H a = none) : Ext ι H ⟨tr ++ [a], pv⟩ H' := ⟨e.pre.trans (List.prefix_append _ _), e.pv, fun p hp n => by
  rcases List.mem_append.mp hp with q | q
  · exact e.new p q n
  · rw [List.mem_singleton.mp q]
    exact h, e.keep, e.frz⟩
/-- a new object comes in -/
theorem Ext.push {p : Addr} {o : HO} (h : H p = none) : Ext ι H ⟨ι.tr ++ [p], ι.pv⟩ (upd H p o) := (Ext.new1 (ι := ι) h).adopt h
theorem Sim.push (S : Sim K ι A H) {p : Addr} {o : HO} {m : MO} (h : H p = none) (q : OkO K ⟨ι.tr ++ [p], ι.pv⟩ (upd H p o) m p) : Sim K ⟨ι.tr ++ [p], ι.pv⟩ (A ++ [m]) (upd H p o) := by
  have s1 : Sim K ⟨ι.tr, p :: ι.pv⟩ A (upd H p o) := Sim.hide S h
  exact s1.adopt (S.out h) q
/-- a thing of ι changes -/
def NoFrz (H : Hp) (p : Addr) : Prop := ∀ o u, H p ≠ some (.frz o u)
theorem Ext.mut {p : Addr} {o : HO} (h : p ∈ ι.tr) (nf : NoFrz H p) : Ext ι H ι (upd H p o) := ⟨List.prefix_refl _, rfl, fun _ h n => absurd h n, fun q u n e => by
  have z : q ≠ p := fun z => n (by rw [z]; exact h)
  rw [upd_ne z]
  exact e, fun q ob u e => by
  have z : q ≠ p := fun z => nf ob u (by rw [← z]; exact e)
  rw [upd_ne z]
  exact e⟩
theorem Le.mut {p : Addr} {o : HO} (h : p ∈ ι.tr) : Le ι H ι (upd H p o) := ⟨List.prefix_refl _, fun q u n e => ⟨n, by
  have z : q ≠ p := fun z => n.1 (by rw [z]; exact h)
  rw [upd_ne z]
  exact e⟩⟩
theorem Sim.put (S : Sim K ι A H) {n : Nat} {a : Addr} {o : HO} {m : MO} (h : ι.tr[n]? = some a) (q : OkO K ι (upd H a o) m a) : Sim K ι (A.set n m) (upd H a o) := by
  have hm : a ∈ ι.tr := List.mem_of_getElem? h
  refine ⟨S.nd, by rw [List.length_set]; exact S.len, fun k b u h1 h2 => ?_, fun p hp => upd_some (S.pvs p hp)⟩
  by_cases hk : k = n
  · subst hk
    have e : A.length = ι.tr.length := S.len.symm
    have hl := (List.getElem?_eq_some_iff.mp h).1
    rw [List.getElem?_set_self (by omega)] at h2
    rw [h] at h1
    cases h1
    cases h2
    exact q
  · rw [List.getElem?_set_ne (Ne.symm hk)] at h2
    refine (S.ok k b u h1 h2).le (Le.mut hm) (upd_ne ?_)
    intro z
    subst z
    have hl := (List.getElem?_eq_some_iff.mp h1).1
    have hl' := (List.getElem?_eq_some_iff.mp h).1
    exact hk ((List.getElem?_inj hl S.nd).mp (h1.trans h.symm))
end
/-! ### slots -/
/-- what is wanted of an error; what holds all the while (of the error that is handled) -/
structure Wi where
  w : WX
  z : Io → Hp → Prop
  zx : ∀ {ι H ι' H'}, Le ι H ι' H' → z ι H → z ι' H'
  sl : Option (Nat × Addr)
def Wi.of (w : WX) : Wi := ⟨w, fun _ _ => True, fun _ _ => trivial, none⟩
structure REnv (W : Wi) (K : PySem.W.Frag) (ι : Io) (H : Hp) (ρ : ME) (σ : L2.St) : Prop where
  len : ρ.length = σ.length
  get : ∀ (i : Nat) (v : MV), ρ[i]? = some (some v) → ∃ u, σ[i]? = some (some u) ∧ RV K ι H v u
  z : W.z ι H
  sl : ∀ i a, W.sl = some (i, a) → ρ[i]? = some none → σ[i]? = some (some (.ref a))
section
variable {W : Wi} {K : PySem.W.Frag} {ι ι' : Io} {H H' : Hp} {ρ : ME} {σ : L2.St}
theorem REnv.le (e : Le ι H ι' H') (r : REnv W K ι H ρ σ) : REnv W K ι' H' ρ σ := ⟨r.len, fun i v h => by
  obtain ⟨u, h1, h2⟩ := r.get i v h
  exact ⟨u, h1, h2.le e⟩, W.zx e r.z, r.sl⟩
theorem REnv.ext (e : Ext ι H ι' H') (r : REnv W K ι H ρ σ) : REnv W K ι' H' ρ σ := r.le e.le
theorem REnv.set (r : REnv W K ι H ρ σ) (i : Nat) {v : MV} {u : V} (h : RV K ι H v u) : REnv W K ι H (ρ.set i (some v)) (σ.set i (some u)) := by
  refine ⟨by rw [List.length_set, List.length_set]; exact r.len, fun j w e => ?_, r.z, fun j a q e => ?_⟩
  · by_cases hj : i = j
    · subst hj
      have hl := (List.getElem?_eq_some_iff.mp e).1
      rw [List.length_set] at hl
      rw [List.getElem?_set_self hl] at e
      cases e
      exact ⟨u, List.getElem?_set_self (by rw [← r.len]; exact hl), h⟩
    · rw [List.getElem?_set_ne hj] at e ⊢
      exact r.get j w e
  · by_cases hj : i = j
    · subst hj
      have hl := (List.getElem?_eq_some_iff.mp e).1
      rw [List.length_set] at hl
      rw [List.getElem?_set_self hl] at e
      cases e
    · rw [List.getElem?_set_ne hj] at e ⊢
      exact r.sl j a q e
theorem REnv.unset {w : WX} (r : REnv (Wi.of w) K ι H ρ σ) (i : Nat) (x : Option V) : REnv (Wi.of w) K ι H (ρ.set i none) (σ.set i x) := by
  refine ⟨by rw [List.length_set, List.length_set]; exact r.len, fun j w e => ?_, r.z, fun _ _ q => nomatch q⟩
  by_cases hj : i = j
  · subst hj
    have hl := (List.getElem?_eq_some_iff.mp e).1
    rw [List.length_set] at hl
    rw [List.getElem?_set_self hl] at e
    cases e
  · rw [List.getElem?_set_ne hj] at e ⊢
    exact r.get j w e
theorem REnv.w0 {w : WX} (r : REnv W K ι H ρ σ) : REnv (Wi.of w) K ι H ρ σ := ⟨r.len, r.get, trivial, fun _ _ q => nomatch q⟩
end
/-! ### what a result wants -/
/-- a raised error of the program's own: its class, its fields -/
structure ErrR (K : PySem.W.Frag) (ι : Io) (H : Hp) (fs : List (Str × MV)) (d : Addr) : Prop where
  ex : ∃ ps, H d = some (.xd ps) ∧ RFs K ι H fs ps
  out : ι.out d
section
variable {α β : Type}
/-- a relation: the heap ahead, the tracked things and the heap behind, the plain result, the result -/
abbrev Rel (α β : Type) := Io → Hp → Io → Hp → AH → α → β → Prop
class Mono (R : Rel α β) : Prop where
  mono : ∀ {ι H ι' H' ι2 H2 A v u}, Ext ι H ι' H' → Ext ι' H' ι2 H2 → R ι' H' ι2 H2 A v u → R ι H ι2 H2 A v u
instance {R : Io → Hp → AH → α → β → Prop} : Mono (fun (_ : Io) (_ : Hp) => R) := ⟨fun _ _ h => h⟩
def RP (K : PySem.W.Frag) (W : Wi) (σ : L2.St) (R : Rel α β) (ι : Io) (H : Hp) (r : Rs α) (Q : β → Hp → Prop) : Prop :=
  match r with
  | .ok v A' => ∀ ι' H' u, Ext ι H ι' H' → R ι H ι' H' A' v u → Q u H'
  | .err c fs A' => ∀ ι' H' d, Ext ι H ι' H' → Sim K ι' A' H' → ErrR K ι' H' fs d → W.w (.ref (He.ga K c)) (some d) σ H'
  | .bad => False
theorem RP.ext {K : PySem.W.Frag} {W : Wi} {σ : L2.St} {R : Rel α β} [Mono R] {ι ι' : Io} {H H' : Hp} {r : Rs α} {Q : β → Hp → Prop} (e : Ext ι H ι' H') (h : RP K W σ R ι H r Q) : RP K W σ R ι' H' r Q := by
  cases r with
  | ok v A => exact fun ι2 H2 u e2 r => h ι2 H2 u (e.trans e2) (Mono.mono e e2 r)
  | err c fs A => exact fun ι2 H2 u e2 s r => h ι2 H2 u (e.trans e2) s r
  | bad => exact h
/-- a reading by a plain function -/
def tG (K : PySem.W.Frag) (W : Wi) (R : Rel α β) (f : ME → AH → Rs α) : L2.St → Hp → (β → Hp → Prop) → Prop := fun σ H Q => ∃ ι A ρ, Sim K ι A H ∧ REnv W K ι H ρ σ ∧ RP K W σ R ι H (f ρ A) Q
end
/-- the readings of expressions, tests, rows of values -/
abbrev rV (K : PySem.W.Frag) : Rel MV V := fun _ _ ι' H' A' v u => Sim K ι' A' H' ∧ RV K ι' H' v u
abbrev rB (K : PySem.W.Frag) : Rel Bool Bool := fun _ _ ι' H' A' a b => Sim K ι' A' H' ∧ a = b
abbrev rA (K : PySem.W.Frag) : Rel (List MV) (List V) := fun _ _ ι' H' A' v u => Sim K ι' A' H' ∧ RVs K ι' H' v u
abbrev tM (K : PySem.W.Frag) (W : Wi) (f : FE) : TE := tG K W (rV K) f
abbrev tMB (K : PySem.W.Frag) (W : Wi) (f : FB) : TT := tG K W (rB K) f
abbrev tMA (K : PySem.W.Frag) (W : Wi) (f : FL) : TA := tG K W (rA K) f
/-- a fresh list that nothing else knows -/
structure FL1 (K : PySem.W.Frag) (H : Hp) (ι' : Io) (H' : Hp) (A' : AH) (vs : List MV) (a : Addr) : Prop where
  free : H a = none
  nt : a ∉ ι'.tr
  np : a ∉ ι'.pv
  ex : ∃ xs, H' a = some (.lst xs) ∧ RVs K ⟨ι'.tr, a :: ι'.pv⟩ H' vs xs
  sim : Sim K ⟨ι'.tr, a :: ι'.pv⟩ A' H'
def rL (K : PySem.W.Frag) : Rel (List MV) V := fun _ H ι' H' A' vs u => ∃ a, u = .ref a ∧ FL1 K H ι' H' A' vs a
abbrev tML (K : PySem.W.Frag) (W : Wi) (f : FL) : TE := tG K W (rL K) f
theorem Ext.free {ι ι' ι2 : Io} {H H' H2 : Hp} (e : Ext ι H ι' H') (e2 : Ext ι' H' ι2 H2) {a : Addr} (h : H' a = none) (n : a ∉ ι2.tr) : H a = none := by
  cases q : H a with
  | none => rfl
  | some o =>
    have na : a ∉ ι.tr := fun z => n ((e.trans e2).pre.subset z)
    rw [e.keep a o na q] at h
    cases h
instance {K : PySem.W.Frag} : Mono (rL K) := ⟨fun e e2 h => by
  obtain ⟨a, rfl, h⟩ := h
  exact ⟨a, rfl, e.free e2 h.free h.nt, h.nt, h.np, h.ex, h.sim⟩⟩
theorem FL1.sim0 {K : PySem.W.Frag} {H H' : Hp} {ι' : Io} {A' : AH} {vs : List MV} {a : Addr} (h : FL1 K H ι' H' A' vs a) : Sim K ι' A' H' := h.sim.show
/-- what a statement's end wants -/
def RPS (K : PySem.W.Frag) (W : Wi) (D : Ends) (ι : Io) (H : Hp) : Fs → Prop
  | .nx ρ' A' => ∀ ι' H' σ', Ext ι H ι' H' → Sim K ι' A' H' → REnv W K ι' H' ρ' σ' → D.nx σ' H'
  | .bk ρ' A' => ∀ ι' H' σ', Ext ι H ι' H' → Sim K ι' A' H' → REnv W K ι' H' ρ' σ' → D.bk σ' H'
  | .ct ρ' A' => ∀ ι' H' σ', Ext ι H ι' H' → Sim K ι' A' H' → REnv W K ι' H' ρ' σ' → D.ct σ' H'
  | .rt v A' => ∀ ι' H' u, Ext ι H ι' H' → Sim K ι' A' H' → RV K ι' H' v u → D.rt u H'
  | .err c fs ρ' A' => ∀ ι' H' σ' d, Ext ι H ι' H' → Sim K ι' A' H' → REnv W K ι' H' ρ' σ' → ErrR K ι' H' fs d → W.w (.ref (He.ga K c)) (some d) σ' H'
  | .bad => False
theorem RPS.ext {K : PySem.W.Frag} {W : Wi} {D : Ends} {ι ι' : Io} {H H' : Hp} {r : Fs} (e : Ext ι H ι' H') (h : RPS K W D ι H r) : RPS K W D ι' H' r := by
  cases r with
  | nx ρ A => exact fun ι2 H2 σ2 e2 s r => h ι2 H2 σ2 (e.trans e2) s r
  | bk ρ A => exact fun ι2 H2 σ2 e2 s r => h ι2 H2 σ2 (e.trans e2) s r
  | ct ρ A => exact fun ι2 H2 σ2 e2 s r => h ι2 H2 σ2 (e.trans e2) s r
  | rt v A => exact fun ι2 H2 σ2 e2 s r => h ι2 H2 σ2 (e.trans e2) s r
  | err c fs ρ A => exact fun ι2 H2 σ2 d e2 s r q => h ι2 H2 σ2 d (e.trans e2) s r q
  | bad => exact h
def tMS (K : PySem.W.Frag) (W : Wi) (f : FS) : TS := fun D σ H => ∃ ι A ρ, Sim K ι A H ∧ REnv W K ι H ρ σ ∧ RPS K W D ι H (f ρ A)
end Mv
/-! Mv1: expressions: names, constants, operators, comparisons, tests, and, or, not, if-expressions -/
namespace Mv
open PySem PySem.Spec PyProof.Rows L2 Fk
theorem _root_.L2.PE.imp {X : Cx} {e : Expr} {t t' : TE} (h : PE X e t) (i : ∀ σ H Q, t' σ H Q → t σ H Q) : PE X e t' := ⟨fun pins s σ H Q I q => h.run pins s σ H Q I (i σ H Q q)⟩
theorem _root_.L2.PT.imp {X : Cx} {e : Expr} {t t' : TT} (h : PT X e t) (i : ∀ σ H Q, t' σ H Q → t σ H Q) : PT X e t' := ⟨fun pins s σ H Q I q => h.run pins s σ H Q I (i σ H Q q)⟩
theorem _root_.L2.PW.imp {X : Cx} {e : Expr} {t t' : TT} (h : PW X e t) (i : ∀ σ H Q, t' σ H Q → t σ H Q) : PW X e t' := ⟨fun wh pins s σ H Q I q => h.run wh pins s σ H Q I (i σ H Q q)⟩
theorem _root_.L2.PA.imp {X : Cx} {e : List Expr} {t t' : TA} (h : PA X e t) (i : ∀ σ H Q, t' σ H Q → t σ H Q) : PA X e t' := ⟨fun pos pins s σ H Q I q => h.run pos pins s σ H Q I (i σ H Q q)⟩
theorem _root_.L2.PS.imp {X : Cx} {e : Stmt} {t t' : TS} (h : PS X e t) (i : ∀ D σ H, t' D σ H → t D σ H) : PS X e t' := ⟨fun pins s σ H Q I q => h.run pins s σ H Q I (i Q σ H q)⟩
theorem _root_.L2.PSs.imp {X : Cx} {e : List Stmt} {t t' : TS} (h : PSs X e t) (i : ∀ D σ H, t' D σ H → t D σ H) : PSs X e t' := ⟨fun pins s σ H Q I q => h.run pins s σ H Q I (i Q σ H q)⟩
def tupOf : MV → Option (List MV)
  | .tup xs => some xs
  | .ptp xs => some xs
  | _ => none
section
variable {α β γ δ : Type} {K : PySem.W.Frag} {W : Wi} {σ : L2.St} {ι : Io} {H : Hp} {A : AH} {ρ : ME}
/-- one thing, then another, from a known state -/
theorem RP_bind {R : Rel α β} {R' : Rel γ δ} [Mono R'] {f : ME → AH → Rs α} {g : α → AH → Rs γ} {Q : δ → Hp → Prop} {Q1 : β → Hp → Prop} (S : Sim K ι A H) (E : REnv W K ι H ρ σ)
    (h : RP K W σ R' ι H ((f ρ A).bind g) Q) (k : ∀ ι' A' v u H', Ext ι H ι' H' → R ι H ι' H' A' v u → RP K W σ R' ι' H' (g v A') Q → Q1 u H') : tG K W R f σ H Q1 := by
  refine ⟨ι, A, ρ, S, E, ?_⟩
  cases e : f ρ A with
  | ok v A' =>
    rw [e] at h
    exact fun ι' H' u x r => k ι' A' v u H' x r (RP.ext x h)
  | err c fs A' =>
    rw [e] at h
    exact h
  | bad =>
    rw [e] at h
    exact h
theorem RP.bnd {R : Rel α β} {R' : Rel γ δ} [Mono R'] {r : Rs α} {g : α → AH → Rs γ} {Q : δ → Hp → Prop} {Q1 : β → Hp → Prop} (h : RP K W σ R' ι H (r.bind g) Q)
    (k : ∀ ι' A' v u H', Ext ι H ι' H' → R ι H ι' H' A' v u → RP K W σ R' ι' H' (g v A') Q → Q1 u H') : RP K W σ R ι H r Q1 := by
  cases r with
  | ok v A' => exact fun ι' H' u x r => k ι' A' v u H' x r (RP.ext x h)
  | err c fs A' => exact h
  | bad => exact h
theorem RP.ok0 {R : Rel α β} {v : α} {u : β} {Q : β → Hp → Prop} (h : RP K W σ R ι H (.ok v A) Q) (r : R ι H ι H A v u) : Q u H := h ι H u (Ext.refl _ _) r
theorem RP.new {v : MV} {u : V} {Q : V → Hp → Prop} {p : Addr} {o : HO} (h : RP K W σ (rV K) ι H (.ok v A) Q) (S : Sim K ι A H) (hp : H p = none) (r : RV K ι (upd H p o) v u) : Q u (upd H p o) := h ι _ u (Ext.new1 hp) ⟨S.new1 hp, r⟩
theorem new_tup {vs : List MV} {xs : List V} {p : Addr} (S : Sim K ι A H) (hp : H p = none) (r : RVs K ι H vs xs) : RV K ι (upd H p (.tup xs)) (.tup vs) (.ref p) := .tup (.inl ⟨S.outA hp, .inl upd_same⟩) (r.ext (Ext.new1 hp))
theorem sqT0 {a : Addr} {xs : List V} (h : SqT K H0 a xs) : SqT K H a xs := by
  rcases h with h | h
  · rcases h with h | ⟨o, h⟩ <;> cases h
  · exact .inr h
theorem sqL0 {a : Addr} {xs : List V} (h : SqL K H0 a xs) : SqL K H a xs := by
  rcases h with h | h
  · rcases h with h | ⟨o, h⟩ <;> cases h
  · exact .inr h
theorem RV.tupR {v : MV} {vs : List MV} {u : V} (q : tupOf v = some vs) (h : RV K ι H v u) : ∃ a xs, u = .ref a ∧ ((ι.out a ∧ Rd H a (.tup xs)) ∨ SqT K H0 a xs) ∧ RVs K ι H vs xs := by
  cases h with
  | tup h r => cases q; exact ⟨_, _, rfl, h, r⟩
  | ptp n h d r => cases q; exact ⟨_, _, rfl, .inl ⟨n, .inr ⟨_, h⟩⟩, r⟩
  | _ => cases q
theorem RV.sqT {v : MV} {vs : List MV} {u : V} (q : tupOf v = some vs) (h : RV K ι H v u) : ∃ a xs, u = .ref a ∧ SqT K H a xs ∧ RVs K ι H vs xs := by
  obtain ⟨a, xs, e, h, r⟩ := h.tupR q
  exact ⟨a, xs, e, h.elim (fun h => .inl h.2) sqT0, r⟩
theorem RV.sqL {vs : List MV} {u : V} (h : RV K ι H (.lst vs) u) : ∃ a xs, u = .ref a ∧ SqL K H a xs ∧ RVs K ι H vs xs := by
  cases h with
  | lst h r => exact ⟨_, _, rfl, .inl h.2, r⟩
/-- a fresh list as a value -/
theorem FL1.frz {H' : Hp} {vs : List MV} {a : Addr} (h : FL1 K H' ι H A vs a) : RV K ι H (.lst vs) (.ref a) := by
  obtain ⟨_, n1, n2, ⟨xs, e, r⟩, _⟩ := h
  exact .lst ⟨⟨n1, n2⟩, .inl e⟩ (r.le Le.show)
/-- a fresh list, laid just now -/
theorem FL1.new {vs : List MV} {xs : List V} {p : Addr} (S : Sim K ι A H) (hp : H p = none) (r : RVs K ι H vs xs) : FL1 K H ι (upd H p (.lst xs)) A vs p := by
  refine ⟨hp, (S.outA hp).1, (S.outA hp).2, ⟨xs, upd_same, r.le ((Le.hide hp).trans ⟨List.prefix_refl _, fun p u n e => ⟨n, ?_⟩⟩)⟩, Sim.hide S hp⟩
  rw [upd_ne (ne_of_none e hp)]
  exact e
theorem RP.newL {vs : List MV} {xs : List V} {Q : V → Hp → Prop} {p : Addr} (h : RP K W σ (rL K) ι H (.ok vs A) Q) (S : Sim K ι A H) (hp : H p = none) (r : RVs K ι H vs xs) : Q (.ref p) (upd H p (.lst xs)) := h ι _ _ (Ext.new1 hp) ⟨p, rfl, FL1.new S hp r⟩
end
/-! ### names and constants -/
def eVar (i : Nat) : FE := fun ρ A => match ρ[i]? with
  | some (some v) => .ok v A
  | _ => .bad
def eC (v : MV) : FE := fun _ A => .ok v A
def eBin (g : MV → MV → AH → Rs MV) (a b : FE) : FE := fun ρ A => (a ρ A).bind fun x A => (b ρ A).bind fun y A => g x y A
def eUn (g : MV → AH → Rs MV) (a : FE) : FE := fun ρ A => (a ρ A).bind g
def tB' (a : FE) : FB := fun ρ A => (a ρ A).bind fun x A => match x with
  | .bl b => .ok b A
  | _ => .bad
def eB (a : FB) : FE := fun ρ A => (a ρ A).bind fun b A => .ok (.bl b) A
def bNot (a : FB) : FB := fun ρ A => (a ρ A).bind fun b A => .ok (!b) A
def bAnd (a b : FB) : FB := fun ρ A => (a ρ A).bind fun x A => match x with
  | true => b ρ A
  | false => .ok false A
def bOr (a b : FB) : FB := fun ρ A => (a ρ A).bind fun x A => match x with
  | true => .ok true A
  | false => b ρ A
def eIf (c : FB) (a b : FE) : FE := fun ρ A => (c ρ A).bind fun x A => match x with
  | true => a ρ A
  | false => b ρ A
section
variable {X : Cx} {W : Wi} {a b c : Expr} {fa fb fc : FE} {ga gb : FB} {pos : Pos}
theorem m_var (i : Nat) {x : Str} (hN : X.N[i]? = some x := by rfl) (hv : Vis X.env.scope x := by first | exact Or.inl rfl | exact Or.inr (Or.inl rfl) | exact Or.inr (Or.inr rfl)) (hd : (x == ("__debug__" : Str)) = false := by decide) (hcd : (x == ("__classdict__" : Str)) = false := by decide) :
    PE X (.Name x pos) (tM X.K W (eVar i)) := (pe_var hN hv hd hcd).imp fun σ H Q ⟨ι, A, ρ, S, E, h⟩ => by
  unfold eVar at h
  split at h
  · rename_i v e
    obtain ⟨u, e1, r⟩ := E.get i v e
    exact ⟨u, e1, h.ok0 ⟨S, r⟩⟩
  · exact h.elim
theorem m_c {e : Expr} {v : MV} {u : V} (h : PE X e (tC u)) (r : ∀ ι H, RV X.K ι H v u) : PE X e (tM X.K W (eC v)) := h.imp fun σ H Q ⟨ι, A, ρ, S, E, h⟩ => RP.ok0 h ⟨S, (r ι H)⟩
theorem m_int {i : Int} {j : Nat} : PE X (.Constant (.int i) j pos) (tM X.K W (eC (.int i))) := m_c pe_int fun _ _ => .int i
theorem m_bl {i : Bool} {j : Nat} : PE X (.Constant (.bool i) j pos) (tM X.K W (eC (.bl i))) := m_c pe_bl fun _ _ => .bl i
theorem m_str {i : Str} {j : Nat} : PE X (.Constant (.str i) j pos) (tM X.K W (eC (.str i))) := m_c pe_str fun _ _ => .str i
theorem m_non {j : Nat} : PE X (.Constant .none j pos) (tM X.K W (eC .non)) := m_c pe_non fun _ _ => .non
/-! ### operators -/
/-- what an operator's rule asks follows from the plain function -/
def OpS (X : Cx) (W : Wi) (r : R2) (g : MV → MV → AH → Rs MV) : Prop := ∀ {σ : L2.St} {ι : Io} {H : Hp} {A : AH} {x y : MV} {u v : V} {Q : VK}, Sim X.K ι A H → RV X.K ι H x u → RV X.K ι H y v → RP X.K W σ (rV X.K) ι H (g x y A) Q → r u v H Q
/-- an operator and its plain function -/
structure OpM (X : Cx) (W : Wi) (f : Value → Value → Sem Value) (g : MV → MV → AH → Rs MV) : Prop where
  ex : ∃ r, OpR X f r ∧ OpS X W r g
theorem m_op {op : Operator} {g : MV → MV → AH → Rs MV} (ho : OpM X W (binaryOp op) g) (ha : PE X a (tM X.K W fa)) (hb : PE X b (tM X.K W fb)) : PE X (.BinOp a op b pos) (tM X.K W (eBin g fa fb)) := by
  obtain ⟨r, hr, hs⟩ := ho.ex
  exact (pe_op hr ha hb).imp fun σ H Q ⟨ι, A, ρ, S, E, h⟩ => RP_bind S E h fun ι1 A1 x u H1 e1 ⟨S1, r1⟩ h1 => RP_bind S1 (E.ext e1) h1 fun ι2 A2 y v H2 e2 ⟨S2, r2⟩ h2 => hs S2 (r1.ext e2) r2 h2
theorem m_cmp {op : CmpOp} {g : MV → MV → AH → Rs MV} (ho : OpM X W (compareOp op) g) (ha : PE X a (tM X.K W fa)) (hb : PE X b (tM X.K W fb)) (hm : behindInMarks op b = false := by first | exact nomark _ | rfl) : PE X (.Compare a [op] [b] pos) (tM X.K W (eBin g fa fb)) := by
  obtain ⟨r, hr, hs⟩ := ho.ex
  exact (pe_cmpR hr ha hb hm).imp fun σ H Q ⟨ι, A, ρ, S, E, h⟩ => RP_bind S E h fun ι1 A1 x u H1 e1 ⟨S1, r1⟩ h1 => RP_bind S1 (E.ext e1) h1 fun ι2 A2 y v H2 e2 ⟨S2, r2⟩ h2 => hs S2 (r1.ext e2) r2 h2
theorem tB_of {t : L2.St} {H : Hp} {Q : Bool → Hp → Prop} (h : tMB X.K W (tB' fa) t H Q) : tM X.K W fa t H fun x H1 => ∃ k, x = .bl k ∧ Q k H1 := by
  obtain ⟨ι, A, ρ, S, E, h⟩ := h
  refine RP_bind S E h fun ι1 A1 x u H1 e1 ⟨S1, r1⟩ h1 => ?_
  cases r1 with
  | bl b => exact ⟨b, rfl, h1.ok0 ⟨S1, rfl⟩⟩
  | _ => exact h1.elim
theorem mt_cmp {op : CmpOp} {g : MV → MV → AH → Rs MV} (ho : OpM X W (compareOp op) g) (ha : PE X a (tM X.K W fa)) (hb : PE X b (tM X.K W fb)) (hm : behindInMarks op b = false := by first | exact nomark _ | rfl) : PT X (.Compare a [op] [b] pos) (tMB X.K W (tB' (eBin g fa fb))) := by
  obtain ⟨r, hr, hs⟩ := ho.ex
  refine (pt_cmpR hr ha hb hm).imp fun σ H Q h => ?_
  obtain ⟨ι, A, ρ, S, E, h⟩ := tB_of h
  exact RP_bind S E h fun ι1 A1 x u H1 e1 ⟨S1, r1⟩ h1 => RP_bind S1 (E.ext e1) h1 fun ι2 A2 y v H2 e2 ⟨S2, r2⟩ h2 => hs S2 (r1.ext e2) r2 h2
theorem mt_val (ha : PE X a (tM X.K W fa)) (he : ∀ whole, isTrue a X.env whole = (do let v ← whole; standAt a.pos; holding [v] (truthy v)) := by intro _; rfl) : PT X a (tMB X.K W (tB' fa)) := (pt_val ha he).imp fun σ H Q h => tB_of h
theorem mt_not (ha : PT X a (tMB X.K W ga)) : PT X (.UnaryOp .Not a pos) (tMB X.K W (bNot ga)) := (pt_not ha).imp fun σ H Q ⟨ι, A, ρ, S, E, h⟩ => RP_bind S E h fun ι1 A1 x u H1 e1 ⟨S1, r1⟩ h1 => by
  cases r1
  exact h1.ok0 ⟨S1, rfl⟩
theorem mw_and1 (ha : PT X a (tMB X.K W ga)) : PW X (.BoolOp .And [a] pos) (tMB X.K W ga) := pw_and1 ha
theorem mw_or1 (ha : PT X a (tMB X.K W ga)) : PW X (.BoolOp .Or [a] pos) (tMB X.K W ga) := pw_or1 ha
theorem mw_and {rest : List Expr} (ha : PT X a (tMB X.K W ga)) (hb : PW X (.BoolOp .And (b :: rest) pos) (tMB X.K W gb)) : PW X (.BoolOp .And (a :: b :: rest) pos) (tMB X.K W (bAnd ga gb)) := (pw_and ha hb).imp fun σ H Q ⟨ι, A, ρ, S, E, h⟩ => RP_bind S E h fun ι1 A1 x u H1 e1 ⟨S1, r1⟩ h1 => by
  cases r1
  cases x with
  | true => exact ⟨ι1, A1, ρ, S1, E.ext e1, h1⟩
  | false => exact h1.ok0 ⟨S1, rfl⟩
theorem mw_or {rest : List Expr} (ha : PT X a (tMB X.K W ga)) (hb : PW X (.BoolOp .Or (b :: rest) pos) (tMB X.K W gb)) : PW X (.BoolOp .Or (a :: b :: rest) pos) (tMB X.K W (bOr ga gb)) := (pw_or ha hb).imp fun σ H Q ⟨ι, A, ρ, S, E, h⟩ => RP_bind S E h fun ι1 A1 x u H1 e1 ⟨S1, r1⟩ h1 => by
  cases r1
  cases x with
  | true => exact h1.ok0 ⟨S1, rfl⟩
  | false => exact ⟨ι1, A1, ρ, S1, E.ext e1, h1⟩
/-- and, or, not as values of bools -/
def eAnd (a b : FE) : FE := fun ρ A => (a ρ A).bind fun x A => match x with
  | .bl true => b ρ A
  | .bl false => .ok (.bl false) A
  | _ => .bad
def eOr (a b : FE) : FE := fun ρ A => (a ρ A).bind fun x A => match x with
  | .bl true => .ok (.bl true) A
  | .bl false => b ρ A
  | _ => .bad
def eNot (a : FE) : FE := fun ρ A => (a ρ A).bind fun x A => match x with
  | .bl b => .ok (.bl (!b)) A
  | _ => .bad
theorem m_one {op} (ha : PE X a (tM X.K W fa)) : PE X (.BoolOp op [a] pos) (tM X.K W fa) := pe_one ha
theorem m_and {rest : List Expr} (ha : PE X a (tM X.K W fa)) (hb : PE X (.BoolOp .And (b :: rest) pos) (tM X.K W fb)) : PE X (.BoolOp .And (a :: b :: rest) pos) (tM X.K W (eAnd fa fb)) := (pe_and ha hb).imp fun σ H Q ⟨ι, A, ρ, S, E, h⟩ => RP_bind S E h fun ι1 A1 x u H1 e1 ⟨S1, r1⟩ h1 => by
  cases r1 with
  | bl k =>
    refine ⟨k, rfl, ?_⟩
    cases k with
    | true => exact ⟨ι1, A1, ρ, S1, E.ext e1, h1⟩
    | false => exact RP.ok0 h1 ⟨S1, (.bl _)⟩
  | _ => exact h1.elim
theorem m_or {rest : List Expr} (ha : PE X a (tM X.K W fa)) (hb : PE X (.BoolOp .Or (b :: rest) pos) (tM X.K W fb)) : PE X (.BoolOp .Or (a :: b :: rest) pos) (tM X.K W (eOr fa fb)) := (pe_or ha hb).imp fun σ H Q ⟨ι, A, ρ, S, E, h⟩ => RP_bind S E h fun ι1 A1 x u H1 e1 ⟨S1, r1⟩ h1 => by
  cases r1 with
  | bl k =>
    refine ⟨k, rfl, ?_⟩
    cases k with
    | false => exact ⟨ι1, A1, ρ, S1, E.ext e1, h1⟩
    | true => exact RP.ok0 h1 ⟨S1, (.bl _)⟩
  | _ => exact h1.elim
theorem m_not (ha : PE X a (tM X.K W fa)) : PE X (.UnaryOp .Not a pos) (tM X.K W (eNot fa)) := (pe_not ha).imp fun σ H Q ⟨ι, A, ρ, S, E, h⟩ => RP_bind S E h fun ι1 A1 x u H1 e1 ⟨S1, r1⟩ h1 => by
  cases r1 with
  | bl k => exact ⟨k, rfl, RP.ok0 h1 ⟨S1, (.bl _)⟩⟩
  | _ => exact h1.elim
theorem m_if (hc : PT X c (tMB X.K W ga)) (ha : PE X a (tM X.K W fa)) (hb : PE X b (tM X.K W fb)) : PE X (.IfExp c a b pos) (tM X.K W (eIf ga fa fb)) := (pe_ifExp hc ha hb).imp fun σ H Q ⟨ι, A, ρ, S, E, h⟩ => RP_bind S E h fun ι1 A1 x u H1 e1 ⟨S1, r1⟩ h1 => by
  cases r1
  cases x with
  | true => exact ⟨ι1, A1, ρ, S1, E.ext e1, h1⟩
  | false => exact ⟨ι1, A1, ρ, S1, E.ext e1, h1⟩
/-- a chain a op b op' c -/
def eChain (g g' : MV → MV → AH → Rs MV) (a b c : FE) : FE := fun ρ A => (a ρ A).bind fun x A => (b ρ A).bind fun y A => (g x y A).bind fun z A => match z with
  | .bl true => (c ρ A).bind fun w A => g' y w A
  | .bl false => .ok (.bl false) A
  | _ => .bad
/-! ### operators on values -/
section
variable {σ : L2.St} {ι : Io} {H : Hp} {A : AH} {x y : MV} {u v : V} {Q : VK}
def addM : MV → MV → AH → Rs MV
  | .int i, .int j, A => .ok (.int (i + j)) A
  | .str s, .str t, A => if s.length + t.length ≤ 1000000 then .ok (.str (s ++ t)) A else .bad
  | .byt s, .byt t, A => if s.size + t.size ≤ 1000000 then .ok (.byt (s ++ t)) A else .bad
  | a, b, A => match tupOf a, tupOf b with
    | some s, some t => if s.length ≠ 0 ∧ t.length ≠ 0 ∧ s.length + t.length ≤ 1000000 then .ok (.tup (s ++ t)) A else .bad
    | _, _ => .bad
theorem lim {n : Nat} (h : n ≤ 1000000) : n ≤ sizeLine := by
  rw [sizeLine_eq]
  omega
theorem op_addM : OpM X W (binaryOp .Add) addM := ⟨_, op_add.or (op_add_str.or (op_add_byt.or op_catT)), fun S rx ry h => by
  unfold addM at h
  split at h
  · cases rx; cases ry
    exact .inl ⟨_, _, rfl, rfl, h.ok0 ⟨S, (.int _)⟩⟩
  · cases rx; cases ry
    split at h
    · rename_i hl
      exact .inr (.inl ⟨_, _, rfl, rfl, lim hl, h.ok0 ⟨S, (.str _)⟩⟩)
    · exact h.elim
  · cases rx; cases ry
    split at h
    · rename_i hl
      exact .inr (.inr (.inl ⟨_, _, rfl, rfl, by omega, h.ok0 ⟨S, (.byt _)⟩⟩))
    · exact h.elim
  · split at h
    · rename_i s t e1 e2
      split at h
      · rename_i hl
        obtain ⟨a, xs, rfl, sx, qx⟩ := rx.sqT e1
        obtain ⟨b, ys, rfl, sy, qy⟩ := ry.sqT e2
        have l1 := qx.length
        have l2 := qy.length
        refine .inr (.inr (.inr ⟨a, b, xs, ys, rfl, rfl, sx, sy, fun e => ?_, lim (by omega), fun e => ?_, fun _ p hp => h.new S hp (new_tup S hp (qx.append qy))⟩))
        · subst e
          exact hl.1 (by simpa using l1)
        · subst e
          exact absurd (by simpa using l2) hl.2.1
      · exact h.elim
    · exact h.elim⟩
def subM : MV → MV → AH → Rs MV
  | .int i, .int j, A => .ok (.int (i - j)) A
  | _, _, _ => .bad
theorem op_subM : OpM X W (binaryOp .Sub) subM := ⟨_, op_sub, fun S rx ry h => by
  unfold subM at h
  split at h
  · cases rx; cases ry
    exact ⟨_, _, rfl, rfl, h.ok0 ⟨S, (.int _)⟩⟩
  · exact h.elim⟩
def small (i : Int) : Bool := decide (-(2 ^ 64) < i) && decide (i < 2 ^ 64)
def mulM : MV → MV → AH → Rs MV
  | .int i, .int j, A => if small i || small j then .ok (.int (i * j)) A else .bad
  | .str s, .int j, A => if 0 ≤ j ∧ j ≤ 1000 ∧ s.length ≤ 1000 then .ok (.str (Txt.mul s j)) A else .bad
  | _, _, _ => .bad
theorem op_mulM : OpM X W (binaryOp .Mult) mulM := ⟨_, op_mul.or op_mul_str, fun S rx ry h => by
  unfold mulM at h
  split at h
  · cases rx; cases ry
    split at h
    · rename_i i j A hl
      refine .inl ⟨_, _, rfl, rfl, ?_, h.ok0 ⟨S, (.int _)⟩⟩
      unfold small at hl
      simp only [Bool.or_eq_true, Bool.and_eq_true, decide_eq_true_eq] at hl
      exact hl
    · exact h.elim
  · cases rx; cases ry
    split at h
    · rename_i s j hl
      refine .inr ⟨_, _, rfl, rfl, ⟨hl.1, by omega, hl.2.2, ?_⟩, h.ok0 ⟨S, (.str _)⟩⟩
      have h1 : j.toNat ≤ 1000 := by omega
      exact Nat.mul_le_mul hl.2.2 h1
    · exact h.elim
  · exact h.elim⟩
def fdivM : MV → MV → AH → Rs MV
  | .int i, .int j, A => if 0 < j ∧ j < 2 ^ 64 then .ok (.int (i / j)) A else .bad
  | _, _, _ => .bad
theorem op_fdivM : OpM X W (binaryOp .FloorDiv) fdivM := ⟨_, op_fdivW, fun S rx ry h => by
  unfold fdivM at h
  split at h
  · cases rx; cases ry
    split at h
    · rename_i hl
      exact ⟨_, _, rfl, rfl, wide_div (b := 64) hl.1 (by omega) (by decide) (by decide), h.ok0 ⟨S, (.int _)⟩⟩
    · exact h.elim
  · exact h.elim⟩
def modM : MV → MV → AH → Rs MV
  | .int i, .int j, A => if 0 < j then .ok (.int (i % j)) A else .bad
  | _, _, _ => .bad
theorem op_modM : OpM X W (binaryOp .Mod) modM := ⟨_, op_mod, fun S rx ry h => by
  unfold modM at h
  split at h
  · cases rx; cases ry
    split at h
    · rename_i hl
      exact ⟨_, _, rfl, rfl, hl, h.ok0 ⟨S, (.int _)⟩⟩
    · exact h.elim
  · exact h.elim⟩
def powM : MV → MV → AH → Rs MV
  | .int i, .int j, A => if 0 ≤ j ∧ j ≤ 1000 ∧ i.natAbs < 2 ^ 64 then .ok (.int (i ^ j.toNat)) A else .bad
  | _, _, _ => .bad
theorem op_powM : OpM X W (binaryOp .Pow) powM := ⟨_, op_pow, fun S rx ry h => by
  unfold powM at h
  split at h
  · cases rx; cases ry
    split at h
    · rename_i hl
      exact ⟨_, _, rfl, rfl, ⟨hl.1, by omega, hl.2.2⟩, h.ok0 ⟨S, (.int _)⟩⟩
    · exact h.elim
  · exact h.elim⟩
def negM : MV → AH → Rs MV
  | .int i, A => .ok (.int (-i)) A
  | _, _ => .bad
theorem m_neg (ha : PE X a (tM X.K W fa)) : PE X (.UnaryOp .USub a pos) (tM X.K W (eUn negM fa)) := (pe_un un_neg ha).imp fun σ H Q ⟨ι, A, ρ, S, E, h⟩ => RP_bind S E h fun ι1 A1 x u H1 e1 ⟨S1, r1⟩ h1 => by
  unfold negM at h1
  split at h1
  · cases r1
    exact ⟨_, rfl, RP.ok0 h1 ⟨S1, (.int _)⟩⟩
  · exact h1.elim
/-- < <= > >= of ints and texts -/
def ltS (s t : Str) : Bool := decide (s.cps.toList < t.cps.toList)
def ltM : MV → MV → AH → Rs MV
  | .int i, .int j, A => .ok (.bl (decide (i < j))) A
  | .str i, .str j, A => .ok (.bl (ltS i j)) A
  | _, _, _ => .bad
def leM : MV → MV → AH → Rs MV
  | .int i, .int j, A => .ok (.bl (decide (i ≤ j))) A
  | .str i, .str j, A => .ok (.bl (!ltS j i)) A
  | _, _, _ => .bad
def gtM : MV → MV → AH → Rs MV
  | .int i, .int j, A => .ok (.bl (decide (j < i))) A
  | .str i, .str j, A => .ok (.bl (ltS j i)) A
  | _, _, _ => .bad
def geM : MV → MV → AH → Rs MV
  | .int i, .int j, A => .ok (.bl (decide (j ≤ i))) A
  | .str i, .str j, A => .ok (.bl (!ltS i j)) A
  | _, _, _ => .bad
theorem op_ltM : OpM X W (compareOp .Lt) ltM := ⟨_, op_lt.or op_lt_str, fun S rx ry h => by
  unfold ltM at h
  split at h
  · cases rx; cases ry
    exact .inl ⟨_, _, rfl, rfl, h.ok0 ⟨S, (.bl _)⟩⟩
  · cases rx; cases ry
    exact .inr ⟨_, _, rfl, rfl, h.ok0 ⟨S, (.bl _)⟩⟩
  · exact h.elim⟩
theorem op_leM : OpM X W (compareOp .LtE) leM := ⟨_, op_le.or op_le_str, fun S rx ry h => by
  unfold leM at h
  split at h
  · cases rx; cases ry
    exact .inl ⟨_, _, rfl, rfl, h.ok0 ⟨S, (.bl _)⟩⟩
  · cases rx; cases ry
    exact .inr ⟨_, _, rfl, rfl, h.ok0 ⟨S, (.bl _)⟩⟩
  · exact h.elim⟩
theorem op_gtM : OpM X W (compareOp .Gt) gtM := ⟨_, op_gt.or op_gt_str, fun S rx ry h => by
  unfold gtM at h
  split at h
  · cases rx; cases ry
    exact .inl ⟨_, _, rfl, rfl, h.ok0 ⟨S, (.bl _)⟩⟩
  · cases rx; cases ry
    exact .inr ⟨_, _, rfl, rfl, h.ok0 ⟨S, (.bl _)⟩⟩
  · exact h.elim⟩
theorem op_geM : OpM X W (compareOp .GtE) geM := ⟨_, op_ge.or op_ge_str, fun S rx ry h => by
  unfold geM at h
  split at h
  · cases rx; cases ry
    exact .inl ⟨_, _, rfl, rfl, h.ok0 ⟨S, (.bl _)⟩⟩
  · cases rx; cases ry
    exact .inr ⟨_, _, rfl, rfl, h.ok0 ⟨S, (.bl _)⟩⟩
  · exact h.elim⟩
/-- is None, is not None -/
def isN : MV → Bool
  | .non => true
  | _ => false
def isNM : MV → MV → AH → Rs MV
  | x, .non, A => .ok (.bl (isN x)) A
  | _, _, _ => .bad
def notNM : MV → MV → AH → Rs MV
  | x, .non, A => .ok (.bl (!isN x)) A
  | _, _, _ => .bad
theorem isN_rel {K : PySem.W.Frag} (r : RV K ι H x u) : decide (u = V.non) = isN x := by
  cases r <;> rfl
theorem op_isNM : OpM X W (compareOp .Is) isNM := ⟨_, op_isN, fun S rx ry h => by
  unfold isNM at h
  split at h
  · cases ry
    refine ⟨rfl, ?_⟩
    rw [isN_rel rx]
    exact h.ok0 ⟨S, (.bl _)⟩
  · exact h.elim⟩
theorem op_notNM : OpM X W (compareOp .IsNot) notNM := ⟨_, op_notN, fun S rx ry h => by
  unfold notNM at h
  split at h
  · cases ry
    refine ⟨rfl, ?_⟩
    rw [isN_rel rx]
    exact h.ok0 ⟨S, (.bl _)⟩
  · exact h.elim⟩
end
theorem m_chain {op op' : CmpOp} {g g' : MV → MV → AH → Rs MV} (ho : OpM X W (compareOp op) g) (ho' : OpM X W (compareOp op') g') (ha : PE X a (tM X.K W fa)) (hb : PE X b (tM X.K W fb)) (hc : PE X c (tM X.K W fc)) (hm : lastMarks [op, op'] [b, c] = false := by with_unfolding_all rfl) : PE X (.Compare a [op, op'] [b, c] pos) (tM X.K W (eChain g g' fa fb fc)) := by
  obtain ⟨r, hr, hs⟩ := ho.ex
  obtain ⟨r', hr', hs'⟩ := ho'.ex
  exact (pe_chain hr hr' ha hb hc hm).imp fun σ H Q ⟨ι, A, ρ, S, E, h⟩ => RP_bind S E h fun ι1 A1 x u H1 e1 ⟨S1, r1⟩ h1 => RP_bind S1 (E.ext e1) h1 fun ι2 A2 y v H2 e2 ⟨S2, r2⟩ h2 => by
    refine hs S2 (r1.ext e2) r2 (h2.bnd fun ι3 A3 z w H3 e3 ⟨S3, r3⟩ h3 => ?_)
    cases r3 with
    | bl k =>
      refine ⟨k, rfl, ?_⟩
      cases k with
      | true => exact RP_bind S3 (E.ext ((e1.trans e2).trans e3)) h3 fun ι4 A4 y' v' H4 e4 ⟨S4, r4⟩ h4 => hs' S4 (r2.ext (e3.trans e4)) r4 h4
      | false => exact RP.ok0 h3 ⟨S3, (.bl _)⟩
    | _ => exact h3.elim
theorem mt_chain {op op' : CmpOp} {g g' : MV → MV → AH → Rs MV} (ho : OpM X W (compareOp op) g) (ho' : OpM X W (compareOp op') g') (ha : PE X a (tM X.K W fa)) (hb : PE X b (tM X.K W fb)) (hc : PE X c (tM X.K W fc)) (hm : lastMarks [op, op'] [b, c] = false := by with_unfolding_all rfl) : PT X (.Compare a [op, op'] [b, c] pos) (tMB X.K W (tB' (eChain g g' fa fb fc))) := by
  obtain ⟨r, hr, hs⟩ := ho.ex
  obtain ⟨r', hr', hs'⟩ := ho'.ex
  refine (pt_chain hr hr' ha hb hc hm).imp fun σ H Q h => ?_
  obtain ⟨ι, A, ρ, S, E, h⟩ := tB_of h
  exact RP_bind S E h fun ι1 A1 x u H1 e1 ⟨S1, r1⟩ h1 => RP_bind S1 (E.ext e1) h1 fun ι2 A2 y v H2 e2 ⟨S2, r2⟩ h2 => by
    refine hs S2 (r1.ext e2) r2 (h2.bnd fun ι3 A3 z w H3 e3 ⟨S3, r3⟩ h3 => ?_)
    cases r3 with
    | bl k =>
      refine ⟨k, rfl, ?_⟩
      cases k with
      | true => exact RP_bind S3 (E.ext ((e1.trans e2).trans e3)) h3 fun ι4 A4 y' v' H4 e4 ⟨S4, r4⟩ h4 => hs' S4 (r2.ext (e3.trans e4)) r4 h4
      | false => exact RP.ok0 h3 ⟨S3, (.bl _)⟩
    | _ => exact h3.elim
end
end Mv
/-! Mv2: rows of values, tuples, lists, statements, targets, loops, locks -/
namespace Mv
open PySem PySem.Spec PyProof.Rows L2 Fk
section
variable {α β γ δ : Type} {K : PySem.W.Frag} {W : Wi} {σ : L2.St} {ι : Io} {H : Hp} {A : AH} {ρ : ME}
/-- as RP_bind, what follows told from the start -/
theorem RP_bind0 {R : Rel α β} {R' : Rel γ δ} {f : ME → AH → Rs α} {g : α → AH → Rs γ} {Q : δ → Hp → Prop} {Q1 : β → Hp → Prop} (S : Sim K ι A H) (E : REnv W K ι H ρ σ)
    (h : RP K W σ R' ι H ((f ρ A).bind g) Q) (k : ∀ ι' A' v u H', Ext ι H ι' H' → R ι H ι' H' A' v u → RP K W σ R' ι H (g v A') Q → Q1 u H') : tG K W R f σ H Q1 := by
  refine ⟨ι, A, ρ, S, E, ?_⟩
  cases e : f ρ A with
  | ok v A' =>
    rw [e] at h
    exact fun ι' H' u x r => k ι' A' v u H' x r h
  | err c fs A' =>
    rw [e] at h
    exact h
  | bad =>
    rw [e] at h
    exact h
end
/-! ### rows of values -/
def aNil : FL := fun _ A => .ok [] A
def aCons (f : FE) (g : FL) : FL := fun ρ A => (f ρ A).bind fun v A => (g ρ A).bind fun vs A => .ok (v :: vs) A
def szL (vs : List MV) : Bool := decide (vs.length ≤ 1000000)
def eTup (g : FL) : FE := fun ρ A => (g ρ A).bind fun vs A => if szL vs then .ok (.tup vs) A else .bad
def aLst (g : FL) : FL := fun ρ A => (g ρ A).bind fun vs A => if szL vs then .ok vs A else .bad
def eFrz (g : FL) : FE := fun ρ A => (g ρ A).bind fun vs A => .ok (.lst vs) A
def eRef (g : FL) : FE := fun ρ A => (g ρ A).bind fun vs A => .ok (.ref A.length) (A ++ [.lst vs])
section
variable {X : Cx} {W : Wi} {e : Expr} {es : List Expr} {f : FE} {g : FL} {pos : Pos}
theorem ma_nil : PA X [] (tMA X.K W aNil) := ⟨fun p pins s σ H Q I ⟨ι, A, ρ, S, E, h⟩ => pa_nil.run p pins s σ H Q I (RP.ok0 h ⟨S, .nil⟩)⟩
theorem _root_.L2.PA.imp' {X : Cx} {e : List Expr} {t t' : TA} (h : PA X e t) (i : ∀ σ H Q, t' σ H Q → t σ H Q) : PA X e t' := ⟨fun pos pins s σ H Q I q => h.run pos pins s σ H Q I (i σ H Q q)⟩
theorem ma_cons (ha : PE X e (tM X.K W f)) (hr : PA X es (tMA X.K W g)) (hs : starEach (e :: es) X.env = (false, eval e X.env) :: starEach es X.env := by rfl) : PA X (e :: es) (tMA X.K W (aCons f g)) :=
  (pa_cons ha hr hs).imp' fun σ H Q ⟨ι, A, ρ, S, E, h⟩ => RP_bind S E h fun ι1 A1 x u H1 e1 ⟨S1, r1⟩ h1 => RP_bind S1 (E.ext e1) h1 fun ι2 A2 xs us H2 e2 ⟨S2, r2⟩ h2 => RP.ok0 h2 ⟨S2, .cons (r1.ext e2) r2⟩
theorem m_tup {x1 : Nat} (h : PA X es (tMA X.K W g)) : PE X (.Tuple es x1 pos) (tM X.K W (eTup g)) := (pe_tup h).imp fun σ H Q ⟨ι, A, ρ, S, E, h⟩ => RP_bind S E h fun ι1 A1 xs us H1 e1 ⟨S1, r1⟩ h1 => by
  by_cases hz : szL xs = true
  · rw [if_pos hz] at h1
    exact ⟨lim (by rw [← r1.length]; exact of_decide_eq_true hz), fun p hp => h1.new S1 hp (new_tup S1 hp r1)⟩
  · rw [if_neg hz] at h1
    exact h1.elim
theorem ml_lst (h : PA X es (tMA X.K W g)) : PE X (.List es pos) (tML X.K W (aLst g)) := (pe_lst h).imp fun σ H Q ⟨ι, A, ρ, S, E, h⟩ => RP_bind S E h fun ι1 A1 xs us H1 e1 ⟨S1, r1⟩ h1 => by
  by_cases hz : szL xs = true
  · rw [if_pos hz] at h1
    exact ⟨lim (by rw [← r1.length]; exact of_decide_eq_true hz), fun p hp => h1.newL S1 hp r1⟩
  · rw [if_neg hz] at h1
    exact h1.elim
/-- a fresh list as a value that stays -/
theorem m_frz (h : PE X e (tML X.K W g)) : PE X e (tM X.K W (eFrz g)) := h.imp fun σ H Q ⟨ι, A, ρ, S, E, h⟩ => RP_bind S E h fun ι1 A1 xs u H1 e1 r h1 => by
  obtain ⟨a, rfl, f⟩ := r
  exact h1.ok0 ⟨f.sim0, f.frz⟩
/-- .. as a thing that changes -/
theorem m_ref (h : PE X e (tML X.K W g)) : PE X e (tM X.K W (eRef g)) := h.imp fun σ H Q ⟨ι, A, ρ, S, E, h⟩ => RP_bind0 S E h fun ι1 A1 xs u H1 e1 r h1 => by
  obtain ⟨a, rfl, f⟩ := r
  obtain ⟨ys, hy, ry⟩ := f.ex
  refine h1 ⟨ι1.tr ++ [a], ι1.pv⟩ H1 _ (e1.adopt f.free) ⟨f.sim.adopt f.nt (.lst hy (ry.le Le.adopt)), .ref ?_⟩
  have sl : ι1.tr.length = A1.length := f.sim.len
  show (ι1.tr ++ [a])[A1.length]? = some a
  rw [← sl, List.getElem?_append_right (Nat.le_refl _), Nat.sub_self]
  rfl
end
/-! ### statements -/
def Rs.fs {α : Type} (r : Rs α) (ρ : ME) (k : α → AH → Fs) : Fs := match r with
  | .ok v A => k v A
  | .err c fs A => .err c fs ρ A
  | .bad => .bad
section
variable {α β : Type} {K : PySem.W.Frag} {W : Wi} {D : Ends} {σ : L2.St} {ι : Io} {H : Hp} {A : AH} {ρ : ME}
theorem RPS_bind {R : Rel α β} {f : ME → AH → Rs α} {g : α → AH → Fs} {Q1 : β → Hp → Prop} (S : Sim K ι A H) (E : REnv W K ι H ρ σ)
    (h : RPS K W D ι H ((f ρ A).fs ρ g)) (k : ∀ ι' A' v u H', Ext ι H ι' H' → R ι H ι' H' A' v u → RPS K W D ι' H' (g v A') → Q1 u H') : tG K W R f σ H Q1 := by
  refine ⟨ι, A, ρ, S, E, ?_⟩
  cases e : f ρ A with
  | ok v A' =>
    rw [e] at h
    exact fun ι' H' u x r => k ι' A' v u H' x r (RPS.ext x h)
  | err c fs A' =>
    rw [e] at h
    exact fun ι' H' d x s q => h ι' H' σ d x s (E.ext x) q
  | bad =>
    rw [e] at h
    exact h
end
def sNext : FS := fun ρ A => .nx ρ A
def sBad : FS := fun _ _ => .bad
def sBreak : FS := fun ρ A => .bk ρ A
def sCont : FS := fun ρ A => .ct ρ A
def sSeq (a b : FS) : FS := fun ρ A => match a ρ A with
  | .nx ρ A => b ρ A
  | r => r
def sExpr (f : FE) : FS := fun ρ A => (f ρ A).fs ρ fun _ A => .nx ρ A
def sRet (f : FE) : FS := fun ρ A => (f ρ A).fs ρ fun v A => .rt v A
def sRetN : FS := fun _ A => .rt .non A
def sIf (c : FB) (a b : FS) : FS := fun ρ A => (c ρ A).fs ρ fun x A => match x with
  | true => a ρ A
  | false => b ρ A
def sSet (i : Nat) (f : FE) : FS := fun ρ A => (f ρ A).fs ρ fun v A => .nx (ρ.set i (some v)) A
section
variable {X : Cx} {W : Wi} {st : Stmt} {rest a b : List Stmt} {c e : Expr} {f : FE} {gc : FB} {fa fb : FS} {pos pos' : Pos}
theorem mss_nil : PSs X [] (tMS X.K W sNext) := pss_nil.imp fun D σ H ⟨ι, A, ρ, S, E, h⟩ => h ι H σ (Ext.refl _ _) S E
theorem ms_pass : PS X (.Pass pos) (tMS X.K W sNext) := ps_pass.imp fun D σ H ⟨ι, A, ρ, S, E, h⟩ => h ι H σ (Ext.refl _ _) S E
theorem ms_break : PS X (.Break pos) (tMS X.K W sBreak) := ps_break.imp fun D σ H ⟨ι, A, ρ, S, E, h⟩ => h ι H σ (Ext.refl _ _) S E
theorem ms_continue : PS X (.Continue pos) (tMS X.K W sCont) := ps_continue.imp fun D σ H ⟨ι, A, ρ, S, E, h⟩ => h ι H σ (Ext.refl _ _) S E
theorem ms_bad : PS X st (tMS X.K W sBad) := ps_never.imp fun D σ H ⟨ι, A, ρ, S, E, h⟩ => h
theorem mss_cons (h1 : PS X st (tMS X.K W fa)) (h2 : PSs X rest (tMS X.K W fb)) : PSs X (st :: rest) (tMS X.K W (sSeq fa fb)) := (pss_cons h1 h2).imp fun D σ H ⟨ι, A, ρ, S, E, h⟩ => by
  refine ⟨ι, A, ρ, S, E, ?_⟩
  unfold sSeq at h
  cases e : fa ρ A with
  | nx ρ' A' =>
    rw [e] at h
    exact fun ι' H' σ' x s r => ⟨ι', A', ρ', s, r, RPS.ext x h⟩
  | rt v A' => rw [e] at h; exact h
  | bk ρ' A' => rw [e] at h; exact h
  | ct ρ' A' => rw [e] at h; exact h
  | err c fs ρ' A' => rw [e] at h; exact h
  | bad => rw [e] at h; exact h
theorem mss_one (h1 : PS X st (tMS X.K W fa)) : PSs X [st] (tMS X.K W fa) := pss_one h1
theorem ms_expr (he : PE X e (tM X.K W f)) (hs : swapsWith e none pos.line X.env = pure false := by rfl) : PS X (.Expr e pos) (tMS X.K W (sExpr f)) := (ps_expr he hs).imp fun D σ H ⟨ι, A, ρ, S, E, h⟩ => RPS_bind S E h fun ι1 A1 x u H1 e1 ⟨S1, r1⟩ h1 => h1 ι1 H1 σ (Ext.refl _ _) S1 (E.ext e1)
theorem ms_ret (he : PE X e (tM X.K W f)) : PS X (.Return (some e) pos) (tMS X.K W (sRet f)) := (ps_ret he).imp fun D σ H ⟨ι, A, ρ, S, E, h⟩ => RPS_bind S E h fun ι1 A1 x u H1 e1 ⟨S1, r1⟩ h1 => h1 ι1 H1 u (Ext.refl _ _) S1 r1
theorem ms_retN : PS X (.Return none pos) (tMS X.K W sRetN) := ps_retN.imp fun D σ H ⟨ι, A, ρ, S, E, h⟩ => h ι H .non (Ext.refl _ _) S .non
theorem ms_if (hc : PT X c (tMB X.K W gc)) (ha : PSs X a (tMS X.K W fa)) (hb : PSs X b (tMS X.K W fb)) : PS X (.If c a b pos) (tMS X.K W (sIf gc fa fb)) := (ps_if hc ha hb).imp fun D σ H ⟨ι, A, ρ, S, E, h⟩ => RPS_bind S E h fun ι1 A1 x u H1 e1 ⟨S1, r1⟩ h1 => by
  cases r1
  cases x with
  | true => exact ⟨ι1, A1, ρ, S1, E.ext e1, h1⟩
  | false => exact ⟨ι1, A1, ρ, S1, E.ext e1, h1⟩
theorem ms_set {i : Nat} {x : Str} (hN : X.N.Nodup) (he : PE X e (tM X.K W f)) (hi : X.N[i]? = some x := by rfl) (hx : Loc X.env.scope x := by first | exact Or.inl rfl | exact Or.inr rfl) (hs : swapsWith e (some (.Name x pos')) pos.line X.env = pure false := by rfl) (hf : X.fn x = true ∨ X.env.scope.names.lookup x = some .local := by first | exact .inl rfl | exact .inr rfl | assumption) :
    PS X (.Assign [.Name x pos'] e pos) (tMS X.K W (sSet i f)) := (ps_set hN hi hx he hs hf).imp fun D σ H ⟨ι, A, ρ, S, E, h⟩ => RPS_bind S E h fun ι1 A1 x u H1 e1 ⟨S1, r1⟩ h1 => h1 ι1 H1 _ (Ext.refl _ _) S1 ((E.ext e1).set i r1)
end
/-! ### targets -/
def setAll (σ : L2.St) : List Nat → List V → L2.St
  | i :: is, u :: us => setAll (σ.set i (some u)) is us
  | _, _ => σ
def setAllM (ρ : ME) : List Nat → List MV → ME
  | i :: is, u :: us => setAllM (ρ.set i (some u)) is us
  | _, _ => ρ
theorem setAll_append : ∀ {is js : List Nat} {us ws : List V} {σ : L2.St}, us.length = is.length → setAll σ (is ++ js) (us ++ ws) = setAll (setAll σ is us) js ws
  | [], js, [], ws, σ, _ => rfl
  | i :: is, js, u :: us, ws, σ, h => setAll_append (is := is) (us := us) (by simpa using h)
  | [], _, _ :: _, _, _, h => by simp at h
  | _ :: _, _, [], _, _, h => by simp at h
theorem REnv.setAll {W : Wi} {K : PySem.W.Frag} {ι : Io} {H : Hp} : ∀ {is : List Nat} {ms : List MV} {us : List V} {ρ : ME} {σ : L2.St}, REnv W K ι H ρ σ → RVs K ι H ms us → REnv W K ι H (setAllM ρ is ms) (Mv.setAll σ is us)
  | [], _, _, _, _, r, q => by cases q <;> exact r
  | i :: is, _, _, ρ, σ, r, .nil => r
  | i :: is, _, _, ρ, σ, r, .cons a b => REnv.setAll (is := is) (r.set i a) b
/-- a target: its slots, how it takes a value apart -/
def tMG (K : PySem.W.Frag) (is : List Nat) (g : MV → Option (List MV)) : TG := fun v σ H Q => ∃ ι A m ms, Sim K ι A H ∧ RV K ι H m v ∧ g m = some ms ∧ ∀ us, RVs K ι H ms us → us.length = is.length → Q (setAll σ is us) H
def tMGs (K : PySem.W.Frag) (is : List Nat) (g : List MV → Option (List MV)) : TGs := fun v σ H Q => ∃ ι A m ms, Sim K ι A H ∧ RVs K ι H m v ∧ g m = some ms ∧ ∀ us, RVs K ι H ms us → us.length = is.length → Q (setAll σ is us) H
abbrev TgM (X : Cx) (tg : Expr) (is : List Nat) (g : MV → Option (List MV)) : Prop := PG X tg (tMG X.K is g)
abbrev TgsM (X : Cx) (tgs : List Expr) (is : List Nat) (g : List MV → Option (List MV)) : Prop := PGs X tgs (tMGs X.K is g)
theorem _root_.L2.PG.imp {X : Cx} {tg : Expr} {t t' : TG} (h : PG X tg t) (i : ∀ v σ H Q, t' v σ H Q → t v σ H Q) : PG X tg t' := ⟨fun pins s σ H v u Q I r q => h.run pins s σ H v u Q I r (i v σ H Q q)⟩
theorem _root_.L2.PGs.imp {X : Cx} {tg : List Expr} {t t' : TGs} (h : PGs X tg t) (i : ∀ v σ H Q, t' v σ H Q → t v σ H Q) : PGs X tg t' := ⟨fun pins s σ H v u Q I r q => h.run pins s σ H v u Q I r (i v σ H Q q)⟩
def gNm : MV → Option (List MV) := fun m => some [m]
def gNilM : List MV → Option (List MV)
  | [] => some []
  | _ => none
def gConsM (g : MV → Option (List MV)) (gs : List MV → Option (List MV)) : List MV → Option (List MV)
  | m :: ms => match g m, gs ms with
    | some a, some b => some (a ++ b)
    | _, _ => none
  | [] => none
def gTupM (n : Nat) (gs : List MV → Option (List MV)) : MV → Option (List MV) := fun v => match tupOf v with
  | some ms => if ms.length = n then gs ms else none
  | none => none
section
variable {X : Cx} {pos : Pos}
theorem tg_name {i : Nat} {x : Str} (hN : X.N.Nodup) (hi : X.N[i]? = some x := by rfl) (hx : Loc X.env.scope x := by first | exact Or.inl rfl | exact Or.inr rfl) (hf : X.fn x = true ∨ X.env.scope.names.lookup x = some .local := by first | exact .inl rfl | exact .inr rfl | assumption) : TgM X (.Name x pos) [i] gNm :=
  (pg_name hN hi hx hf).imp fun v σ H Q ⟨ι, A, m, ms, S, r, e, k⟩ => by
    cases e
    exact k [_] (.one r) rfl
theorem tgs_nil : TgsM X [] [] gNilM := pgs_nil.imp fun v σ H Q ⟨ι, A, m, ms, S, r, e, k⟩ => by
  cases r with
  | nil =>
    cases e
    exact ⟨rfl, k [] .nil rfl⟩
  | cons _ _ => cases e
theorem tgs_cons {e : Expr} {es : List Expr} {is js : List Nat} {g : MV → Option (List MV)} {gs : List MV → Option (List MV)} (h1 : TgM X e is g) (h2 : TgsM X es js gs) (ha : (assignEach (e :: es) X.env).map (·.2) = assign e X.env :: (assignEach es X.env).map (·.2) := by rfl) : TgsM X (e :: es) (is ++ js) (gConsM g gs) := (pgs_cons h1 h2 ha).imp fun v σ H Q ⟨ι, A, m, ms, S, r, e, k⟩ => by
  cases r with
  | nil => cases e
  | @cons mv mvs x xs a b =>
    have e : (match g mv, gs mvs with
      | some a, some b => some (a ++ b)
      | _, _ => none) = some ms := e
    split at e
    · rename_i m1 m2 e1 e2
      cases e
      refine ⟨x, xs, rfl, ι, A, mv, m1, S, a, e1, fun us hr hl => ⟨ι, A, mvs, m2, S, b, e2, fun ws hw hl2 => ?_⟩⟩
      have := k (us ++ ws) (hr.append hw) (by simp [hl, hl2])
      rw [setAll_append hl] at this
      exact this
    · cases e
theorem tg_tup {es : List Expr} {k n : Nat} {is : List Nat} {gs : List MV → Option (List MV)} (hc : X.calm = true) (h : TgsM X es is gs) (hn : (assignEach es X.env).length = n := by rfl) (hst : (assignEach es X.env).findIdx? (·.1) = none := by rfl) : TgM X (.Tuple es k pos) is (gTupM n gs) := (pg_tup hc h hn hst).imp fun v σ H Q ⟨ι, A, m, ms, S, r, e, k⟩ => by
  unfold gTupM at e
  split at e
  · rename_i ev
    split at e
    · rename_i hl
      obtain ⟨a, xs, rfl, sq, rs⟩ := r.sqT ev
      exact ⟨a, xs, rfl, sq, by rw [← rs.length]; exact hl, ι, A, _, ms, S, rs, e, k⟩
    · cases e
  · cases e
end
def sAsg (f : FE) (is : List Nat) (g : MV → Option (List MV)) : FS := fun ρ A => (f ρ A).fs ρ fun v A => match g v with
  | some ms => .nx (setAllM ρ is ms) A
  | none => .bad
theorem ms_asg {X : Cx} {W : Wi} {tg e : Expr} {f : FE} {is : List Nat} {g : MV → Option (List MV)} {pos : Pos} (he : PE X e (tM X.K W f)) (hg : TgM X tg is g) (hs : swapsWithSole [tg] e pos.line X.env = pure false := by rfl) (hw : swappedStores [tg] e X.env = pure none := by rfl) (h1 : (assignEach [tg] X.env).map (·.2) = [assign tg X.env] := by rfl) :
    PS X (.Assign [tg] e pos) (tMS X.K W (sAsg f is g)) := by
  refine (ps_asg he hg hs hw h1).imp fun D σ H ⟨ι, A, ρ, S, E, h⟩ => RPS_bind S E h fun ι1 A1 x u H1 e1 ⟨S1, r1⟩ h1 => ?_
  cases eg : g x with
  | none =>
    rw [eg] at h1
    exact h1.elim
  | some ms =>
    rw [eg] at h1
    exact ⟨ι1, A1, x, ms, S1, r1, eg, fun us hr _ => h1 ι1 H1 _ (Ext.refl _ _) S1 ((E.ext e1).setAll hr)⟩
/-! ### loops -/
/-- what is known stays known, locks too -/
structure Lx (ι : Io) (H : Hp) (ι' : Io) (H' : Hp) : Prop where
  le : Le ι H ι' H'
  frz : ∀ p o u, H p = some (.frz o u) → H' p = some (.frz o u)
theorem Ext.lx {ι ι' : Io} {H H' : Hp} (e : Ext ι H ι' H') : Lx ι H ι' H' := ⟨e.le, e.frz⟩
theorem Lx.trans {ι ι' ι'' : Io} {H H' H'' : Hp} (a : Lx ι H ι' H') (b : Lx ι' H' ι'' H'') : Lx ι H ι'' H'' := ⟨a.le.trans b.le, fun p o u h => b.frz p o u (a.frz p o u h)⟩
/-- the iterator gives the values vs, one by one -/
def ItOk (K : PySem.W.Frag) (ι : Io) (H : Hp) (vs : List MV) (J : It) : Prop := ∀ ι2 A2 H2, Lx ι H ι2 H2 → Sim K ι2 A2 H2 → ∀ i : Nat,
  (∀ v, vs[i]? = some v → J.go i H2 ∧ ∀ x H3, J.yld i H2 x H3 → Ext ι2 H2 ι2 H3 ∧ Sim K ι2 A2 H3 ∧ RV K ι2 H3 v x) ∧ (vs.length ≤ i → J.stop i H2)
abbrev rI (K : PySem.W.Frag) : Rel (List MV) It := fun _ _ ι' H' A' vs J => Sim K ι' A' H' ∧ ItOk K ι' H' vs J
abbrev tMI (K : PySem.W.Frag) (W : Wi) (f : FL) : TI := tG K W (rI K) f
theorem _root_.L2.PI.imp {X : Cx} {tg e : Expr} {t t' : TI} (h : PI X tg e t) (i : ∀ σ H R, t' σ H R → t σ H R) : PI X tg e t' := ⟨fun pins s σ H R I q => h.run pins s σ H R I (i σ H R q)⟩
def runL (body : MV → FS) : List MV → FS
  | [], ρ, A => .nx ρ A
  | x :: xs, ρ, A => match body x ρ A with
    | .nx ρ' A' => runL body xs ρ' A'
    | .ct ρ' A' => runL body xs ρ' A'
    | .bk ρ' A' => .nx ρ' A'
    | r => r
def turn (is : List Nat) (g : MV → Option (List MV)) (body : FS) : MV → FS := fun x ρ A => match g x with
  | some ms => body (setAllM ρ is ms) A
  | none => .bad
def sFor (fi : FL) (is : List Nat) (g : MV → Option (List MV)) (body : FS) : FS := fun ρ A => (fi ρ A).fs ρ fun xs A => runL (turn is g body) xs ρ A
theorem ms_for {X : Cx} {W : Wi} {tg iter : Expr} {body : List Stmt} {fi : FL} {is : List Nat} {g : MV → Option (List MV)} {fb : FS} {pos : Pos} (hp : PassesOwn (model X.prog X.w) X.A X.env X.xe) (hc : X.calm = true) (hi : PI X tg iter (tMI X.K W fi)) (hg : TgM X tg is g) (hb : PSs X body (tMS X.K W fb))
    (hs : ∀ x, foldedSetIterable iter X.env x = pure x := by intro _; rfl) : PS X (.For tg iter body [] pos) (tMS X.K W (sFor fi is g fb)) := by
  refine (ps_for hp hc hi hg hb hs).imp fun D σ H ⟨ι, A, ρ, S, E, h⟩ => RPS_bind S E h fun ι1 A1 vs J H1 e1 ⟨S1, ok⟩ h1 => ?_
  refine ⟨fun i m σ H => ∃ ι A ρ, Ext ι1 H1 ι H ∧ Sim X.K ι A H ∧ REnv W X.K ι H ρ σ ∧ m = vs.length - i ∧ i ≤ vs.length ∧ RPS X.K W D ι H (runL (turn is g fb) (vs.drop i) ρ A), ⟨_, ι1, A1, ρ, Ext.refl _ _, S1, E.ext e1, rfl, Nat.zero_le _, h1⟩, fun i m σ H ⟨ι, A, ρ, e, S, E, em, hl, h⟩ => ?_⟩
  obtain ⟨k1, k2⟩ := ok ι A H e.lx S i
  by_cases hi : i < vs.length
  · obtain ⟨v, hv⟩ : ∃ v, vs[i]? = some v := ⟨_, List.getElem?_eq_getElem hi⟩
    obtain ⟨go, yl⟩ := k1 v hv
    have ed : vs.drop i = v :: vs.drop (i + 1) := by
      rw [List.drop_eq_getElem_cons hi]
      rw [List.getElem?_eq_getElem hi] at hv
      cases hv
      rfl
    rw [ed] at h
    refine .inr ⟨go, fun σ' H' => ∃ ι' A' ρ', Ext ι1 H1 ι' H' ∧ Sim X.K ι' A' H' ∧ REnv W X.K ι' H' ρ' σ' ∧ RPS X.K W D ι' H' (runL (turn is g fb) (vs.drop (i + 1)) ρ' A'), fun σ' H' ⟨ι', A', ρ', a, b, c, d⟩ => ⟨vs.length - (i + 1), by omega, ι', A', ρ', a, b, c, rfl, hi, d⟩, fun x H2 y => ?_⟩
    obtain ⟨e2, S2, r2⟩ := yl x H2 y
    have h2 : RPS X.K W D ι H2 (runL (turn is g fb) (v :: vs.drop (i + 1)) ρ A) := RPS.ext e2 h
    unfold runL turn at h2
    cases eg : g v with
    | none =>
      rw [eg] at h2
      exact h2.elim
    | some ms =>
      rw [eg] at h2
      refine ⟨ι, A, v, ms, S2, r2, eg, fun us hr hl2 => ⟨ι, A, _, S2, (E.ext e2).setAll hr, ?_⟩⟩
      dsimp only at h2
      cases ef : fb (setAllM ρ is ms) A with
      | nx ρ' A' =>
        rw [ef] at h2
        exact fun ι' H' σ' x s r => ⟨ι', A', ρ', (e.trans e2).trans x, s, r, RPS.ext x h2⟩
      | ct ρ' A' =>
        rw [ef] at h2
        exact fun ι' H' σ' x s r => ⟨ι', A', ρ', (e.trans e2).trans x, s, r, RPS.ext x h2⟩
      | bk ρ' A' =>
        rw [ef] at h2
        exact h2
      | rt v A' =>
        rw [ef] at h2
        exact h2
      | err c fs ρ' A' =>
        rw [ef] at h2
        exact h2
      | bad =>
        rw [ef] at h2
        exact h2
  · refine .inl ⟨k2 (by omega), ?_⟩
    rw [List.drop_eq_nil_of_le (by omega)] at h
    exact h ι H σ (Ext.refl _ _) S E
/-! ### what is walked -/
def iSeq (f : FE) : FL := fun ρ A => (f ρ A).bind fun v A => match tupOf v with
  | some xs => .ok xs A
  | none => .bad
def iFrz (f : FE) : FL := fun ρ A => (f ρ A).bind fun v A => match v with
  | .lst xs => .ok xs A
  | _ => .bad
theorem fp_of_sqT {K : PySem.W.Frag} {ι ι2 : Io} {H H2 : Hp} {a : Addr} {xs : List V} (l : Le ι H ι2 H2) (h : (ι.out a ∧ Rd H a (.tup xs)) ∨ SqT K H0 a xs) : SqT K H2 a xs := by
  rcases h with h | h
  · exact .inl (l.rd h.1 h.2).2
  · exact sqT0 h
theorem fp_of_sqL {K : PySem.W.Frag} {ι ι2 : Io} {H H2 : Hp} {a : Addr} {xs : List V} (l : Le ι H ι2 H2) (h : ι.out a ∧ Rd H a (.lst xs)) : SqL K H2 a xs := .inl (l.rd h.1 h.2).2
section
variable {X : Cx} {W : Wi} {tg e : Expr} {f : FE}
theorem mi_tup (he : PE X e (tM X.K W f)) : PI X tg e (tMI X.K W (iSeq f)) := (pi_tup he).imp fun σ H R ⟨ι, A, ρ, S, E, h⟩ => RP_bind S E h fun ι1 A1 v u H1 e1 ⟨S1, r1⟩ h1 => by
  cases q : tupOf v with
  | none => rw [q] at h1; exact h1.elim
  | some vs =>
    rw [q] at h1
    obtain ⟨a, xs, rfl, hh, rs⟩ := r1.tupR q
    refine ⟨a, rfl, ⟨xs, fp_of_sqT (Le.refl _ _) hh⟩, h1.ok0 ⟨S1, fun ι2 A2 H2 l S2 i => ⟨fun v hv => ?_, fun hl => ⟨xs, fp_of_sqT l.le hh, by rw [← rs.length]; exact hl⟩⟩⟩⟩
    obtain ⟨x, hx, rx⟩ := rs.get hv
    refine ⟨⟨xs, x, fp_of_sqT l.le hh, hx⟩, fun y H3 ⟨eq, hy⟩ => ?_⟩
    subst eq
    have := hy xs (fp_of_sqT l.le hh)
    rw [hx] at this
    cases this
    exact ⟨Ext.refl _ _, S2, rx.le l.le⟩
theorem mi_frz (he : PE X e (tM X.K W f)) : PI X tg e (tMI X.K W (iFrz f)) := (pi_list he).imp fun σ H R ⟨ι, A, ρ, S, E, h⟩ => RP_bind S E h fun ι1 A1 v u H1 e1 ⟨S1, r1⟩ h1 => by
  cases r1 with
  | @lst a vs xs hh rs =>
    refine ⟨a, rfl, ⟨xs, fp_of_sqL (Le.refl _ _) hh⟩, h1.ok0 ⟨S1, fun ι2 A2 H2 l S2 i => ⟨fun v hv => ?_, fun hl => ⟨xs, fp_of_sqL l.le hh, by rw [← rs.length]; exact hl⟩⟩⟩⟩
    obtain ⟨x, hx, rx⟩ := rs.get hv
    refine ⟨⟨xs, x, fp_of_sqL l.le hh, hx⟩, fun y H3 ⟨eq, hy⟩ => ?_⟩
    subst eq
    have := hy xs (fp_of_sqL l.le hh)
    rw [hx] at this
    cases this
    exact ⟨Ext.refl _ _, S2, rx.le l.le⟩
  | _ => exact h1.elim
end
/-- range(n), range(a, b) -/
def rangeM (lo hi : Int) : List MV := (List.range (hi - lo).toNat).map fun (i : Nat) => .int (lo + i)
def iRng1 (g : FL) : FL := fun ρ A => (g ρ A).bind fun vs A => match vs with
  | [.int j] => if -1000000 ≤ j ∧ j ≤ 1000000 then .ok (rangeM 0 j) A else .bad
  | _ => .bad
def iRng2 (g : FL) : FL := fun ρ A => (g ρ A).bind fun vs A => match vs with
  | [.int i, .int j] => if -1000000 ≤ i ∧ i ≤ 1000000 ∧ -1000000 ≤ j ∧ j ≤ 1000000 then .ok (rangeM i j) A else .bad
  | _ => .bad
theorem itOk_rng {K : PySem.W.Frag} {ι : Io} {H : Hp} (lo hi : Int) : ItOk K ι H (rangeM lo hi) (Itr lo (hi - lo).toNat) := fun ι2 A2 H2 l S2 i => by
  refine ⟨fun v hv => ?_, fun hl => ?_⟩
  · unfold rangeM at hv
    rw [List.getElem?_map] at hv
    cases e : (List.range (hi - lo).toNat)[i]? with
    | none =>
      rw [e] at hv
      cases hv
    | some j =>
      rw [e] at hv
      cases hv
      obtain ⟨h1, h2⟩ := List.getElem?_eq_some_iff.mp e
      rw [List.getElem_range] at h2
      subst h2
      rw [List.length_range] at h1
      refine ⟨h1, fun x H3 ⟨e1, e2⟩ => ?_⟩
      subst e1 e2
      exact ⟨Ext.refl _ _, S2, .int _⟩
  · unfold rangeM at hl
    rw [List.length_map, List.length_range] at hl
    exact hl
section
variable {X : Cx} {W : Wi} {tg a b : Expr} {g : FL} {p pos : Pos}
theorem mi_range1 (hm : X.mg "range" = none) (ha : PA X [a] (tMA X.K W g)) (hg : Gl X "range" := by rfl) (hs : starEach [a] X.env = [(false, eval a X.env)] := by rfl) : PI X tg (.Call (.Name "range" p) [a] [] pos) (tMI X.K W (Mv.iRng1 g)) :=
  (pi_range1 hg hm ha hs).imp fun σ H R ⟨ι, A, ρ, S, E, h⟩ => RP_bind S E h fun ι1 A1 vs us H1 e1 ⟨S1, r1⟩ h1 => by
    split at h1
    · cases r1 with
      | cons q qs =>
        cases q
        cases qs
        split at h1
        · rename_i hb
          refine ⟨_, rfl, by omega, by omega, ?_⟩
          have := h1.ok0 ⟨S1, itOk_rng 0 _⟩
          rw [Int.sub_zero] at this
          exact this
        · exact h1.elim
    · exact h1.elim
theorem mi_range2 (hm : X.mg "range" = none) (ha : PA X [a, b] (tMA X.K W g)) (hg : Gl X "range" := by rfl) (hs : starEach [a, b] X.env = [(false, eval a X.env), (false, eval b X.env)] := by rfl) (hs2 : starEach [b] X.env = [(false, eval b X.env)] := by rfl) : PI X tg (.Call (.Name "range" p) [a, b] [] pos) (tMI X.K W (Mv.iRng2 g)) :=
  (pi_range2 hg hm ha hs hs2).imp fun σ H R ⟨ι, A, ρ, S, E, h⟩ => RP_bind S E h fun ι1 A1 vs us H1 e1 ⟨S1, r1⟩ h1 => by
    split at h1
    · cases r1 with
      | cons q qs => cases qs with
        | cons q2 qs2 =>
          cases q
          cases q2
          cases qs2
          split at h1
          · rename_i hb
            exact ⟨_, _, rfl, by omega, h1.ok0 ⟨S1, itOk_rng _ _⟩⟩
          · exact h1.elim
    · exact h1.elim
end
end Mv
/-! Mv3: comprehensions, locks, more that is walked -/
namespace Mv
open PySem PySem.Spec PyProof.Rows L2 Fk
/-- nothing is let out -/
abbrev W0 : Wi := Wi.of fun _ _ _ _ => False
def wipeM (ρ : ME) : List Nat → ME
  | [] => ρ
  | v :: vs => (wipeM ρ vs).set v none
abbrev FQ := ME → AH → Rs (List MV)
def qElt (t : FB) (e : FE) : FQ := fun ρ A => match t ρ A with
  | .ok true A1 => (match e ρ A1 with
    | .ok v A2 => .ok [v] A2
    | _ => .bad)
  | .ok false A1 => .ok [] A1
  | _ => .bad
def qRun (is : List Nat) (g : MV → Option (List MV)) (q : FQ) : List MV → FQ
  | [], _, A => .ok [] A
  | x :: xs, ρ, A => match g x with
    | none => .bad
    | some ms => match q (setAllM ρ is ms) A with
      | .ok vs A1 => (match qRun is g q xs ρ A1 with
        | .ok ws A2 => .ok (vs ++ ws) A2
        | _ => .bad)
      | _ => .bad
def qIn (t : FB) (fi : FL) (vs1 is : List Nat) (g : MV → Option (List MV)) (q : FQ) : FQ := fun ρ A => match t ρ A with
  | .ok true A1 => (match fi ρ A1 with
    | .ok xs A2 => qRun is g q xs (wipeM ρ vs1) A2
    | _ => .bad)
  | .ok false A1 => .ok [] A1
  | _ => .bad
def aLc (fi : FL) (own is : List Nat) (g : MV → Option (List MV)) (q : FQ) : FL := fun ρ A => (fi ρ A).bind fun xs A => match qRun is g q xs (wipeM ρ own) A with
  | .ok vs A' => if szL vs then .ok vs A' else .bad
  | _ => .bad
def bYes : FB := fun _ A => .ok true A
section
variable {W : Wi} {K : PySem.W.Frag} {ι ι' : Io} {H H' : Hp}
theorem REnv.wipe {w : WX} {ρ : ME} {σ : L2.St} (r : REnv (Wi.of w) K ι H ρ σ) : ∀ vs : List Nat, REnv (Wi.of w) K ι H (wipeM ρ vs) (L2.wipe σ vs)
  | [] => r
  | v :: vs => (REnv.wipe r vs).unset v none
theorem wipe_setAll {σ : L2.St} {vs : List Nat} : ∀ {is : List Nat} {us : List V} {τ : L2.St}, (∀ i ∈ is, i ∈ vs) → τ.length = σ.length → (∀ i, i ∉ vs → τ[i]? = σ[i]?) → L2.wipe (setAll τ is us) vs = L2.wipe σ vs := by
  have base : ∀ {τ : L2.St}, τ.length = σ.length → (∀ i, i ∉ vs → τ[i]? = σ[i]?) → L2.wipe τ vs = L2.wipe σ vs := fun {τ} hl hi => by
    apply List.ext_getElem?
    intro j
    by_cases hj : j ∈ vs
    · have : ∀ {τ' : L2.St} {ws : List Nat}, j ∈ ws → τ'.length = σ.length → (L2.wipe τ' ws)[j]? = if j < σ.length then some none else none := by
        intro τ' ws
        induction ws with
        | nil => intro h; cases h
        | cons w ws ih =>
          intro h hl'
          show ((L2.wipe τ' ws).set w none)[j]? = _
          by_cases hw : w = j
          · subst hw
            by_cases hlt : w < σ.length
            · rw [List.getElem?_set_self (by rw [wipe_length, hl']; exact hlt), if_pos hlt]
            · rw [List.getElem?_eq_none (by rw [List.length_set, wipe_length, hl']; omega), if_neg hlt]
          · rw [List.getElem?_set_ne hw]
            exact ih ((List.mem_cons.mp h).resolve_left fun z => hw z.symm) hl'
      rw [this hj hl, this hj rfl]
    · rw [wipe_out hj, wipe_out hj]
      exact hi j hj
  intro is
  induction is with
  | nil =>
    intro us τ _ hl hi
    exact base hl hi
  | cons i is ih =>
    intro us τ hs hl hi
    cases us with
    | nil => exact base hl hi
    | cons u us =>
      show L2.wipe (setAll (τ.set i (some u)) is us) vs = _
      refine ih (fun j hj => hs j (List.mem_cons_of_mem _ hj)) (by rw [List.length_set]; exact hl) fun j hj => ?_
      have : i ≠ j := fun z => hj (by rw [← z]; exact hs i (List.mem_cons_self ..))
      rw [List.getElem?_set_ne this]
      exact hi j hj
theorem wipe_wipe {σ : L2.St} {vs is : List Nat} {us : List V} (h : ∀ i ∈ is, i ∈ vs) : L2.wipe (setAll (L2.wipe σ vs) is us) vs = L2.wipe σ vs := wipe_setAll h (wipe_length _ _) fun i hi => wipe_out hi
theorem ItOk.lx {vs : List MV} {J : It} (h : ItOk K ι H vs J) (l : Lx ι H ι' H') : ItOk K ι' H' vs J := fun ι2 A2 H2 l2 S2 i => h ι2 A2 H2 (l.trans l2) S2 i
theorem Lx.refl (ι : Io) (H : Hp) : Lx ι H ι H := (Ext.refl ι H).lx
end
/-- a comprehension runs: its list is at D, hidden; acc is made so far -/
structure LcS (K : PySem.W.Frag) (ι1 : Io) (H1 : Hp) (D : Addr) (tr : List Addr) (H : Hp) (A : AH) (acc : List MV) : Prop where
  e : Ext ι1 H1 ⟨tr, ι1.pv⟩ H
  S : Sim K ⟨tr, D :: ι1.pv⟩ A H
  nt : D ∉ tr
  ex : ∃ xs, H D = some (.lst xs) ∧ RVs K ⟨tr, D :: ι1.pv⟩ H acc xs
section
variable {K : PySem.W.Frag} {ι1 ι2 : Io} {H1 H H2 : Hp} {D : Addr} {tr : List Addr} {A A2 : AH} {acc : List MV}
theorem LcS.go (L : LcS K ι1 H1 D tr H A acc) (x : Ext ⟨tr, D :: ι1.pv⟩ H ι2 H2) (S2 : Sim K ι2 A2 H2) : ι2 = ⟨ι2.tr, D :: ι1.pv⟩ ∧ LcS K ι1 H1 D ι2.tr H2 A2 acc := by
  obtain ⟨tr2, pv2⟩ := ι2
  have ep : pv2 = D :: ι1.pv := x.pv
  subst ep
  obtain ⟨xs, h1, h2⟩ := L.ex
  refine ⟨rfl, L.e.trans ⟨x.pre, rfl, x.new, x.keep, x.frz⟩, S2, x.out L.nt h1, xs, x.keep _ _ L.nt h1, h2.ext x⟩
theorem Lx.priv {ι : Io} {a : Addr} {o : HO} (h : a ∈ ι.pv) (nf : NoFrz H a) : Lx ι H ι (upd H a o) := ⟨Le.priv h, fun p ob u e => by
  rw [upd_ne (fun z => nf ob u (by rw [← z]; exact e))]
  exact e⟩
theorem nofrz_lst {xs : List V} (h : H D = some (.lst xs)) : NoFrz H D := fun o u e => by
  rw [h] at e
  cases e
theorem LcS.app (L : LcS K ι1 H1 D tr H A acc) (hf : H1 D = none) {m : MV} {y : V} (r : RV K ⟨tr, D :: ι1.pv⟩ H m y) : ∃ xs, H D = some (.lst xs) ∧ xs.length = acc.length ∧ LcS K ι1 H1 D tr (upd H D (.lst (xs ++ [y]))) A (acc ++ [m]) ∧ Lx ⟨tr, D :: ι1.pv⟩ H ⟨tr, D :: ι1.pv⟩ (upd H D (.lst (xs ++ [y]))) := by
  obtain ⟨xs, h1, h2⟩ := L.ex
  have l : Lx ⟨tr, D :: ι1.pv⟩ H ⟨tr, D :: ι1.pv⟩ (upd H D (.lst (xs ++ [y]))) := Lx.priv (List.mem_cons_self ..) (nofrz_lst h1)
  exact ⟨xs, h1, h2.length.symm, ⟨L.e.mutNew hf, L.S.priv (List.mem_cons_self ..) L.nt, L.nt, _, upd_same, (h2.append (.one r)).le l.le⟩, l⟩
end
/-- what a turn's reading wants -/
def BodyOk (K : PySem.W.Frag) (ι1 : Io) (H1 : Hp) (D : Addr) (q : FQ) (B : L2.St → Hp → (Hp → Prop) → Prop) : Prop := ∀ {tr : List Addr} {H : Hp} {A A' : AH} {acc vs : List MV} {ρ : ME} {σ : L2.St} {Nx : Hp → Prop}, LcS K ι1 H1 D tr H A acc → REnv W0 K ⟨tr, D :: ι1.pv⟩ H ρ σ → q ρ A = .ok vs A' → (acc ++ vs).length ≤ 1000000 →
  (∀ tr' H', LcS K ι1 H1 D tr' H' A' (acc ++ vs) → Lx ⟨tr, D :: ι1.pv⟩ H ⟨tr', D :: ι1.pv⟩ H' → Nx H') → B σ H Nx
section
variable {K : PySem.W.Frag} {ι1 : Io} {H1 : Hp} {D : Addr}
theorem lc_loop {J : It} {xs ws : List MV} {is vs : List Nat} {g : MV → Option (List MV)} {q : FQ} {B : L2.St → Hp → (Hp → Prop) → Prop} {σ : L2.St} {ρw : ME} {tr : List Addr} {H : Hp} {A A' : AH} {acc : List MV} {Qd : Hp → Prop}
    (ok : ItOk K ⟨tr, D :: ι1.pv⟩ H xs J) (hsub : ∀ i ∈ is, i ∈ vs) (L : LcS K ι1 H1 D tr H A acc) (E : REnv W0 K ⟨tr, D :: ι1.pv⟩ H ρw (L2.wipe σ vs)) (hq : qRun is g q xs ρw A = .ok ws A') (hsz : (acc ++ ws).length ≤ 1000000) (hB : BodyOk K ι1 H1 D q B)
    (fin : ∀ tr' H', LcS K ι1 H1 D tr' H' A' (acc ++ ws) → Lx ⟨tr, D :: ι1.pv⟩ H ⟨tr', D :: ι1.pv⟩ H' → Qd H') :
    ∃ W : Nat → Nat → Hp → Prop, (∃ m, W 0 m H) ∧ ∀ i m H, W i m H → (J.stop i H ∧ Qd H) ∨ (J.go i H ∧ ∃ Nx : Hp → Prop, (∀ H', Nx H' → ∃ m', m' < m ∧ W (i + 1) m' H') ∧ ∀ x H', J.yld i H x H' → tMG K is g x (L2.wipe σ vs) H' fun σ2 H2 => L2.wipe σ2 vs = L2.wipe σ vs ∧ B σ2 H2 Nx) := by
  refine ⟨fun i m H2 => ∃ tr2 A2 acc2 ws2, LcS K ι1 H1 D tr2 H2 A2 acc2 ∧ Lx ⟨tr, D :: ι1.pv⟩ H ⟨tr2, D :: ι1.pv⟩ H2 ∧ qRun is g q (xs.drop i) ρw A2 = .ok ws2 A' ∧ acc2 ++ ws2 = acc ++ ws ∧ m = xs.length - i ∧ i ≤ xs.length, ⟨_, tr, A, acc, ws, L, Lx.refl _ _, hq, rfl, rfl, Nat.zero_le _⟩, fun i m H2 ⟨tr2, A2, acc2, ws2, L2, l2, hq2, ea, em, hl⟩ => ?_⟩
  obtain ⟨k1, k2⟩ := ok _ _ _ l2 L2.S i
  by_cases hi : i < xs.length
  · obtain ⟨v, hv⟩ : ∃ v, xs[i]? = some v := ⟨_, List.getElem?_eq_getElem hi⟩
    obtain ⟨go, yl⟩ := k1 v hv
    have ed : xs.drop i = v :: xs.drop (i + 1) := by
      rw [List.drop_eq_getElem_cons hi]
      rw [List.getElem?_eq_getElem hi] at hv
      cases hv
      rfl
    rw [ed] at hq2
    unfold qRun at hq2
    cases eg : g v with
    | none =>
      rw [eg] at hq2
      cases hq2
    | some ms =>
      rw [eg] at hq2
      dsimp only at hq2
      cases ef : q (setAllM ρw is ms) A2 with
      | bad => rw [ef] at hq2; cases hq2
      | err c fs B => rw [ef] at hq2; cases hq2
      | ok us A3 =>
        rw [ef] at hq2
        dsimp only at hq2
        cases er : qRun is g q (xs.drop (i + 1)) ρw A3 with
        | bad => rw [er] at hq2; cases hq2
        | err c fs B => rw [er] at hq2; cases hq2
        | ok ws3 A4 =>
          rw [er] at hq2
          cases hq2
          refine .inr ⟨go, fun H' => ∃ tr3, LcS K ι1 H1 D tr3 H' A3 (acc2 ++ us) ∧ Lx ⟨tr, D :: ι1.pv⟩ H ⟨tr3, D :: ι1.pv⟩ H', fun H' ⟨tr3, L3, l3⟩ => ⟨xs.length - (i + 1), by omega, tr3, A3, acc2 ++ us, ws3, L3, l3, er, by rw [List.append_assoc]; exact ea, rfl, hi⟩, fun x H3 y => ?_⟩
          obtain ⟨e3, S3, r3⟩ := yl x H3 y
          obtain ⟨_, L3⟩ := L2.go e3 S3
          refine ⟨_, A2, v, ms, S3, r3, eg, fun zs hr hlz => ⟨wipe_wipe hsub, ?_⟩⟩
          refine hB (ρ := setAllM ρw is ms) L3 ((E.le (l2.trans e3.lx).le).setAll hr) ef ?_ fun tr' H' L' l' => ⟨tr', L', (l2.trans e3.lx).trans l'⟩
          rw [← ea] at hsz
          simp only [List.length_append] at hsz ⊢
          omega
  · refine .inl ⟨k2 (by omega), ?_⟩
    rw [List.drop_eq_nil_of_le (by omega)] at hq2
    cases hq2
    rw [List.append_nil] at ea
    subst ea
    exact fin _ _ L2 l2
theorem body_elt {ft : FB} {fe : FE} (hf : H1 D = none) : BodyOk K ι1 H1 D (qElt ft fe) fun σ2 H2 Nx => tMB K W0 ft σ2 H2 fun b H3 => if b = true then tM K W0 fe σ2 H3 fun y H4 => ∃ acc, H4 D = some (.lst acc) ∧ acc.length < sizeLine ∧ Nx (upd H4 D (.lst (acc ++ [y]))) else Nx H3 := by
  intro tr H A A' acc vs ρ σ Nx L E hq hsz k
  unfold qElt at hq
  refine ⟨_, A, ρ, L.S, E, ?_⟩
  cases et : ft ρ A with
  | bad => rw [et] at hq; cases hq
  | err c fs B => rw [et] at hq; cases hq
  | ok b A1 =>
    rw [et] at hq
    rintro ι2 H2 u x ⟨S2, rfl⟩
    obtain ⟨e2, L2⟩ := L.go x S2
    cases b with
    | false =>
      cases hq
      rw [List.append_nil] at k
      rw [e2] at x
      exact k _ _ L2 x.lx
    | true =>
      dsimp only at hq
      cases ee : fe ρ A1 with
      | bad => rw [ee] at hq; cases hq
      | err c fs B => rw [ee] at hq; cases hq
      | ok v A2 =>
        rw [ee] at hq
        cases hq
        refine ⟨ι2, A1, ρ, S2, E.ext x, ?_⟩
        rw [ee]
        rintro ι3 H3 y x3 ⟨S3, r3⟩
        rw [e2] at x3
        obtain ⟨e3, L3⟩ := L2.go x3 S3
        rw [e3] at r3 x3
        obtain ⟨xs, h1, h2, L4, l4⟩ := L3.app hf r3
        refine ⟨xs, h1, ?_, k _ _ L4 ?_⟩
        · rw [h2]
          have e := sizeLine_eq
          simp only [List.length_append, List.length_singleton] at hsz
          omega
        · rw [e2] at x
          exact (x.lx.trans x3.lx).trans l4
theorem body_in {ft : FB} {fi : FL} {vs1 is : List Nat} {g : MV → Option (List MV)} {q : FQ} {B : L2.St → Hp → (Hp → Prop) → Prop} (hsub : ∀ i ∈ is, i ∈ vs1) (hB : BodyOk K ι1 H1 D q B) :
    BodyOk K ι1 H1 D (qIn ft fi vs1 is g q) fun σ2 H2 Nx => tMB K W0 ft σ2 H2 fun b H3 => if b = true then tMI K W0 fi σ2 H3 fun J1 H4 => ∃ W1 : Nat → Nat → Hp → Prop, (∃ m, W1 0 m H4) ∧ ∀ j k H, W1 j k H →
      (J1.stop j H ∧ Nx H) ∨ (J1.go j H ∧ ∃ Nx1 : Hp → Prop, (∀ H', Nx1 H' → ∃ k', k' < k ∧ W1 (j + 1) k' H') ∧ ∀ x H', J1.yld j H x H' → tMG K is g x (L2.wipe σ2 vs1) H' fun σ3 H5 => L2.wipe σ3 vs1 = L2.wipe σ2 vs1 ∧ B σ3 H5 Nx1) else Nx H3 := by
  intro tr H A A' acc vs ρ σ Nx L E hq hsz k
  unfold qIn at hq
  refine ⟨_, A, ρ, L.S, E, ?_⟩
  cases et : ft ρ A with
  | bad => rw [et] at hq; cases hq
  | err c fs B => rw [et] at hq; cases hq
  | ok b A1 =>
    rw [et] at hq
    rintro ι2 H2 u x ⟨S2, rfl⟩
    obtain ⟨e2, L2⟩ := L.go x S2
    cases b with
    | false =>
      cases hq
      rw [List.append_nil] at k
      rw [e2] at x
      exact k _ _ L2 x.lx
    | true =>
      dsimp only at hq
      cases ee : fi ρ A1 with
      | bad => rw [ee] at hq; cases hq
      | err c fs B => rw [ee] at hq; cases hq
      | ok zs A2 =>
        rw [ee] at hq
        dsimp only at hq
        refine ⟨ι2, A1, ρ, S2, E.ext x, ?_⟩
        rw [ee]
        rintro ι3 H3 J x3 ⟨S3, ok⟩
        rw [e2] at x3
        obtain ⟨e3, L3⟩ := L2.go x3 S3
        rw [e3] at x3 ok
        rw [e2] at x
        exact lc_loop ok hsub L3 (((E.ext x).ext x3).wipe vs1) hq hsz hB fun tr' H' L' l' => k _ _ L' ((x.lx.trans x3.lx).trans l')
end
section
variable {X : Cx} {W : Wi} {elt tg iter tg1 iter1 : Expr} {ifs ifs1 : List Expr} {scope : Scope} {own : List (Str × Nat)} {vs1 : List Nat} {pos : Pos} {fi fi1 : FL} {is is1 : List Nat} {g g1 : MV → Option (List MV)} {ft ft1 : FB} {fe : FE}
abbrev PTsM (X : Cx) (W : Wi) (ifs : List Expr) (f : FB) : Prop := PTs X ifs (tMB X.K W f)
theorem mts_nil : PTsM X W [] bYes := ⟨fun pins s σ H Q I ⟨ι, A, ρ, S, E, h⟩ => pts_nil.run pins s σ H Q I (RP.ok0 h ⟨S, rfl⟩)⟩
theorem mts_one {c : Expr} {f : FB} (h : PT X c (tMB X.K W f)) : PTsM X W [c] f := pts_one h
/-- the end of a comprehension -/
theorem lc_end {K : PySem.W.Frag} {σ : L2.St} {ι1 : Io} {H1 : Hp} {A : AH} {D : Addr} {tr' : List Addr} {H' : Hp} {A' : AH} {vs : List MV} {Q : VK} (S1 : Sim K ι1 A H1) (hD : H1 D = none) (L : LcS K ι1 H1 D tr' H' A' vs) (h : RP K W σ (rL K) ι1 H1 (.ok vs A') Q) : Q (.ref D) H' :=
  h ⟨tr', ι1.pv⟩ H' _ L.e ⟨D, rfl, hD, L.nt, (S1.outA hD).2, L.ex, L.S⟩
theorem lc_start {K : PySem.W.Frag} {ι1 : Io} {H1 : Hp} {A : AH} {D : Addr} (S1 : Sim K ι1 A H1) (hD : H1 D = none) : LcS K ι1 H1 D ι1.tr (upd H1 D (.lst [])) A [] ∧ Lx ι1 H1 ⟨ι1.tr, D :: ι1.pv⟩ (upd H1 D (.lst [])) :=
  ⟨⟨Ext.new1 hD, Sim.hide S1 hD, S1.out hD, [], upd_same, .nil⟩, ⟨(Le.hide hD).trans ⟨List.prefix_refl _, fun p u n e => ⟨n, by
    rw [upd_ne (ne_of_none e hD)]
    exact e⟩⟩, fun p o u e => by
    rw [upd_ne (ne_of_none e hD)]
    exact e⟩⟩
theorem lc_read {K : PySem.W.Frag} {q : FQ} {B : Addr → L2.St → Hp → (Hp → Prop) → Prop} (hsub : ∀ i ∈ is, i ∈ own.map (·.2)) (hB : ∀ ι1 H1 D, H1 D = none → BodyOk K ι1 H1 D q (B D)) {σ : L2.St} {H : Hp} {Q : VK} (h : tML K W (aLc fi (own.map (·.2)) is g q) σ H Q) :
    tMI K W fi σ H fun J H1 => ∀ D, H1 D = none → ∃ W : Nat → Nat → Hp → Prop, (∃ m, W 0 m (upd H1 D (.lst []))) ∧ ∀ i m H, W i m H →
      (J.stop i H ∧ Q (.ref D) H) ∨ (J.go i H ∧ ∃ Nx : Hp → Prop, (∀ H', Nx H' → ∃ m', m' < m ∧ W (i + 1) m' H') ∧ ∀ x H', J.yld i H x H' → tMG K is g x (L2.wipe σ (own.map (·.2))) H' fun σ2 H2 => L2.wipe σ2 (own.map (·.2)) = L2.wipe σ (own.map (·.2)) ∧ B D σ2 H2 Nx) := by
  obtain ⟨ι, A, ρ, S, E, h⟩ := h
  refine RP_bind S E h fun ι1 A1 xs J H1 e1 ⟨S1, ok⟩ h1 => ?_
  intro D hD
  cases er : qRun is g q xs (wipeM ρ (own.map (·.2))) A1 with
  | bad => rw [er] at h1; exact h1.elim
  | err c fs B => rw [er] at h1; exact h1.elim
  | ok vs A' =>
    rw [er] at h1
    by_cases hz : szL vs = true
    · dsimp only at h1
      rw [if_pos hz] at h1
      obtain ⟨L, l⟩ := lc_start S1 hD
      exact lc_loop (ok.lx l) hsub L (((E.ext e1).le l.le).w0.wipe _) er (of_decide_eq_true hz) (hB ι1 H1 D hD) fun tr' H' L' _ => lc_end S1 hD L' h1
    · dsimp only at h1
      rw [if_neg hz] at h1
      exact h1.elim
/-- [e for t in i if c] -/
theorem ml_lc (hc : X.calm = true) (hN : X.N.Nodup) (hi : PI X tg iter (tMI X.K W fi)) (ok : BlkOk X.N X.env.scope scope own) (hsub : ∀ i ∈ is, i ∈ own.map (·.2))
    (hg : ∀ (s : Shared) (H : Hp) (C : Addr) (cl : List (Str × Addr)) (fp : List Addr), TgM (X.blk s H scope (compEnvC scope cl C X.env) fp) tg is g) (ht : ∀ (s : Shared) (H : Hp) (C : Addr) (cl : List (Str × Addr)) (fp : List Addr), PTsM (X.blk s H scope (compEnvC scope cl C X.env) fp) W0 ifs ft)
    (he : ∀ (s : Shared) (H : Hp) (C : Addr) (cl : List (Str × Addr)) (fp : List Addr), PE (X.blk s H scope (compEnvC scope cl C X.env) fp) elt (tM X.K W0 fe)) (hs : ∀ x, foldedSetIterable iter X.env x = pure x := by intro _; rfl) :
    PE X (.ListComp elt [⟨tg, iter, ifs, 0⟩] scope pos) (tML X.K W (aLc fi (own.map (·.2)) is g (qElt ft fe))) :=
  (pe_lc hc hN hi ok hg ht he hs).imp fun σ H Q h => lc_read hsub (fun ι1 H1 D hD => body_elt hD) h
/-- x = [..] -/
theorem ms_setLc {i : Nat} {y : Str} {py : Pos} {spos : Pos} (hc : X.calm = true) (hN : X.N.Nodup) (hy : X.N[i]? = some y) (hyl : X.env.scope.names.lookup y = some .local)
    (hsw : swapsWith (.ListComp elt [⟨tg, iter, ifs, 0⟩] scope pos) (some (.Name y py)) spos.line X.env = pure true) (hi : PI X tg iter (tMI X.K W fi)) (ok : BlkOk X.N X.env.scope scope own) (hsub : ∀ i ∈ is, i ∈ own.map (·.2))
    (hg : ∀ (s : Shared) (H : Hp) (C : Addr) (cl : List (Str × Addr)) (fp : List Addr), TgM (X.blk s H scope (compEnvC scope cl C X.env) fp) tg is g) (ht : ∀ (s : Shared) (H : Hp) (C : Addr) (cl : List (Str × Addr)) (fp : List Addr), PTsM (X.blk s H scope (compEnvC scope cl C X.env) fp) W0 ifs ft)
    (he : ∀ (s : Shared) (H : Hp) (C : Addr) (cl : List (Str × Addr)) (fp : List Addr), PE (X.blk s H scope (compEnvC scope cl C X.env) fp) elt (tM X.K W0 fe)) (hs : ∀ x, foldedSetIterable iter X.env x = pure x := by intro _; rfl) :
    PS X (.Assign [.Name y py] (.ListComp elt [⟨tg, iter, ifs, 0⟩] scope pos) spos) (tMS X.K W (sSet i (eFrz (aLc fi (own.map (·.2)) is g (qElt ft fe))))) :=
  (ps_setLc hc hN hy hyl hsw hi ok hg ht he hs).imp fun D σ H ⟨ι, A, ρ, S, E, h⟩ => lc_read (W := W) hsub (fun ι1 H1 D hD => body_elt hD) (Q := fun x H1 => gName i x σ H1 D.nx) (by
    have h : RPS X.K W D ι H ((aLc fi (own.map (·.2)) is g (qElt ft fe) ρ A).fs ρ fun vs A => .nx (ρ.set i (some (.lst vs))) A) := by
      unfold sSet eFrz at h
      cases q : aLc fi (own.map (·.2)) is g (qElt ft fe) ρ A with
      | ok v A' => rw [q] at h; exact h
      | err c fs A' => rw [q] at h; exact h
      | bad => rw [q] at h; exact h
    exact RPS_bind (R := rL X.K) S E h fun ι1 A1 xs u H1 e1 r h1 => by
      obtain ⟨a, rfl, f⟩ := r
      exact h1 ι1 H1 _ (Ext.refl _ _) f.sim0 ((E.ext e1).set i f.frz))
theorem ms_setLcR {i : Nat} {y : Str} {py : Pos} {spos : Pos} (hc : X.calm = true) (hN : X.N.Nodup) (hy : X.N[i]? = some y) (hyl : X.env.scope.names.lookup y = some .local)
    (hsw : swapsWith (.ListComp elt [⟨tg, iter, ifs, 0⟩] scope pos) (some (.Name y py)) spos.line X.env = pure true) (hi : PI X tg iter (tMI X.K W fi)) (ok : BlkOk X.N X.env.scope scope own) (hsub : ∀ i ∈ is, i ∈ own.map (·.2))
    (hg : ∀ (s : Shared) (H : Hp) (C : Addr) (cl : List (Str × Addr)) (fp : List Addr), TgM (X.blk s H scope (compEnvC scope cl C X.env) fp) tg is g) (ht : ∀ (s : Shared) (H : Hp) (C : Addr) (cl : List (Str × Addr)) (fp : List Addr), PTsM (X.blk s H scope (compEnvC scope cl C X.env) fp) W0 ifs ft)
    (he : ∀ (s : Shared) (H : Hp) (C : Addr) (cl : List (Str × Addr)) (fp : List Addr), PE (X.blk s H scope (compEnvC scope cl C X.env) fp) elt (tM X.K W0 fe)) (hs : ∀ x, foldedSetIterable iter X.env x = pure x := by intro _; rfl) :
    PS X (.Assign [.Name y py] (.ListComp elt [⟨tg, iter, ifs, 0⟩] scope pos) spos) (tMS X.K W (sSet i (eRef (aLc fi (own.map (·.2)) is g (qElt ft fe))))) :=
  (ps_setLc hc hN hy hyl hsw hi ok hg ht he hs).imp fun D σ H ⟨ι, A, ρ, S, E, h⟩ => lc_read (W := W) hsub (fun ι1 H1 D hD => body_elt hD) (Q := fun x H1 => gName i x σ H1 D.nx) (by
    refine ⟨ι, A, ρ, S, E, ?_⟩
    unfold sSet eRef at h
    cases q : aLc fi (own.map (·.2)) is g (qElt ft fe) ρ A with
    | ok vs A' =>
      rw [q] at h
      rintro ι1 H1 u e1 ⟨a, rfl, f⟩
      obtain ⟨ys, hy, ry⟩ := f.ex
      refine h ⟨ι1.tr ++ [a], ι1.pv⟩ H1 _ (e1.adopt f.free) (f.sim.adopt f.nt (.lst hy (ry.le Le.adopt))) ((E.ext (e1.adopt f.free)).set i (.ref ?_))
      have sl : ι1.tr.length = A'.length := f.sim.len
      show (ι1.tr ++ [a])[A'.length]? = some a
      rw [← sl, List.getElem?_append_right (Nat.le_refl _), Nat.sub_self]
      rfl
    | err c fs A' =>
      rw [q] at h
      exact fun ι' H' d x s r => h ι' H' σ d x s (E.ext x) r
    | bad => rw [q] at h; exact h)
/-- [e for t in i if c for t1 in i1 if c1] -/
theorem ml_lc2 (hc : X.calm = true) (hN : X.N.Nodup) (hi : PI X tg iter (tMI X.K W fi)) (ok : BlkOk X.N X.env.scope scope own) (hv : ∀ i ∈ vs1, i ∈ own.map (·.2)) (hsub : ∀ i ∈ is, i ∈ own.map (·.2)) (hsub1 : ∀ i ∈ is1, i ∈ vs1)
    (hg : ∀ (s : Shared) (H : Hp) (C : Addr) (cl : List (Str × Addr)) (fp : List Addr), TgM (X.blk s H scope (compEnvC scope cl C X.env) fp) tg is g) (ht : ∀ (s : Shared) (H : Hp) (C : Addr) (cl : List (Str × Addr)) (fp : List Addr), PTsM (X.blk s H scope (compEnvC scope cl C X.env) fp) W0 ifs ft)
    (hi1 : ∀ (s : Shared) (H : Hp) (C : Addr) (cl : List (Str × Addr)) (fp : List Addr), PI (X.blk s H scope (compEnvC scope cl C X.env) fp) tg1 iter1 (tMI X.K W0 fi1))
    (hg1 : ∀ (s : Shared) (H : Hp) (C : Addr) (cl : List (Str × Addr)) (fp : List Addr), TgM (X.blk s H scope (compEnvC scope cl C X.env) fp) tg1 is1 g1) (ht1 : ∀ (s : Shared) (H : Hp) (C : Addr) (cl : List (Str × Addr)) (fp : List Addr), PTsM (X.blk s H scope (compEnvC scope cl C X.env) fp) W0 ifs1 ft1)
    (he : ∀ (s : Shared) (H : Hp) (C : Addr) (cl : List (Str × Addr)) (fp : List Addr), PE (X.blk s H scope (compEnvC scope cl C X.env) fp) elt (tM X.K W0 fe)) (hs : ∀ x, foldedSetIterable iter X.env x = pure x := by intro _; rfl) (hs1 : ∀ env x, foldedSetIterable iter1 env x = pure x := by intro _ _; rfl) :
    PE X (.ListComp elt [⟨tg, iter, ifs, 0⟩, ⟨tg1, iter1, ifs1, 0⟩] scope pos) (tML X.K W (aLc fi (own.map (·.2)) is g (qIn ft fi1 vs1 is1 g1 (qElt ft1 fe)))) :=
  (pe_lc2 hc hN hi ok hv hg ht hi1 hg1 ht1 he hs hs1).imp fun σ H Q h => lc_read hsub (fun ι1 H1 D hD => body_in hsub1 (body_elt hD)) h
end
end Mv
/-! Mv4: locks, walks over dicts, texts, pairs; defs and calls -/
namespace Mv
open PySem PySem.Spec PyProof.Rows L2 Fk
/-! ### locks -/
def lkO : MO → Option MO
  | .dct kvs => some (.lkd kvs)
  | .lst xs => some (.lkl xs)
  | _ => none
def isLk : MO → Bool
  | .lkd _ => true
  | .lkl _ => true
  | _ => false
def unlk (n : Nat) (m : MO) : Fs → Fs
  | .nx ρ A => .nx ρ (A.set n m)
  | .rt v A => .rt v (A.set n m)
  | .bk ρ A => .bk ρ (A.set n m)
  | .ct ρ A => .ct ρ (A.set n m)
  | .err c fs ρ A => .err c fs ρ (A.set n m)
  | .bad => .bad
def sLock (fd : FE) (s : FS) : FS := fun ρ A => match fd ρ A with
  | .ok (.ref n) _ => (match A[n]? with
    | some m => (match lkO m with
      | some m' => unlk n m (s ρ (A.set n m'))
      | none => if isLk m then s ρ A else .bad)
    | none => .bad)
  | _ => .bad
def aLock {α : Type} (fd : FE) (s : ME → AH → Rs α) : ME → AH → Rs α := fun ρ A => match fd ρ A with
  | .ok (.ref n) _ => (match A[n]? with
    | some m => (match lkO m with
      | some m' => (match s ρ (A.set n m') with
        | .ok v A' => .ok v (A'.set n m)
        | _ => .bad)
      | none => if isLk m then s ρ A else .bad)
    | none => .bad)
  | _ => .bad
/-- the thing m stands as u -/
def RO (K : PySem.W.Frag) (ι : Io) (H : Hp) : MO → HO → Prop
  | .dct kvs, .dK ps => RKs K ι H kvs ps
  | .lst vs, .lst xs => RVs K ι H vs xs
  | _, _ => False
section
variable {K : PySem.W.Frag} {ι ι' : Io} {H H' : Hp} {A A' : AH} {m m' : MO} {u : HO} {d : Addr}
theorem RO.le (l : Le ι H ι' H') (h : RO K ι H m u) : RO K ι' H' m u := by
  cases m with
  | dct kvs => cases u with
    | dK ps => exact RKs.le l h
    | _ => exact h.elim
  | lst kvs => cases u with
    | lst ps => exact RVs.le l h
    | _ => exact h.elim
  | _ => exact h.elim
theorem RO.ok (e : H d = some u) (h : RO K ι H m u) : OkO K ι H m d := by
  cases m with
  | dct kvs => cases u with
    | dK ps => exact .dct e h
    | _ => exact h.elim
  | lst kvs => cases u with
    | lst ps => exact .lst e h
    | _ => exact h.elim
  | _ => exact h.elim
theorem RO.lk {od : Obj} (q : lkO m = some m') (e : H d = some (.frz od u)) (h : RO K ι H m u) : OkO K ι H m' d := by
  cases m with
  | dct kvs => cases u with
    | dK ps => cases q; exact .lkd e h
    | _ => exact h.elim
  | lst kvs => cases u with
    | lst ps => cases q; exact .lkl e h
    | _ => exact h.elim
  | _ => exact h.elim
theorem RO.mu (h : RO K ι H m u) : Mut (some u) ∧ ∀ o w, u ≠ .frz o w := by
  cases m with
  | dct kvs => cases u with
    | dK ps => exact ⟨trivial, fun o w z => nomatch z⟩
    | _ => exact h.elim
  | lst kvs => cases u with
    | lst ps => exact ⟨trivial, fun o w z => nomatch z⟩
    | _ => exact h.elim
  | _ => exact h.elim
/-- the thing at n is locked -/
theorem Sim.lock (S : Sim K ι A H) {n : Nat} (h : A[n]? = some m) (q : lkO m = some m') : ∃ d u, ι.tr[n]? = some d ∧ H d = some u ∧ RO K ι H m u ∧ ∀ od, Sim K ι (A.set n m') (upd H d (.frz od u)) ∧ Ext ι H ι (upd H d (.frz od u)) := by
  obtain ⟨d, e, ok⟩ := S.at h
  have fin : ∀ u, H d = some u → RO K ι H m u → ∃ d u, ι.tr[n]? = some d ∧ H d = some u ∧ RO K ι H m u ∧ ∀ od, Sim K ι (A.set n m') (upd H d (.frz od u)) ∧ Ext ι H ι (upd H d (.frz od u)) := fun u hd r => by
    refine ⟨d, u, e, hd, r, fun od => ⟨S.put e ((r.le (Le.mut (List.mem_of_getElem? e))).lk q upd_same), Ext.mut (List.mem_of_getElem? e) fun o w z => ?_⟩⟩
    rw [hd] at z
    cases z
    exact r.mu.2 _ _ rfl
  cases ok with
  | dct hd r => exact fin _ hd r
  | lst hd r => exact fin _ hd r
  | _ => cases q
/-- .. and unlocked -/
theorem Sim.unlock {n : Nat} {od : Obj} (e : ι.tr[n]? = some d) (hd : H d = some u) (r : RO K ι H m u) (x : Ext ι (upd H d (.frz od u)) ι' H') (S' : Sim K ι' A' H') :
    H' d = some (.frz od u) ∧ Sim K ι' (A'.set n m) (upd H' d u) ∧ Ext ι H ι' (upd H' d u) := by
  have hm : d ∈ ι.tr := List.mem_of_getElem? e
  have e' := x.get e
  have hf : H' d = some (.frz od u) := x.frz d od _ upd_same
  refine ⟨hf, S'.put e' ((((r.le (Le.mut hm)).le x.le).le (Le.mut (List.mem_of_getElem? e'))).ok upd_same), ⟨x.pre, x.pv, fun p hp n => ?_, fun p o n q => ?_, fun p o w q => ?_⟩⟩
  · have := x.new p hp n
    rw [upd_ne (fun z => n (by rw [z]; exact hm))] at this
    exact this
  · have z : p ≠ d := fun z => n (by rw [z]; exact hm)
    rw [upd_ne z]
    exact x.keep p o n (by rw [upd_ne z]; exact q)
  · have z : p ≠ d := fun z => by
      rw [z, hd] at q
      cases q
      exact r.mu.2 _ _ rfl
    rw [upd_ne z]
    exact x.frz p o w (by rw [upd_ne z]; exact q)
end
section
variable {X : Cx} {W : Wi}
/-- the wish of an error while d is locked -/
def wLk (W : Wi) (d : Addr) (od : Obj) (u : HO) : Wi := ⟨fun cls x σ H => H d = some (.frz od u) ∧ W.w cls x σ (upd H d u), W.z, W.zx, W.sl⟩
theorem takes_lk {d : Addr} {od : Obj} {u : HO} (tk : Takes X W.w) (hn : ∀ o' u', X.H_0 d ≠ some (.frz o' u')) : Takes X (wLk W d od u).w := fun v s' ⟨a, B, sI, pins, σ, H, cls, x, e, I, nb, up, sky, na, os, ag, hf, w⟩ => by
  refine tk v s' ⟨a, B, sI, pins, σ, upd H d u, cls, x, e, I.unlock hf hn, nb, up, sky, ?_, os, ag, w⟩
  rw [upd_ne (fun z => by rw [z, hf] at na; cases na)]
  exact na
theorem REnv.lk {K : PySem.W.Frag} {ι : Io} {H : Hp} {ρ : ME} {σ : L2.St} {d : Addr} {od : Obj} {u : HO} (r : REnv W K ι H ρ σ) : REnv (wLk W d od u) K ι H ρ σ := ⟨r.len, r.get, r.z, r.sl⟩
theorem REnv.unlk {K : PySem.W.Frag} {ι : Io} {H : Hp} {ρ : ME} {σ : L2.St} {d : Addr} {od : Obj} {u : HO} (r : REnv (wLk W d od u) K ι H ρ σ) : REnv W K ι H ρ σ := ⟨r.len, r.get, r.z, r.sl⟩
theorem ms_lock {st : Stmt} {fd : FE} {f : FS} (tk : Takes X W.w) (h : ∀ W' : Wi, Takes X W'.w → PS X st (tMS X.K W' f)) : PS X st (tMS X.K W (sLock fd f)) := by
  refine ⟨fun pins s σ H D I hw => ?_⟩
  obtain ⟨ι, A, ρ, S, E, hw⟩ := hw
  unfold sLock at hw
  split at hw
  · rename_i n _ _
    split at hw
    · rename_i m hn
      split at hw
      · rename_i m' hk
        obtain ⟨d, u, e, hd, r, k⟩ := S.lock hn hk
        have mu := r.mu.1
        obtain ⟨od, I1⟩ := I.lock hd mu
        obtain ⟨S1, x1⟩ := k od
        have nf := I.nofrz hd mu
        refine thn (wpAny_mono ((h (wLk W d od u) (takes_lk tk nf)).run pins s σ _ ⟨fun σ' H' => H' d = some (.frz od u) ∧ D.nx σ' (upd H' d u), fun v H' => H' d = some (.frz od u) ∧ D.rt v (upd H' d u), fun σ' H' => H' d = some (.frz od u) ∧ D.bk σ' (upd H' d u), fun σ' H' => H' d = some (.frz od u) ∧ D.ct σ' (upd H' d u)⟩ I1 ⟨ι, _, ρ, S1, (E.ext x1).lk, ?_⟩) (fun _ _ x => x) fun _ _ x => x) fun f s1 q => ?_
        · cases ef : f ρ (A.set n m') with
          | nx ρ' A' =>
            rw [ef] at hw
            intro ι' H' σ' x s q
            obtain ⟨hf, s2, x2⟩ := Sim.unlock e hd r x s
            exact ⟨hf, hw ι' _ σ' x2 s2 (q.unlk.le (Le.mut (List.mem_of_getElem? (x.get e))))⟩
          | bk ρ' A' =>
            rw [ef] at hw
            intro ι' H' σ' x s q
            obtain ⟨hf, s2, x2⟩ := Sim.unlock e hd r x s
            exact ⟨hf, hw ι' _ σ' x2 s2 (q.unlk.le (Le.mut (List.mem_of_getElem? (x.get e))))⟩
          | ct ρ' A' =>
            rw [ef] at hw
            intro ι' H' σ' x s q
            obtain ⟨hf, s2, x2⟩ := Sim.unlock e hd r x s
            exact ⟨hf, hw ι' _ σ' x2 s2 (q.unlk.le (Le.mut (List.mem_of_getElem? (x.get e))))⟩
          | rt v A' =>
            rw [ef] at hw
            intro ι' H' u x s q
            obtain ⟨hf, s2, x2⟩ := Sim.unlock e hd r x s
            exact ⟨hf, hw ι' _ u x2 s2 (q.le (Le.mut (List.mem_of_getElem? (x.get e))))⟩
          | err c fs ρ' A' =>
            rw [ef] at hw
            intro ι' H' σ' dx x s q er
            obtain ⟨hf, s2, x2⟩ := Sim.unlock e hd r x s
            have l : Le ι' H' ι' (upd H' d u) := Le.mut (List.mem_of_getElem? (x.get e))
            obtain ⟨⟨qs, h1, h2⟩, h3⟩ := er
            exact ⟨hf, hw ι' _ σ' dx x2 s2 (q.unlk.le l) ⟨⟨qs, (l.keep dx _ h3 h1).2, h2.le l⟩, h3⟩⟩
          | bad =>
            rw [ef] at hw
            exact hw
        · cases f with
          | next => obtain ⟨σ', H', I2, e, q⟩ := q; exact ⟨σ', _, I2.unlock e nf, q⟩
          | brk => obtain ⟨σ', H', I2, e, q⟩ := q; exact ⟨σ', _, I2.unlock e nf, q⟩
          | cont => obtain ⟨σ', H', I2, e, q⟩ := q; exact ⟨σ', _, I2.unlock e nf, q⟩
          | ret v => obtain ⟨x, σ', H', I2, r, e, q⟩ := q; exact ⟨x, σ', _, I2.unlock e nf, r, q⟩
      · split at hw
        · exact (h W tk).run pins s σ H D I ⟨ι, A, ρ, S, E, hw⟩
        · exact hw.elim
    · exact hw.elim
  · exact hw.elim
end
section
variable {X : Cx} {W : Wi} {e : Expr} {fd f : FE} {g : FL}
theorem Le.mutP {ι : Io} {pv : List Addr} {H : Hp} {p : Addr} {o : HO} (h : p ∈ ι.tr) : Le ⟨ι.tr, pv⟩ H ⟨ι.tr, pv⟩ (upd H p o) := Le.mut (ι := ⟨ι.tr, pv⟩) h
theorem m_lockG {α : Type} {R : Rel α V} {f : ME → AH → Rs α} (h : PE X e (tG X.K W R f)) (hR : ∀ {ι H ι' H' A' v u n d w m od}, ι.tr[n]? = some d → H d = some w → RO X.K ι H m w → Ext ι (upd H d (.frz od w)) ι' H' → R ι (upd H d (.frz od w)) ι' H' A' v u → H' d = some (.frz od w) ∧ Ext ι H ι' (upd H' d w) ∧ R ι H ι' (upd H' d w) (A'.set n m) v u) : PE X e (tG X.K W R (aLock fd f)) := by
  refine ⟨fun pins s σ H Q I hw => ?_⟩
  obtain ⟨ι, A, ρ, S, E, hw⟩ := hw
  unfold aLock at hw
  split at hw
  · rename_i n _ _
    split at hw
    · rename_i m hn
      split at hw
      · rename_i m' hk
        obtain ⟨d, w, ed, hd, r, k⟩ := S.lock hn hk
        have mu := r.mu.1
        obtain ⟨od, I1⟩ := I.lock hd mu
        obtain ⟨S1, x1⟩ := k od
        have nf := I.nofrz hd mu
        refine thn (h.run pins s σ _ (fun v H' => H' d = some (.frz od w) ∧ Q v (upd H' d w)) I1 ⟨ι, _, ρ, S1, E.ext x1, ?_⟩) fun v s1 ⟨x, H1, I2, rr, e2, q⟩ => ⟨x, _, I2.unlock e2 nf, rr, q⟩
        cases ef : f ρ (A.set n m') with
        | ok v A' =>
          rw [ef] at hw
          intro ι' H' u x q
          obtain ⟨hf, x2, r2⟩ := hR ed hd r x q
          exact ⟨hf, hw ι' _ u x2 r2⟩
        | err c fs A' =>
          rw [ef] at hw
          exact hw.elim
        | bad =>
          rw [ef] at hw
          exact hw.elim
      · split at hw
        · exact h.run pins s σ H Q I ⟨ι, A, ρ, S, E, hw⟩
        · exact hw.elim
    · exact hw.elim
  · exact hw.elim
theorem m_lock (h : PE X e (tM X.K W f)) : PE X e (tM X.K W (aLock fd f)) := m_lockG h fun {ι H ι' H' A' v u n d w m od} ed hd r x q => by
  obtain ⟨hf, s2, x2⟩ := Sim.unlock ed hd r x q.1
  exact ⟨hf, x2, s2, q.2.le (Le.mut (List.mem_of_getElem? (x.get ed)))⟩
theorem ml_lock (h : PE X e (tML X.K W g)) : PE X e (tML X.K W (aLock fd g)) := m_lockG h fun {ι H ι' H' A' v u n d w m od} ed hd r x q => by
  obtain ⟨a, rfl, fl⟩ := q
  obtain ⟨hf, s2, x2⟩ := Sim.unlock ed hd r x fl.sim0
  have hm := List.mem_of_getElem? (x.get ed)
  have na : a ≠ d := fun z => fl.nt (by rw [z]; exact hm)
  obtain ⟨xs, h1, h2⟩ := fl.ex
  have fr : H a = none := by
    have := fl.free
    rw [upd_ne na] at this
    exact this
  refine ⟨hf, x2, a, rfl, fr, fl.nt, fl.np, ⟨xs, by rw [upd_ne na]; exact h1, h2.le (Le.mutP hm)⟩, ?_⟩
  have e' : (⟨ι'.tr, a :: ι'.pv⟩ : Io).tr[n]? = some d := x.get ed
  have hd' : d ∈ ι.tr := List.mem_of_getElem? ed
  have L : Le ι H ⟨ι'.tr, a :: ι'.pv⟩ (upd H' d w) := by
    refine ⟨x.pre, fun p o no q => ?_⟩
    have z : p ≠ d := fun z => no.1 (by rw [z]; exact hd')
    have q' : upd H d (.frz od w) p = some o := by rw [upd_ne z]; exact q
    refine ⟨⟨x.out no.1 q', fun hp => ?_⟩, by rw [upd_ne z]; exact x.keep p o no.1 q'⟩
    rcases List.mem_cons.mp hp with e | e
    · rw [e, fr] at q
      cases q
    · rw [x.pv] at e
      exact no.2 e
  exact fl.sim.put e' ((r.le L).ok upd_same)
end
/-- a locked list -/
def lklOf (A : AH) : MV → Option (List MV)
  | .ref n => (match A[n]? with
    | some (.lkl xs) => some xs
    | _ => none)
  | _ => none
def iLkl (f : FE) : FL := fun ρ A => (f ρ A).bind fun v A => match lklOf A v with
  | some xs => .ok xs A
  | none => .bad
theorem Sim.lkl {K : PySem.W.Frag} {ι : Io} {H : Hp} {A : AH} {v : MV} {u : V} {vs : List MV} (S : Sim K ι A H) (r : RV K ι H v u) (h : lklOf A v = some vs) : ∃ d o xs, u = .ref d ∧ H d = some (.frz o (.lst xs)) ∧ RVs K ι H vs xs := by
  unfold lklOf at h
  split at h
  · split at h
    · rename_i e
      cases h
      obtain ⟨a, rfl, _, ok⟩ := S.ref r e
      cases ok with
      | lkl h1 h2 => exact ⟨a, _, _, rfl, h1, h2⟩
    · cases h
  · cases h
theorem mi_lkl {X : Cx} {W : Wi} {tg e : Expr} {f : FE} (he : PE X e (tM X.K W f)) : PI X tg e (tMI X.K W (iLkl f)) := (pi_list he).imp fun σ H R ⟨ι, A, ρ, S, E, h⟩ => RP_bind S E h fun ι1 A1 v u H1 e1 ⟨S1, r1⟩ h1 => by
  cases q : lklOf A1 v with
  | none => rw [q] at h1; exact h1.elim
  | some vs =>
    rw [q] at h1
    obtain ⟨d, o, xs, rfl, hd, rs⟩ := S1.lkl r1 q
    have sq : ∀ {ι2 : Io} {H2 : Hp}, Lx ι1 H1 ι2 H2 → SqL X.K H2 d xs := fun l => .inl (.inr ⟨o, l.frz _ _ _ hd⟩)
    refine ⟨d, rfl, ⟨xs, sq (Lx.refl _ _)⟩, h1.ok0 ⟨S1, fun ι2 A2 H2 l S2 i => ⟨fun v hv => ?_, fun hl => ⟨xs, sq l, by rw [← rs.length]; exact hl⟩⟩⟩⟩
    obtain ⟨x, hx, rx⟩ := rs.get hv
    refine ⟨⟨xs, x, sq l, hx⟩, fun y H3 ⟨eq, hy⟩ => ?_⟩
    subst eq
    have := hy xs (sq l)
    rw [hx] at this
    cases this
    exact ⟨Ext.refl _ _, S2, rx.le l.le⟩
/-! ### walks over dicts that are locked, texts, pairs -/
def keyM : Key → MV
  | .inl i => .int i
  | .inr x => .str x
def lkdOf (A : AH) : MV → Option (List (Key × MV))
  | .ref n => (match A[n]? with
    | some (.lkd kvs) => some kvs
    | _ => none)
  | _ => none
def iKeys (f : FE) : FL := fun ρ A => (f ρ A).bind fun v A => match lkdOf A v with
  | some kvs => .ok (kvs.map fun p => keyM p.1) A
  | none => .bad
def iVals (f : FE) : FL := fun ρ A => (f ρ A).bind fun v A => match lkdOf A v with
  | some kvs => .ok (kvs.map fun p => p.2) A
  | none => .bad
def iItems (f : FE) : FL := fun ρ A => (f ρ A).bind fun v A => match lkdOf A v with
  | some kvs => .ok (kvs.map fun p => .tup [keyM p.1, p.2]) A
  | none => .bad
theorem rv_key {K : PySem.W.Frag} {ι : Io} {H : Hp} (k : Key) : RV K ι H (keyM k) (kV k) := by
  cases k with
  | inl i => exact .int i
  | inr x => exact .str x
theorem RKs.get {K : PySem.W.Frag} {ι : Io} {H : Hp} : ∀ {v : List (Key × MV)} {x : List (Key × V)} {i : Nat} {k : Key} {a : MV}, RKs K ι H v x → v[i]? = some (k, a) → ∃ b, x[i]? = some (k, b) ∧ RV K ι H a b
  | _, _, _, _, _, .nil, e => by simp at e
  | _, _, 0, _, _, .cons r _, e => by simp at e; obtain ⟨rfl, rfl⟩ := e; exact ⟨_, rfl, r⟩
  | _, _, i + 1, k, a, .cons _ t, e => by
    obtain ⟨b, h1, h2⟩ := RKs.get (i := i) (k := k) (a := a) t (by simpa using e)
    exact ⟨b, by simpa using h1, h2⟩
theorem Sim.lkd {K : PySem.W.Frag} {ι : Io} {H : Hp} {A : AH} {v : MV} {u : V} {kvs : List (Key × MV)} (S : Sim K ι A H) (r : RV K ι H v u) (h : lkdOf A v = some kvs) : ∃ d o ps, u = .ref d ∧ H d = some (.frz o (.dK ps)) ∧ RKs K ι H kvs ps := by
  unfold lkdOf at h
  split at h
  · split at h
    · rename_i e
      cases h
      obtain ⟨a, rfl, _, ok⟩ := S.ref r e
      cases ok with
      | lkd h1 h2 => exact ⟨a, _, _, rfl, h1, h2⟩
    · cases h
  · cases h
section
variable {X : Cx} {W : Wi} {tg e : Expr} {f : FE} {apos cpos : Pos}
theorem mi_keys (he : PE X e (tM X.K W f)) : PI X tg e (tMI X.K W (Mv.iKeys f)) := (pi_keys he).imp fun σ H R ⟨ι, A, ρ, S, E, h⟩ => RP_bind S E h fun ι1 A1 v u H1 e1 ⟨S1, r1⟩ h1 => by
  cases q : lkdOf A1 v with
  | none => rw [q] at h1; exact h1.elim
  | some kvs =>
    rw [q] at h1
    obtain ⟨d, o, ps, rfl, hd, rk⟩ := S1.lkd r1 q
    refine ⟨d, o, rfl, .inl ⟨ps, hd, h1.ok0 ⟨S1, fun ι2 A2 H2 l S2 i => ⟨fun v hv => ?_, fun hl => ⟨l.frz _ _ _ hd, by rw [List.length_map] at hl; rw [← rk.length]; exact hl⟩⟩⟩⟩⟩
    rw [List.getElem?_map] at hv
    cases ek : kvs[i]? with
    | none => rw [ek] at hv; cases hv
    | some p =>
      obtain ⟨k, m⟩ := p
      rw [ek] at hv
      cases hv
      obtain ⟨b, hb, rb⟩ := rk.get ek
      refine ⟨⟨l.frz _ _ _ hd, (List.getElem?_eq_some_iff.mp hb).1⟩, fun x H3 ⟨e3, k', v', hk, ex⟩ => ?_⟩
      subst e3 ex
      rw [hb] at hk
      cases hk
      exact ⟨Ext.refl _ _, S2, rv_key _⟩
theorem mi_values (he : PE X e (tM X.K W f)) (hbase : attributeBase e "values" X.env (eval e X.env) = eval e X.env := by rfl) (hline : (apos.endLine == cpos.line) = true := by rfl) : PI X tg (.Call (.Attribute e "values" apos) [] [] cpos) (tMI X.K W (Mv.iVals f)) := (pi_values he hbase hline).imp fun σ H R ⟨ι, A, ρ, S, E, h⟩ => RP_bind S E h fun ι1 A1 v u H1 e1 ⟨S1, r1⟩ h1 => by
  cases q : lkdOf A1 v with
  | none => rw [q] at h1; exact h1.elim
  | some kvs =>
    rw [q] at h1
    obtain ⟨d, o, ps, rfl, hd, rk⟩ := S1.lkd r1 q
    refine ⟨d, o, ps, rfl, hd, h1.ok0 ⟨S1, fun ι2 A2 H2 l S2 i => ⟨fun v hv => ?_, fun hl => ⟨l.frz _ _ _ hd, by rw [List.length_map] at hl; rw [← rk.length]; exact hl⟩⟩⟩⟩
    rw [List.getElem?_map] at hv
    cases ek : kvs[i]? with
    | none => rw [ek] at hv; cases hv
    | some p =>
      obtain ⟨k, m⟩ := p
      rw [ek] at hv
      cases hv
      obtain ⟨b, hb, rb⟩ := rk.get ek
      refine ⟨⟨l.frz _ _ _ hd, (List.getElem?_eq_some_iff.mp hb).1⟩, fun x H3 ⟨e3, k', hk⟩ => ?_⟩
      subst e3
      rw [hb] at hk
      cases hk
      exact ⟨Ext.refl _ _, S2, rb.le l.le⟩
theorem mi_items {elts : List Expr} {kk : Nat} {tpos : Pos} (he : PE X e (tM X.K W f)) (hbase : attributeBase e "items" X.env (eval e X.env) = eval e X.env := by rfl) (hline : (apos.endLine == cpos.line) = true := by rfl) : PI X (.Tuple elts kk tpos) (.Call (.Attribute e "items" apos) [] [] cpos) (tMI X.K W (Mv.iItems f)) := (pi_items he hbase hline).imp fun σ H R ⟨ι, A, ρ, S, E, h⟩ => RP_bind S E h fun ι1 A1 v u H1 e1 ⟨S1, r1⟩ h1 => by
  cases q : lkdOf A1 v with
  | none => rw [q] at h1; exact h1.elim
  | some kvs =>
    rw [q] at h1
    obtain ⟨d, o, ps, rfl, hd, rk⟩ := S1.lkd r1 q
    refine ⟨d, o, ps, rfl, hd, h1.ok0 ⟨S1, fun ι2 A2 H2 l S2 i => ⟨fun v hv => ?_, fun hl => ⟨l.frz _ _ _ hd, by rw [List.length_map] at hl; rw [← rk.length]; exact hl⟩⟩⟩⟩
    rw [List.getElem?_map] at hv
    cases ek : kvs[i]? with
    | none => rw [ek] at hv; cases hv
    | some p =>
      obtain ⟨k, m⟩ := p
      rw [ek] at hv
      cases hv
      obtain ⟨b, hb, rb⟩ := rk.get ek
      refine ⟨⟨l.frz _ _ _ hd, (List.getElem?_eq_some_iff.mp hb).1⟩, fun x H3 ⟨T, k', v', hk, ex, hT, e3⟩ => ?_⟩
      subst e3 ex
      rw [hb] at hk
      cases hk
      exact ⟨Ext.new1 hT, S2.new1 hT, new_tup S2 hT (.cons (rv_key _) (.one (rb.le l.le)))⟩
/-- a text, sign by sign -/
def signs (x : Str) : List MV := x.cps.toList.map fun c => .str ⟨#[c]⟩
def iStr (f : FE) : FL := fun ρ A => (f ρ A).bind fun v A => match v with
  | .str x => .ok (signs x) A
  | _ => .bad
theorem mi_str (he : PE X e (tM X.K W f)) : PI X tg e (tMI X.K W (Mv.iStr f)) := (pi_str he).imp fun σ H R ⟨ι, A, ρ, S, E, h⟩ => RP_bind S E h fun ι1 A1 v u H1 e1 ⟨S1, r1⟩ h1 => by
  cases r1 with
  | str x =>
    refine ⟨x, rfl, h1.ok0 ⟨S1, fun ι2 A2 H2 l S2 i => ⟨fun v hv => ?_, fun hl => ?_⟩⟩⟩
    · unfold signs at hv
      rw [List.getElem?_map, Array.getElem?_toList] at hv
      cases ec : x.cps[i]? with
      | none => rw [ec] at hv; cases hv
      | some c =>
        rw [ec] at hv
        cases hv
        refine ⟨(Array.getElem?_eq_some_iff.mp ec).1, fun y H3 ⟨e3, c', hc, ey⟩ => ?_⟩
        subst e3 ey
        rw [ec] at hc
        cases hc
        exact ⟨Ext.refl _ _, S2, .str _⟩
    · unfold signs at hl
      rw [List.length_map] at hl
      exact hl
  | _ => exact h1.elim
/-- zip of two lists -/
def lstOf (A : AH) : MV → Option (List MV)
  | .lst xs => some xs
  | _ => none
def zipM (xs ys : List MV) : List MV := (xs.zip ys).map fun p => .tup [p.1, p.2]
def iZip (g : FL) : FL := fun ρ A => (g ρ A).bind fun vs A => match vs with
  | [.lst xs, .lst ys] => .ok (zipM xs ys) A
  | _ => .bad
theorem mi_zip {e2 : Expr} {g : FL} {p pos tpos : Pos} {elts : List Expr} {kk : Nat} (hm : X.mg "zip" = none) (ha : PA X [e, e2] (tMA X.K W g)) (hg : Gl X "zip" := by rfl) (hs : starEach [e, e2] X.env = (false, eval e X.env) :: starEach [e2] X.env := by rfl) (hpl : (backTo pos (starEach [e2] X.env)).any (·.1) = false := by rfl) :
    PI X (.Tuple elts kk tpos) (.Call (.Name "zip" p) [e, e2] [] pos) (tMI X.K W (Mv.iZip g)) := (pi_zip hg hm ha hs hpl).imp fun σ H R ⟨ι, A, ρ, S, E, h⟩ => RP_bind S E h fun ι1 A1 vs us H1 e1 ⟨S1, r1⟩ h1 => by
  split at h1
  · cases r1 with
    | cons q qs => cases qs with
      | cons q2 qs2 =>
        cases qs2
        cases q with
        | @lst a vs xs ha ra => cases q2 with
          | @lst b ws ys hb rb =>
            refine ⟨a, b, xs, ys, rfl, fp_of_sqL (Le.refl _ _) ha, fp_of_sqL (Le.refl _ _) hb, h1.ok0 ⟨S1, fun ι2 A2 H2 l S2 i => ⟨fun v hv => ?_, fun hl => ?_⟩⟩⟩
            · unfold zipM at hv
              rw [List.getElem?_map] at hv
              obtain ⟨pr, ez, rfl⟩ := Option.map_eq_some_iff.mp hv
              obtain ⟨h2, h3⟩ := List.getElem?_zip_eq_some.mp ez
              obtain ⟨x, hx, rx⟩ := ra.get h2
              obtain ⟨y, hy, ry⟩ := rb.get h3
              refine ⟨⟨xs, ys, x, y, fp_of_sqL l.le ha, fp_of_sqL l.le hb, hx, hy⟩, fun z H3 ⟨T, x', y', ez', hT, e3, kx, ky⟩ => ?_⟩
              subst e3 ez'
              have := kx xs (fp_of_sqL l.le ha)
              rw [hx] at this
              cases this
              have := ky ys (fp_of_sqL l.le hb)
              rw [hy] at this
              cases this
              exact ⟨Ext.new1 hT, S2.new1 hT, new_tup S2 hT (.cons (rx.le l.le) (.one (ry.le l.le)))⟩
            · unfold zipM at hl
              rw [List.length_map, List.length_zip, ra.length, rb.length] at hl
              exact ⟨xs, ys, fp_of_sqL l.le ha, fp_of_sqL l.le hb, by omega⟩
  · exact h1.elim
end
end Mv
/-! Mv5: defs, calls, instances, fields, methods -/
namespace Mv
open PySem PySem.Spec PyProof.Rows L2 Fk
/-! ### defs -/
abbrev FF := List MV → AH → Rs MV
/-- the promise of a def by its plain function -/
def spM (K : PySem.W.Frag) (n : Nat) (F : FF) : Sp := fun vs H Q E => vs.length = n ∧ ∃ ι A ms, Sim K ι A H ∧ RVs K ι H ms vs ∧ RP K (Wi.of fun c d _ H => E c d H) [] (rV K) ι H (F ms A) Q
def defM (N : Nat) (body : FS) : FF := fun ms A => match body (ms.map some ++ List.replicate (N - ms.length) none) A with
  | .nx _ A' => .ok .non A'
  | .rt v A' => .ok v A'
  | .err c fs _ A' => .err c fs A'
  | _ => .bad
theorem RVs.st0 {W : WX} {K : PySem.W.Frag} {ι : Io} {H : Hp} {ms : List MV} {vs : List V} (r : RVs K ι H ms vs) (N : List Str) : REnv (Wi.of W) K ι H (ms.map some ++ List.replicate (N.length - ms.length) none) (L2.start N vs) := by
  unfold L2.start
  refine ⟨by simp [r.length], fun i v e => ?_, trivial, fun _ _ q => nomatch q⟩
  by_cases hi : i < ms.length
  · rw [List.getElem?_append_left (by simpa using hi), List.getElem?_map] at e
    rw [List.getElem?_append_left (by rw [List.length_map, ← r.length]; exact hi), List.getElem?_map]
    cases q : ms[i]? with
    | none => rw [q] at e; cases e
    | some m =>
      rw [q] at e
      cases e
      obtain ⟨u, h1, h2⟩ := r.get q
      exact ⟨u, by rw [h1]; rfl, h2⟩
  · rw [List.getElem?_append_right (by simpa using hi)] at e
    have := List.mem_of_getElem? e
    rw [List.mem_replicate] at this
    cases this.2
theorem RP.wi {α β : Type} {K : PySem.W.Frag} {W W' : Wi} {σ σ' : L2.St} {R : Rel α β} {ι : Io} {H : Hp} {r : Rs α} {Q : β → Hp → Prop} (h : RP K W σ R ι H r Q) (k : ∀ c d H, W.w c d σ H → W'.w c d σ' H) : RP K W' σ' R ι H r Q := by
  cases r with
  | ok v A => exact h
  | err c fs A => exact fun ι' H' d x s e => k _ _ _ (h ι' H' d x s e)
  | bad => exact h
section
variable {P : Program} {w : World} {K : PySem.W.Frag} {mg : Str → Option Value} {base : Heap} {x qual : Str} {params : Arguments} {body : List Stmt} {scope : Scope} {dvs : List V} {kws : List (Str × V)} {f : Addr} {fd : FuncData}
theorem fn_M {N ps : List Str} {k : Nat} {fb : FS} (F : FunD K x qual params body scope dvs kws f fd) (S : FnScope N ps scope)
    (hbody : ∀ (X : Cx) (W : Wi), X.prog = P → X.w = w → X.K = K → X.mg = mg → X.base = base → X.N = N → X.env.scope = scope → (∀ z, X.fn z = true) → X.calm = true → Room k X.A → X.stack = X.env :: X.outer → X.env.frame = some X.env.locals → Takes X W.w → PassesOwn (model X.prog X.w) X.A X.env X.xe → PSs X body (tMS K W fb)) : FnOk P w K mg base (L2.CX P w) (k + 1) f fd ps (spM K ps.length (defM N.length fb)) := by
  refine F.ok S (fun vs H Q E h => h.1) fun cdv A outer s H vs Q E hr hsp => ?_
  obtain ⟨hl, ι, A', ms, Sm, r, h⟩ := hsp
  refine ⟨_, hbody (cxOf (L2.CX P w) P w K mg base N qual scope f cdv A outer s H E) (Wi.of fun c d _ H => E c d H) rfl rfl rfl rfl rfl rfl rfl (fun _ => rfl) rfl hr rfl rfl (takes_of rfl rfl rfl rfl) (passes_of rfl), ι, A', _, Sm, r.st0 N, ?_⟩
  unfold defM at h
  cases e : fb (ms.map some ++ List.replicate (N.length - ms.length) none) A' with
  | nx ρ B => rw [e] at h; exact fun ι' H' σ' x s _ => h ι' H' .non x ⟨s, .non⟩
  | rt v B => rw [e] at h; exact fun ι' H' u x s q => h ι' H' u x ⟨s, q⟩
  | err c fs ρ B => rw [e] at h; exact fun ι' H' σ' d x s _ q => h ι' H' d x s q
  | bk ρ B => rw [e] at h; exact h.elim
  | ct ρ B => rw [e] at h; exact h.elim
  | bad => rw [e] at h; exact h.elim
end
/-! ### arguments -/
/-- how n written values and the keywords ks come to the parameters -/
structure KBM (K : PySem.W.Frag) (fd : FuncData) (ps : List Str) (n : Nat) (ks : List Str) (gm : List MV → List MV → List MV) : Prop where
  ex : ∃ g gV, KBn K fd ps n ks g gV ∧ ∀ {ι : Io} {H : Hp} {ms zs : List MV} {vs ws : List V}, ms.length = n → zs.length = ks.length → RVs K ι H ms vs → RVs K ι H zs ws → RVs K ι H (gm ms zs) (gV vs ws) ∧ (gV vs ws).length = ps.length
abbrev FP := ME → AH → Rs (List MV × List MV)
abbrev rAA (K : PySem.W.Frag) : Rel (List MV × List MV) (List V × List V) := fun _ _ ι' H' A' p q => Sim K ι' A' H' ∧ RVs K ι' H' p.1 q.1 ∧ RVs K ι' H' p.2 q.2
def pN : FP := fun _ A => .ok ([], []) A
def pA (g : FL) : FP := fun ρ A => (g ρ A).bind fun vs A => .ok (vs, []) A
def pK (g : FL) : FP := fun ρ A => (g ρ A).bind fun vs A => .ok ([], vs) A
def pAK (g k : FL) : FP := fun ρ A => (g ρ A).bind fun vs A => (k ρ A).bind fun zs A => .ok (vs, zs) A
structure AM (X : Cx) (W : Wi) (pos : Pos) (es : List Expr) (kws : List Keyword) (ks : List Str) (f : FP) : Prop where
  run : ∀ (fv : Value) (first : List Value) (Qf : Value → Shared → Prop) (pins : List (Addr × Obj)) (s : Shared) (σ : L2.St) (H : Hp), PySem.W.keepIn X.K fv = true → Inv X pins σ H s →
    tG X.K W (rAA X.K) f σ H (fun p H2 => ∀ us ws s2, Inv X pins σ H2 s2 → Vals p.1 us → Vals p.2 ws → wpAny (model X.prog X.w) X.A (call fv (first ++ us) (ks.zip ws)) Qf X.xe s2) →
    wpAny (model X.prog X.w) X.A (callWith pos fv first (backTo pos (starEach es X.env)) (backToKw pos (keywordEach kws X.env))) Qf X.xe s
section
variable {X : Cx} {W : Wi} {pos : Pos} {e : Expr} {es : List Expr} {kws : List Keyword} {ks : List Str} {g k : FL}
theorem am_n : AM X W pos [] [] [] pN := ⟨fun fv first Qf pins s σ H hk I ⟨ι, A, ρ, S, E, h⟩ => PySem.W.callWith_K0 I.kIn hk (RP.ok0 h (u := ([], [])) ⟨S, .nil, .nil⟩ [] [] s I .nil .nil)⟩
theorem am_p (ha : PA X (e :: es) (tMA X.K W g)) (he : starEach (e :: es) X.env = (false, eval e X.env) :: starEach es X.env := by rfl) (hpl : (backTo pos (starEach es X.env)).any (·.1) = false := by rfl) : AM X W pos (e :: es) [] [] (pA g) := ⟨fun fv first Qf pins s σ H hk I ⟨ι, A, ρ, S, E, h⟩ => by
  refine PySem.W.callWith_K (h₀ := X.base) I.ok.mod.kin hk (thn (ha.run pos pins s σ H (fun vs H2 => ∀ us ws s2, Inv X pins σ H2 s2 → Vals vs us → Vals [] ws → wpAny (model X.prog X.w) X.A (call fv (first ++ us) (([] : List Str).zip ws)) Qf X.xe s2) I ?_) fun us s1 ⟨vs, H1, I1, r, q⟩ => ⟨I1.kIn, q us [] s1 I1 r .nil⟩) he hpl
  exact RP_bind S E h fun ι1 A1 xs us H1 e1 ⟨S1, r1⟩ h1 => RP.ok0 h1 (u := (us, [])) ⟨S1, r1, .nil⟩⟩
theorem am_k (hkw : PK X kws (tMA X.K W k)) (hall : (backToKw pos (keywordEach kws X.env)).all (·.1.isSome) = true := by rfl) (hks : (backToKw pos (keywordEach kws X.env)).filterMap (·.1) = ks := by rfl) (hpl : ((backTo pos (starEach [] X.env)).any (·.1) || (backToKw pos (keywordEach kws X.env)).any (·.1.isNone)) = false := by rfl) : AM X W pos [] kws ks (pK k) := ⟨fun fv first Qf pins s σ H hk I ⟨ι, A, ρ, S, E, h⟩ => by
  refine PySem.W.callWith_KW0 (h₀ := X.base) I.ok.mod.kin hk hall (thn (hkw.run pos pins s σ H (fun vs H2 => ∀ us ws s2, Inv X pins σ H2 s2 → Vals [] us → Vals vs ws → wpAny (model X.prog X.w) X.A (call fv (first ++ us) (ks.zip ws)) Qf X.xe s2) I ?_) fun us s1 ⟨vs, H1, I1, r, q⟩ => ⟨I1.kIn, ?_⟩) hpl
  · exact RP_bind S E h fun ι1 A1 xs us H1 e1 ⟨S1, r1⟩ h1 => RP.ok0 h1 (u := ([], us)) ⟨S1, .nil, r1⟩
  · rw [hks]
    exact q [] us s1 I1 .nil r⟩
theorem am_pk (ha : PA X (e :: es) (tMA X.K W g)) (hkw : PK X kws (tMA X.K W k)) (hall : (backToKw pos (keywordEach kws X.env)).all (·.1.isSome) = true := by rfl) (hks : (backToKw pos (keywordEach kws X.env)).filterMap (·.1) = ks := by rfl)
    (he : starEach (e :: es) X.env = (false, eval e X.env) :: starEach es X.env := by rfl) (hpl : ((backTo pos (starEach (e :: es) X.env)).any (·.1) || (backToKw pos (keywordEach kws X.env)).any (·.1.isNone)) = false := by rfl) : AM X W pos (e :: es) kws ks (pAK g k) := ⟨fun fv first Qf pins s σ H hk I ⟨ι, A, ρ, S, E, h⟩ => by
  refine PySem.W.callWith_KW (h₀ := X.base) I.ok.mod.kin hk hall (thn (ha.run pos pins s σ H (fun vs H2 => tMA X.K W k σ H2 fun zs H3 => ∀ us ws s2, Inv X pins σ H3 s2 → Vals vs us → Vals zs ws → wpAny (model X.prog X.w) X.A (call fv (first ++ us) (ks.zip ws)) Qf X.xe s2) I ?_) fun us s1 ⟨vs, H1, I1, r, q⟩ => ?_) hpl he
  · exact RP_bind S E h fun ι1 A1 xs us H1 e1 ⟨S1, r1⟩ h1 => RP_bind S1 (E.ext e1) h1 fun ι2 A2 ys ws H2 e2 ⟨S2, r2⟩ h2 => RP.ok0 h2 (u := (us, ws)) ⟨S2, r1.ext e2, r2⟩
  · refine thn (hkw.run pos pins s1 σ H1 _ I1 q) fun ws s2 ⟨zs, H2, I2, rz, q2⟩ => ⟨I2.kIn, ?_⟩
    rw [hks]
    exact q2 us ws s2 I2 r rz⟩
theorem _root_.L2.PK.imp {X : Cx} {kws : List Keyword} {t t' : TA} (h : PK X kws t) (i : ∀ σ H Q, t' σ H Q → t σ H Q) : PK X kws t' := ⟨fun pos pins s σ H Q I q => h.run pos pins s σ H Q I (i σ H Q q)⟩
theorem mk_nil : PK X [] (tMA X.K W aNil) := pk_nil.imp fun σ H Q ⟨ι, A, ρ, S, E, h⟩ => RP.ok0 h ⟨S, .nil⟩
theorem mk_cons {nm : Option Str} {kpos : Pos} {f : FE} (ha : PE X e (tM X.K W f)) (hr : PK X kws (tMA X.K W g)) : PK X (⟨nm, e, kpos⟩ :: kws) (tMA X.K W (aCons f g)) :=
  (pk_cons ha hr).imp fun σ H Q ⟨ι, A, ρ, S, E, h⟩ => RP_bind S E h fun ι1 A1 x u H1 e1 ⟨S1, r1⟩ h1 => RP_bind S1 (E.ext e1) h1 fun ι2 A2 xs us H2 e2 ⟨S2, r2⟩ h2 => RP.ok0 h2 ⟨S2, .cons (r1.ext e2) r2⟩
end
/-! ### calls -/
def eCall (n m : Nat) (gm : List MV → List MV → List MV) (F : FF) (fa : FP) : FE := fun ρ A => (fa ρ A).bind fun p A => if p.1.length = n ∧ p.2.length = m then F (gm p.1 p.2) A else .bad
def eMake (C : Str) (n m : Nat) (gm : List MV → List MV → List MV) (F : FF) (fa : FP) : FE := fun ρ A => (fa ρ A).bind fun p A => if p.1.length = n ∧ p.2.length = m then (F (gm (.ref A.length :: p.1) p.2) (A ++ [.ins C []])).bind fun v A' => (match v with
    | .non => .ok (.ref A.length) A'
    | _ => .bad) else .bad
def insOf (C : Str) (A : AH) : MV → Option (List (Str × MV))
  | .ref n => (match A[n]? with
    | some (.ins D fs) => if D = C then some fs else none
    | _ => none)
  | _ => none
def eMeth (C m : Str) (n k : Nat) (gm : List MV → List MV → List MV) (F : FF) (fo : FE) (fa : FP) : FE := fun ρ A => (fo ρ A).bind fun v A => match insOf C A v with
  | some fs => (match fs.lookup m with
    | none => (fa ρ A).bind fun p A => if p.1.length + 1 = n ∧ p.2.length = k then F (gm (v :: p.1) p.2) A else .bad
    | some _ => .bad)
  | none => .bad
def eFld (C f : Str) (fo : FE) : FE := fun ρ A => (fo ρ A).bind fun v A => match insOf C A v with
  | some fs => (match fs.lookup f with
    | some x => .ok x A
    | none => .bad)
  | none => .bad
def putFM (f : Str) (v : MV) : List (Str × MV) → List (Str × MV)
  | [] => [(f, v)]
  | (g, w) :: r => if g = f then (g, v) :: r else (g, w) :: putFM f v r
def sFld (C f : Str) (fo fv : FE) : FS := fun ρ A => (fv ρ A).fs ρ fun y A => (fo ρ A).fs ρ fun v A => match v with
  | .ref n => (match A[n]? with
    | some (.ins D fs) => if D = C ∧ fs.length < 900 then .nx ρ (A.set n (.ins C (putFM f y fs))) else .bad
    | _ => .bad)
  | _ => .bad
/-- the last of the tracked -/
theorem tr_last {K : PySem.W.Frag} {ι : Io} {A : AH} {H : Hp} (S : Sim K ι A H) (p : Addr) : (ι.tr ++ [p])[A.length]? = some p := by
  rw [← S.len, List.getElem?_append_right (Nat.le_refl _), Nat.sub_self]
  rfl
theorem Sim.insOf {K : PySem.W.Frag} {ι : Io} {A : AH} {H : Hp} {C : Str} {v : MV} {u : V} {fs : List (Str × MV)} (S : Sim K ι A H) (r : RV K ι H v u) (h : Mv.insOf C A v = some fs) : ∃ a dx ps, u = .ref a ∧ H a = some (.ins (He.ga K C) dx ps) ∧ RFs K ι H fs ps := by
  unfold Mv.insOf at h
  split at h
  · split at h
    · rename_i e
      split at h
      · rename_i ec
        cases h
        subst ec
        obtain ⟨a, rfl, _, ok⟩ := S.ref r e
        cases ok with
        | ins h1 h2 => exact ⟨a, _, _, rfl, h1, h2⟩
      · cases h
    · cases h
  · cases h
theorem RFs.put {K : PySem.W.Frag} {ι : Io} {H : Hp} {f : Str} {y : MV} {u : V} (r : RV K ι H y u) : ∀ {fs : List (Str × MV)} {ps : List (Str × V)}, RFs K ι H fs ps → RFs K ι H (putFM f y fs) (putF f u ps)
  | _, _, .nil => .cons r .nil
  | _, _, .cons (k := k) a b => by
    unfold putFM putF
    by_cases h : k = f
    · rw [if_pos h, if_pos h]
      exact .cons r b
    · rw [if_neg h, if_neg h]
      exact .cons a (RFs.put r b)
section
variable {X : Cx} {W : Wi} {k n : Nat} {f : Addr} {fd : FuncData} {ps ks : List Str} {gm : List MV → List MV → List MV} {F : FF} {fa : FP} {x : Str} {p pos apos : Pos} {es : List Expr} {kws : List Keyword}
theorem run_M {pins : List (Addr × Obj)} {σ : L2.St} {H : Hp} {s : Shared} {Q : VK} {us ws : List Value} {vs zs : List V} {ms ns : List MV} {ι : Io} {A : AH} (G : FnOk X.prog X.w X.K X.mg X.base (L2.CX X.prog X.w) k f fd ps (spM X.K ps.length F)) (hr : Room k X.A) (B : KBM X.K fd ps n ks gm) (tk : Takes X W.w)
    (I : Inv X pins σ H s) (S : Sim X.K ι A H) (rm : RVs X.K ι H ms vs) (rn : RVs X.K ι H ns zs) (l1 : ms.length = n) (l2 : ns.length = ks.length) (r : Vals vs us) (rz : Vals zs ws) (h : RP X.K W σ (rV X.K) ι H (F (gm ms ns) A) Q) : wpAny (model X.prog X.w) X.A (call (.ref f) us (ks.zip ws)) (EP X pins σ Q) X.xe s := by
  obtain ⟨g, gV, B, hg⟩ := B.ex
  obtain ⟨hv, hl⟩ := hg l1 l2 rm rn
  have r2 := B.rel r rz
  refine wpAny_call (codeAny_mono (G.run X.A X.stack s H ⟨us, ks.zip ws⟩ (g us ws) (gV vs zs) Q (WE W.w σ) hr I.env0 (B.to s us ws I.kIn (by rw [← r.length, ← rm.length, l1]) (by rw [← rz.length, ← rn.length, l2])) r2 ⟨hl, ι, A, _, S, hv, h.wi fun _ _ _ z => z⟩) fun r s' hq => ?_)
  cases r with
  | error e => exact passAt tk σ pins H s e s' I hq
  | ok fl =>
    cases fl with
    | ret u => exact I.after hq
    | next => exact False.elim hq
    | brk => exact False.elim hq
    | cont => exact False.elim hq
theorem m_call (G : FnOk X.prog X.w X.K X.mg X.base (L2.CX X.prog X.w) k f fd ps (spM X.K ps.length F)) (hr : Room k X.A) (hm : X.mg x = some (.ref f)) (hk : PySem.W.keepIn X.K (.ref f) = true) (B : KBM X.K fd ps n ks gm) (tk : Takes X W.w) (ha : AM X W pos es kws ks fa) (hg : Gl X x := by rfl) (hdb : (x == ("__debug__" : Str)) = false := by decide) :
    PE X (.Call (.Name x p) es kws pos) (tM X.K W (eCall n ks.length gm F fa)) := by
  refine ⟨fun pins s σ H Q I ⟨ι, A, ρ, S, E, h⟩ => ?_⟩
  refine wpAny_Call_Name_kw (ld_glob I hg hm ?_ hdb)
  refine ha.run _ [] _ pins s σ H hk I (RP_bind S E h fun ι1 A1 pr qr H1 e1 ⟨S1, r1, r2⟩ h1 => fun us ws s2 I2 v1 v2 => ?_)
  split at h1
  · rename_i hl
    exact run_M G hr B tk I2 S1 r1 r2 hl.1 hl.2 v1 v2 h1
  · exact h1.elim
theorem m_meth {C : Str} {m : Str} {o : Expr} {fo : FE} {pl : Sem Bool} (he : PE X o (tM X.K W fo)) (c : Cls X.K (He.ga X.K C)) (hm : Meth X.K (He.ga X.K C) m f) (G : FnOk X.prog X.w X.K X.mg X.base (L2.CX X.prog X.w) k f fd ps (spM X.K ps.length F)) (hr : Room k X.A) (B : KBM X.K fd ps n ks gm) (tk : Takes X W.w) (ha : AM X W pos es kws ks fa)
    (ht : eval (.Call (.Attribute o m apos) es kws pos) X.env = (do
      let ov ← eval o X.env
      standAt apos.atName
      let (f, first) ← holding [ov] (getMethod ov m pl)
      callWith pos f first (backTo pos (starEach es X.env)) (backToKw pos (keywordEach kws X.env))) := by rfl) :
    PE X (.Call (.Attribute o m apos) es kws pos) (tM X.K W (eMeth C m n ks.length gm F fo fa)) := by
  refine ⟨fun pins s σ H Q I ⟨ι, A, ρ, S, E, h⟩ => ?_⟩
  refine PySem.W.methodCall_KW (pl := pl) (thn (he.run pins s σ H (fun u H1 => ∃ a dx qs, u = .ref a ∧ H1 a = some (.ins (He.ga X.K C) dx qs) ∧ qs.lookup m = none ∧ ∀ s1, Inv X pins σ H1 s1 → wpAny (model X.prog X.w) X.A (callWith pos (.ref f) [.ref a] (backTo pos (starEach es X.env)) (backToKw pos (keywordEach kws X.env))) (EP X pins σ Q) X.xe s1) I ?_) fun u s1 ⟨y, H1, I1, rx, a, dx, qs, ex, ea, l, q⟩ => ?_) ht
  · refine RP_bind S E h fun ι1 A1 v u H1 e1 ⟨S1, r1⟩ h1 => ?_
    cases q : insOf C A1 v with
    | none => rw [q] at h1; exact h1.elim
    | some fs =>
      rw [q] at h1
      dsimp only at h1
      obtain ⟨a, dx, qs, rfl, ha1, rf⟩ := S1.insOf r1 q
      cases ql : fs.lookup m with
      | some z => rw [ql] at h1; exact h1.elim
      | none =>
        rw [ql] at h1
        dsimp only at h1
        refine ⟨a, dx, qs, rfl, ha1, rf.getN ql, fun s1 I1 => ?_⟩
        refine ha.run _ [.ref a] _ pins s1 σ H1 hm.kp I1 (RP_bind S1 (E.ext e1) h1 fun ι2 A2 pr qr H2 e2 ⟨S2, r2, r3⟩ h2 => fun us ws s2 I2 v1 v2 => ?_)
        split at h2
        · rename_i hl
          exact run_M (vs := .ref a :: qr.1) G hr B tk I2 S2 (.cons (r1.ext e2) r2) r3 hl.1 hl.2 (.cons rfl v1) v2 h2
        · exact h2.elim
  · subst ex
    obtain rfl : u = Value.ref a := rx
    exact getmeth_ok I1 ea c hm l (q s1 I1)
theorem m_make {C : Str} (M : Mk X.K (He.ga X.K C) f) (G : FnOk X.prog X.w X.K X.mg X.base (L2.CX X.prog X.w) k f fd ps (spM X.K ps.length F)) (hr : Room (k + 1) X.A) (hm : X.mg C = some (.ref (He.ga X.K C))) (B : KBM X.K fd ps (n + 1) ks gm) (tk : Takes X W.w) (ha : AM X W pos es kws ks fa) (hg : Gl X C := by rfl) (hdb : (C == ("__debug__" : Str)) = false := by decide) :
    PE X (.Call (.Name C p) es kws pos) (tM X.K W (eMake C n ks.length gm F fa)) := by
  refine ⟨fun pins s σ H Q I ⟨ι, A, ρ, S, E, h⟩ => ?_⟩
  refine wpAny_Call_Name_kw (ld_glob I hg hm ?_ hdb)
  refine ha.run _ [] _ pins s σ H M.kp I (RP_bind S E h fun ι1 A1 pr qr H1 e1 ⟨S1, r1, r2⟩ h1 => fun us ws s2 I2 v1 v2 => ?_)
  split at h1
  · rename_i hl
    obtain ⟨g, gV, B, hg⟩ := B.ex
    have fx : H1 (s2.heap.objs.size + 1) = none := I2.hok.fresh (Nat.le_succ _)
    have fdx : H1 s2.heap.objs.size = none := I2.hok.fresh (Nat.le_refl _)
    have ne : s2.heap.objs.size ≠ s2.heap.objs.size + 1 := Nat.ne_of_lt (Nat.lt_succ_self _)
    have fx' : upd H1 s2.heap.objs.size (.own (s2.heap.objs.size + 1)) (s2.heap.objs.size + 1) = none := by
      rw [upd_ne (Ne.symm ne)]
      exact fx
    have I3 := Inv.made (C := He.ga X.K C) I2
    have Sx := (S1.new1 (o := .own (s2.heap.objs.size + 1)) fdx)
    have S3 := Sx.push (m := .ins C []) (o := .ins (He.ga X.K C) s2.heap.objs.size []) fx' (.ins upd_same .nil)
    have e3 : Ext ι1 H1 ⟨ι1.tr ++ [s2.heap.objs.size + 1], ι1.pv⟩ (upd (upd H1 s2.heap.objs.size (.own (s2.heap.objs.size + 1))) (s2.heap.objs.size + 1) (.ins (He.ga X.K C) s2.heap.objs.size [])) := (Ext.new1 fdx).trans (Ext.push fx')
    have rr := r1.ext e3
    have rr2 := r2.ext e3
    have rself : RV X.K ⟨ι1.tr ++ [s2.heap.objs.size + 1], ι1.pv⟩ (upd (upd H1 s2.heap.objs.size (.own (s2.heap.objs.size + 1))) (s2.heap.objs.size + 1) (.ins (He.ga X.K C) s2.heap.objs.size [])) (.ref A1.length) (.ref (s2.heap.objs.size + 1)) := .ref (tr_last S1 _)
    obtain ⟨hv, hll⟩ := hg (ms := .ref A1.length :: pr.1) (by rw [List.length_cons, hl.1]) hl.2 (.cons rself rr) rr2
    have rv2 : Vals (V.ref (s2.heap.objs.size + 1) :: qr.1) (Value.ref (s2.heap.objs.size + 1) :: us) := .cons rfl v1
    have n1 : (Value.ref (s2.heap.objs.size + 1) :: us).length = n + 1 := by
      rw [List.length_cons, ← v1.length, ← r1.length, hl.1]
    refine wpAny_call (make_map (f := f) I2.kIn M.makes M.init (beq_iff_eq.mp M.fn) (codeAny_mono (G.run _ X.stack _ _ ⟨Value.ref (s2.heap.objs.size + 1) :: us, ks.zip ws⟩ (g (Value.ref (s2.heap.objs.size + 1) :: us) ws) (gV (.ref (s2.heap.objs.size + 1) :: qr.1) qr.2) (fun v H2 => v = .non ∧ Q (.ref (s2.heap.objs.size + 1)) H2) (WE W.w σ) (hr.make _ us (ks.zip ws))
      (I3.env0.make _ us (ks.zip ws)) (B.to _ (Value.ref (s2.heap.objs.size + 1) :: us) ws I3.kIn n1 (by rw [← v2.length, ← r2.length, hl.2])) (B.rel rv2 v2) ⟨hll, _, _, _, S3, hv, ?_⟩) fun r s' hq' => ?_))
    · cases ef : F (gm (.ref A1.length :: pr.1) pr.2) (A1 ++ [.ins C []]) with
      | ok v A' =>
        rw [ef] at h1
        rintro ι' H' u x ⟨S', rv⟩
        cases rv with
        | non => exact ⟨rfl, h1 ι' H' _ (e3.trans x) ⟨S', rself.ext x⟩⟩
        | _ => exact h1.elim
      | err c fs A' =>
        rw [ef] at h1
        exact fun ι' H' d x s er => h1 ι' H' d (e3.trans x) s er
      | bad => rw [ef] at h1; exact h1.elim
    · cases r with
      | error e => exact passAt tk σ pins _ _ e s' I3 hq'
      | ok fl =>
        cases fl with
        | ret u =>
          obtain ⟨v, H', I4, rv, ev, q3⟩ := I3.after hq'
          subst ev
          exact ⟨rv, ⟨V.ref (s2.heap.objs.size + 1), H', I4, rfl, q3⟩⟩
        | next => exact False.elim hq'
        | brk => exact False.elim hq'
        | cont => exact False.elim hq'
  · exact h1.elim
/-! ### fields -/
theorem m_fld {C f : Str} {o : Expr} {fo : FE} (he : PE X o (tM X.K W fo)) (c : Cls X.K (He.ga X.K C)) (n : NoAttr X.K (He.ga X.K C) f) (hb : attributeBase o f X.env (eval o X.env) = eval o X.env := by rfl) : PE X (.Attribute o f pos) (tM X.K W (eFld C f fo)) :=
  (pe_fld he hb).imp fun σ H Q ⟨ι, A, ρ, S, E, h⟩ => RP_bind S E h fun ι1 A1 v u H1 e1 ⟨S1, r1⟩ h1 => by
    cases q : insOf C A1 v with
    | none => rw [q] at h1; exact h1.elim
    | some fs =>
      rw [q] at h1
      dsimp only at h1
      obtain ⟨a, dx, qs, rfl, ha1, rf⟩ := S1.insOf r1 q
      cases ql : fs.lookup f with
      | none => rw [ql] at h1; exact h1.elim
      | some z =>
        rw [ql] at h1
        obtain ⟨b, hb, rb⟩ := rf.get ql
        exact ⟨a, _, dx, qs, b, rfl, ha1, c, n, hb, h1.ok0 ⟨S1, rb⟩⟩
theorem ms_fld {C f : Str} {o e : Expr} {fo fv : FE} {pos' : Pos} (he : PE X o (tM X.K W fo)) (hv : PE X e (tM X.K W fv)) (c : Cls X.K (He.ga X.K C)) (n : NoAttr X.K (He.ga X.K C) f) (hs : swapsWith e (some (.Attribute o f pos')) pos.line X.env = pure false := by rfl) : PS X (.Assign [.Attribute o f pos'] e pos) (tMS X.K W (sFld C f fo fv)) :=
  (ps_fld he hv hs).imp fun D σ H ⟨ι, A, ρ, S, E, h⟩ => RPS_bind S E h fun ι1 A1 y u H1 e1 ⟨S1, r1⟩ h1 => RPS_bind S1 (E.ext e1) h1 fun ι2 A2 v w H2 e2 ⟨S2, r2⟩ h2 => by
    split at h2
    · rename_i k
      split at h2
      · rename_i D' fs ek
        split at h2
        · rename_i hc
          obtain ⟨hc, hl⟩ := hc
          subst hc
          obtain ⟨a, rfl, ea, ok⟩ := S2.ref r2 ek
          cases ok with
          | @ins _ dx _ _ qs h3 h4 =>
            have hm := List.mem_of_getElem? ea
            refine ⟨a, _, dx, qs, rfl, h3, c, n, by rw [← h4.length]; omega, h2 ι2 _ σ (Ext.mut hm fun o u q => by rw [h3] at q; cases q) (S2.put ea (.ins upd_same ((RFs.put (r1.ext e2) h4).le (Le.mut hm)))) ((E.ext (e1.trans e2)).le (Le.mut hm))⟩
        · exact h2.elim
      · exact h2.elim
    · exact h2.elim
end
end Mv
/-! Mv6: data, ==, in, subscripts, len, isinstance -/
namespace Mv
open PySem PySem.Spec PyProof.Rows L2 Fk
/-! ### views of values -/
def lstV (A : AH) : MV → Option (List MV)
  | .lst xs => some xs
  | .ref n => (match A[n]? with
    | some (.lst xs) => some xs
    | some (.lkl xs) => some xs
    | _ => none)
  | _ => none
def dctV (A : AH) : MV → Option (List (Key × MV))
  | .ref n => (match A[n]? with
    | some (.dct xs) => some xs
    | some (.lkd xs) => some xs
    | _ => none)
  | _ => none
def keyOf : MV → Option Key
  | .int i => some (.inl i)
  | .str x => some (.inr x)
  | _ => none
def valM (kvs : List (Key × MV)) (k : Key) : Option MV := (kvs.find? fun kv => decide (kv.1 = k)).map (·.2)
def putM (kvs : List (Key × MV)) (k : Key) (v : MV) : List (Key × MV) := if (kvs.any fun kv => decide (kv.1 = k)) = true then kvs.map fun kv => if kv.1 = k then (kv.1, v) else kv else kvs ++ [(k, v)]
def dropM (kvs : List (Key × MV)) (k : Key) : List (Key × MV) := kvs.filter fun kv => decide (kv.1 ≠ k)
section
variable {K : PySem.W.Frag} {ι : Io} {H : Hp} {A : AH} {v : MV} {u : V} {vs : List MV} {kvs : List (Key × MV)} {ps : List (Key × V)} {k : Key}
theorem Sim.lstX (S : Sim K ι A H) (r : RV K ι H v u) (h : Mv.lstV A v = some vs) : ∃ a xs, u = .ref a ∧ Rd H a (.lst xs) ∧ RVs K ι H vs xs := by
  unfold Mv.lstV at h
  split at h
  · cases h
    cases r with
    | lst h r => exact ⟨_, _, rfl, h.2, r⟩
  · split at h
    · rename_i e
      cases h
      obtain ⟨a, rfl, _, ok⟩ := S.ref r e
      cases ok with
      | lst h1 h2 => exact ⟨a, _, rfl, .inl h1, h2⟩
    · rename_i e
      cases h
      obtain ⟨a, rfl, _, ok⟩ := S.ref r e
      cases ok with
      | lkl h1 h2 => exact ⟨a, _, rfl, .inr ⟨_, h1⟩, h2⟩
    · cases h
  · cases h
theorem Sim.lstV (S : Sim K ι A H) (r : RV K ι H v u) (h : Mv.lstV A v = some vs) : ∃ a xs, u = .ref a ∧ SqL K H a xs ∧ RVs K ι H vs xs := by
  obtain ⟨a, xs, e, h1, h2⟩ := S.lstX r h
  exact ⟨a, xs, e, .inl h1, h2⟩
theorem Sim.dctV (S : Sim K ι A H) (r : RV K ι H v u) (h : Mv.dctV A v = some kvs) : ∃ a ps, u = .ref a ∧ Rd H a (.dK ps) ∧ RKs K ι H kvs ps := by
  unfold Mv.dctV at h
  split at h
  · split at h
    · rename_i e
      cases h
      obtain ⟨a, rfl, _, ok⟩ := S.ref r e
      cases ok with
      | dct h1 h2 => exact ⟨a, _, rfl, .inl h1, h2⟩
    · rename_i e
      cases h
      obtain ⟨a, rfl, _, ok⟩ := S.ref r e
      cases ok with
      | lkd h1 h2 => exact ⟨a, _, rfl, .inr ⟨_, h1⟩, h2⟩
    · cases h
  · cases h
theorem keyOf_rel (r : RV K ι H v u) (h : keyOf v = some k) : u = kV k := by
  cases r with
  | int i => cases h; rfl
  | str x => cases h; rfl
  | _ => cases h
theorem RKs.val : ∀ {kvs : List (Key × MV)} {ps : List (Key × V)}, RKs K ι H kvs ps → (∀ m, valM kvs k = some m → ∃ b, valV ps k = some b ∧ RV K ι H m b) ∧ (valM kvs k = none → valV ps k = none)
  | _, _, .nil => ⟨fun m e => (by cases e), fun _ => rfl⟩
  | _, _, .cons (k := j) (v := v) (vs := vs) (x := x) (xs := xs) r t => by
    obtain ⟨h1, h2⟩ := RKs.val t
    by_cases e : j = k
    · refine ⟨fun m q => ?_, fun q => ?_⟩
      · have : valM ((j, v) :: vs) k = some v := by simp [valM, List.find?_cons, e]
        rw [this] at q
        cases q
        exact ⟨x, valV_pos e, r⟩
      · have : valM ((j, v) :: vs) k = some v := by simp [valM, List.find?_cons, e]
        rw [this] at q
        cases q
    · refine ⟨fun m q => ?_, fun q => ?_⟩
      · have z : valM ((j, v) :: vs) k = valM vs k := by simp [valM, List.find?_cons, e]
        rw [z] at q
        rw [valV_neg e]
        exact h1 m q
      · have z : valM ((j, v) :: vs) k = valM vs k := by simp [valM, List.find?_cons, e]
        rw [z] at q
        rw [valV_neg e]
        exact h2 q
theorem RKs.any : ∀ {kvs : List (Key × MV)} {ps : List (Key × V)}, RKs K ι H kvs ps → (kvs.any fun kv => decide (kv.1 = k)) = ps.any fun kv => decide (kv.1 = k)
  | _, _, .nil => rfl
  | _, _, .cons r t => by simp only [List.any_cons, RKs.any t]
theorem RKs.repl {m : MV} {b : V} (q : RV K ι H m b) : ∀ {kvs : List (Key × MV)} {ps : List (Key × V)}, RKs K ι H kvs ps → RKs K ι H (kvs.map fun kv => if kv.1 = k then (kv.1, m) else kv) (ps.map fun kv => if kv.1 = k then (kv.1, b) else kv)
  | _, _, .nil => .nil
  | _, _, .cons (k := j) r t => by
    simp only [List.map_cons]
    by_cases e : j = k
    · rw [if_pos e, if_pos e]
      exact .cons q (RKs.repl q t)
    · rw [if_neg e, if_neg e]
      exact .cons r (RKs.repl q t)
theorem RKs.append : ∀ {v w : List (Key × MV)} {x y : List (Key × V)}, RKs K ι H v x → RKs K ι H w y → RKs K ι H (v ++ w) (x ++ y)
  | _, _, _, _, .nil, q => q
  | _, _, _, _, .cons a b, q => .cons a (b.append q)
theorem RKs.put {m : MV} {b : V} (q : RV K ι H m b) (r : RKs K ι H kvs ps) : RKs K ι H (putM kvs k m) (putK ps k b) := by
  unfold putM putK
  rw [r.any]
  split
  · exact r.repl q
  · exact r.append (.cons q .nil)
theorem RKs.drop : ∀ {kvs : List (Key × MV)} {ps : List (Key × V)}, RKs K ι H kvs ps → RKs K ι H (dropM kvs k) (dropK ps k)
  | _, _, .nil => .nil
  | _, _, .cons (k := j) r t => by
    unfold dropM dropK
    simp only [List.filter_cons]
    by_cases e : j = k
    · simp only [e, ne_eq, not_true, decide_false, Bool.false_eq_true, if_false]
      exact RKs.drop t
    · simp only [ne_eq, e, not_false_eq_true, decide_true, if_true]
      exact .cons r (RKs.drop t)
theorem RKs.keys : ∀ {kvs : List (Key × MV)} {ps : List (Key × V)}, RKs K ι H kvs ps → kvs.map (·.1) = ps.map (·.1)
  | _, _, .nil => rfl
  | _, _, .cons r t => by rw [List.map_cons, List.map_cons, RKs.keys t]
end
/-! ### data -/
mutual
def datM : MV → Option PyData
  | .non => some .none
  | .bl b => some (.bool b)
  | .int i => some (.int i)
  | .str x => some (.str x)
  | .tup xs => (datMs xs).map .tuple
  | .ptp xs => (datMs xs).map .tuple
  | .lst xs => (datMs xs).map .list
  | _ => none
def datMs : List MV → Option (List PyData)
  | [] => some []
  | x :: xs => match datM x, datMs xs with
    | some d, some ds => some (d :: ds)
    | _, _ => none
end
def datA (A : AH) (v : MV) : Option PyData := match v with
  | .ref n => (match lstV A (.ref n) with
    | some xs => (datMs xs).map .list
    | none => none)
  | v => datM v
def okD (d : PyData) : Bool := d.plain && decide (d.depth ≤ 60)
mutual
theorem datM_dp {K : PySem.W.Frag} {ι : Io} {H : Hp} : ∀ {v : MV} {u : V} {d : PyData}, RV K ι H v u → datM v = some d → Dp K H u d
  | _, _, d, .non, e => by simp only [datM] at e; cases e; exact .non
  | _, _, d, .bl b, e => by simp only [datM] at e; cases e; exact .bl b
  | _, _, d, .int b, e => by simp only [datM] at e; cases e; exact .int b
  | _, _, d, .str b, e => by simp only [datM] at e; cases e; exact .str b
  | _, _, d, .byt b, e => by simp only [datM] at e; cases e
  | _, _, d, .ty b, e => by simp only [datM] at e; cases e
  | _, _, d, .glo b, e => by simp only [datM] at e; cases e
  | _, _, d, .ref h, e => by simp only [datM] at e; cases e
  | _, _, d, .obj _ _ _, e => by simp only [datM] at e; cases e
  | _, _, d, .tup (vs := vs) h r, e => by
    simp only [datM] at e
    obtain ⟨ds, e1, rfl⟩ := Option.map_eq_some_iff.mp e
    exact .tup (h.elim (fun h => .inl h.2) sqT0) (datMs_dp r e1)
  | _, _, d, .ptp n h q r, e => by
    simp only [datM] at e
    obtain ⟨ds, e1, rfl⟩ := Option.map_eq_some_iff.mp e
    exact .tup (.inl (.inr ⟨_, h⟩)) (datMs_dp r e1)
  | _, _, d, .lst h r, e => by
    simp only [datM] at e
    obtain ⟨ds, e1, rfl⟩ := Option.map_eq_some_iff.mp e
    exact .lst (.inl h.2) (datMs_dp r e1)
theorem datMs_dp {K : PySem.W.Frag} {ι : Io} {H : Hp} : ∀ {v : List MV} {u : List V} {d : List PyData}, RVs K ι H v u → datMs v = some d → DpAll K H u d
  | _, _, d, .nil, e => by simp only [datMs] at e; cases e; exact .nil
  | _, _, d, .cons a b, e => by
    simp only [datMs] at e
    split at e
    · rename_i d1 d2 e1 e2
      cases e
      exact .cons (datM_dp a e1) (datMs_dp b e2)
    · cases e
end
theorem datA_dp {K : PySem.W.Frag} {ι : Io} {H : Hp} {A : AH} {v : MV} {u : V} {d : PyData} (S : Sim K ι A H) (r : RV K ι H v u) (e : datA A v = some d) : Dp K H u d := by
  unfold datA at e
  split at e
  · rename_i n
    cases q : lstV A (.ref n) with
    | none => rw [q] at e; cases e
    | some xs =>
      rw [q] at e
      obtain ⟨ds, e1, rfl⟩ := Option.map_eq_some_iff.mp e
      obtain ⟨a, ys, rfl, sq, rs⟩ := S.lstV r q
      exact .lst sq (datMs_dp rs e1)
  · exact datM_dp r e
def eqM : MV → MV → AH → Rs MV := fun x y A => match datA A x, datA A y with
  | some d, some e => if okD d && okD e then .ok (.bl (PyData.eqv d e)) A else .bad
  | _, _ => .bad
def neM : MV → MV → AH → Rs MV := fun x y A => match datA A x, datA A y with
  | some d, some e => if okD d && okD e then .ok (.bl (!PyData.eqv d e)) A else .bad
  | _, _ => .bad
section
variable {X : Cx} {W : Wi} {k : Nat}
theorem room_min {a b : Nat} {A : Around} (hr : Room k A) (h : a ≤ 60) : A.units + 1 + min a b < cLine := by
  have := hr.units
  have := Nat.min_le_left a b
  omega
theorem op_eqP (hr : Room k X.A) : OpR X (compareOp .Eq) (fun x y H Q => ∃ d e, Dp X.K H x d ∧ Dp X.K H y e ∧ okD d = true ∧ okD e = true ∧ Q (.bl (PyData.eqv d e)) H) := by
  intro pins s σ H x y v u Q I rx ry h
  obtain ⟨d, e, hd, he, sd, se, q⟩ := h
  obtain ⟨as, r1⟩ := Dp.reads I d x v hd rx
  obtain ⟨bs, r2⟩ := Dp.reads I e y u he ry
  obtain ⟨p1, p2⟩ := Bool.and_eq_true_iff.mp sd
  obtain ⟨p3, p4⟩ := Bool.and_eq_true_iff.mp se
  have := room_min (b := e.depth) hr (of_decide_eq_true p2)
  exact SeqAt.eq_plain r1 r2 p1 p3 (by omega) ⟨.bl _, H, I, rfl, q⟩
theorem op_neP (hr : Room k X.A) : OpR X (compareOp .NotEq) (fun x y H Q => ∃ d e, Dp X.K H x d ∧ Dp X.K H y e ∧ okD d = true ∧ okD e = true ∧ Q (.bl (!PyData.eqv d e)) H) := by
  intro pins s σ H x y v u Q I rx ry h
  obtain ⟨d, e, hd, he, sd, se, q⟩ := h
  obtain ⟨as, r1⟩ := Dp.reads I d x v hd rx
  obtain ⟨bs, r2⟩ := Dp.reads I e y u he ry
  obtain ⟨p1, p2⟩ := Bool.and_eq_true_iff.mp sd
  obtain ⟨p3, p4⟩ := Bool.and_eq_true_iff.mp se
  have := room_min (b := e.depth) hr (of_decide_eq_true p2)
  exact SeqAt.ne_plain r1 r2 p1 p3 (by omega) ⟨.bl _, H, I, rfl, q⟩
theorem op_eqM (hr : Room k X.A) : OpM X W (compareOp .Eq) eqM := ⟨_, op_eqP hr, fun {σ ι H A x y u v Q} S rx ry h => by
  unfold eqM at h
  cases q1 : datA A x with
  | none => rw [q1] at h; exact h.elim
  | some d => cases q2 : datA A y with
    | none => rw [q1, q2] at h; exact h.elim
    | some e =>
      rw [q1, q2] at h
      dsimp only at h
      split at h
      · rename_i hk
        obtain ⟨k1, k2⟩ := Bool.and_eq_true_iff.mp hk
        exact ⟨d, e, datA_dp S rx q1, datA_dp S ry q2, k1, k2, h.ok0 ⟨S, .bl _⟩⟩
      · exact h.elim⟩
theorem op_neM (hr : Room k X.A) : OpM X W (compareOp .NotEq) neM := ⟨_, op_neP hr, fun {σ ι H A x y u v Q} S rx ry h => by
  unfold neM at h
  cases q1 : datA A x with
  | none => rw [q1] at h; exact h.elim
  | some d => cases q2 : datA A y with
    | none => rw [q1, q2] at h; exact h.elim
    | some e =>
      rw [q1, q2] at h
      dsimp only at h
      split at h
      · rename_i hk
        obtain ⟨k1, k2⟩ := Bool.and_eq_true_iff.mp hk
        exact ⟨d, e, datA_dp S rx q1, datA_dp S ry q2, k1, k2, h.ok0 ⟨S, .bl _⟩⟩
      · exact h.elim⟩
/-! ### in -/
def inB : MV → MV → AH → Option Bool := fun x c A => match c with
  | .str t => (match x with
    | .str z => some (!(Builtin.Str.occurrences t z 0 t.length 1).isEmpty)
    | _ => none)
  | c => match dctV A c with
    | some kvs => (match keyOf x with
      | some k => some (valM kvs k).isSome
      | none => none)
    | none => match datA A c, datA A x with
      | some (.list ds), some d => if okD (.list ds) && okD d then some (ds.any fun y => PyData.eqv y d) else none
      | some (.tuple ds), some d => if okD (.list ds) && okD d then some (ds.any fun y => PyData.eqv y d) else none
      | _, _ => none
def inM : MV → MV → AH → Rs MV := fun x c A => match inB x c A with
  | some b => .ok (.bl b) A
  | none => .bad
def notInM : MV → MV → AH → Rs MV := fun x c A => match inB x c A with
  | some b => .ok (.bl (!b)) A
  | none => .bad
/-- what in asks -/
def rInM (K : PySem.W.Frag) (neg : Bool) : R2 := fun x y H Q => (∃ i j, x = .str i ∧ y = .str j ∧ Q (.bl (neg != !(Builtin.Str.occurrences j i 0 j.length 1).isEmpty)) H) ∨
  (∃ a o, y = .ref a ∧ DGet H a x o ∧ Q (.bl (neg != o.isSome)) H) ∨ ∃ ds d, (Dp K H y (.list ds) ∨ Dp K H y (.tuple ds)) ∧ Dp K H x d ∧ okD (.list ds) = true ∧ okD d = true ∧ Q (.bl (neg != ds.any fun z => PyData.eqv z d)) H
theorem nb (b : Bool) : (false != b) = b := by cases b <;> rfl
theorem tb (b : Bool) : (true != b) = !b := by cases b <;> rfl
theorem op_inR (hr : Room k X.A) : OpR X (compareOp .In) (rInM X.K false) := by
  intro pins s σ H x y v u Q I rx ry h
  rcases h with ⟨i, j, e1, e2, q⟩ | ⟨a, o, e, g, q⟩ | ⟨ds, d, hc, hx, k1, k2, q⟩
  · rw [nb] at q
    exact op_in_str pins s σ H x y v u Q I rx ry ⟨i, j, e1, e2, q⟩
  · subst e
    cases ry
    rw [nb] at q
    exact d_in (hu_of hr) I g rx fun s' I' => ⟨.bl _, H, I', rfl, q⟩
  · rw [nb] at q
    obtain ⟨bs, r2⟩ := Dp.reads I d x v hx rx
    obtain ⟨p1, p2⟩ := Bool.and_eq_true_iff.mp k1
    obtain ⟨p3, p4⟩ := Bool.and_eq_true_iff.mp k2
    have p1 : PyData.plainAll ds = true := p1
    have p2 : PyData.depthAll ds + 1 ≤ 60 := of_decide_eq_true p2
    have := room_min (b := d.depth) hr (show PyData.depthAll ds ≤ 60 by omega)
    rcases hc with hc | hc
    · obtain ⟨as, r1⟩ := Dp.reads I _ y u hc ry
      exact SeqAt.in_list_data r1 r2 p1 p3 this ⟨.bl _, H, I, rfl, q⟩
    · obtain ⟨as, r1⟩ := Dp.reads I _ y u hc ry
      exact SeqAt.in_tuple_data r1 r2 p1 p3 this ⟨.bl _, H, I, rfl, q⟩
theorem op_notInR (hr : Room k X.A) : OpR X (compareOp .NotIn) (rInM X.K true) := by
  intro pins s σ H x y v u Q I rx ry h
  rcases h with ⟨i, j, e1, e2, q⟩ | ⟨a, o, e, g, q⟩ | ⟨ds, d, hc, hx, k1, k2, q⟩
  · rw [tb] at q
    exact L2.op_notin_str pins s σ H x y v u Q I rx ry ⟨i, j, e1, e2, q⟩
  · subst e
    cases ry
    rw [tb] at q
    exact d_notIn (hu_of hr) I g rx fun s' I' => ⟨.bl _, H, I', rfl, q⟩
  · rw [tb] at q
    obtain ⟨bs, r2⟩ := Dp.reads I d x v hx rx
    obtain ⟨p1, p2⟩ := Bool.and_eq_true_iff.mp k1
    obtain ⟨p3, p4⟩ := Bool.and_eq_true_iff.mp k2
    have p1 : PyData.plainAll ds = true := p1
    have p2 : PyData.depthAll ds + 1 ≤ 60 := of_decide_eq_true p2
    have := room_min (b := d.depth) hr (show PyData.depthAll ds ≤ 60 by omega)
    rcases hc with hc | hc
    · obtain ⟨as, r1⟩ := Dp.reads I _ y u hc ry
      exact SeqAt.notIn_list_data r1 r2 p1 p3 this ⟨.bl _, H, I, rfl, q⟩
    · obtain ⟨as, r1⟩ := Dp.reads I _ y u hc ry
      exact SeqAt.notIn_tuple_data r1 r2 p1 p3 this ⟨.bl _, H, I, rfl, q⟩
theorem DGet.rd {H : Hp} {a : Addr} {kvs : List (Key × V)} {k : Key} (e : Rd H a (.dK kvs)) : DGet H a (kV k) (valV kvs k) := .inl ⟨kvs, k, e, rfl, rfl⟩
theorem inB_ok {K : PySem.W.Frag} {ι : Io} {H : Hp} {A : AH} {x c : MV} {u v : V} {b neg : Bool} {Q : VK} (S : Sim K ι A H) (rx : RV K ι H x u) (rc : RV K ι H c v) (e : inB x c A = some b) (h : Q (.bl (neg != b)) H) : rInM K neg u v H Q := by
  unfold inB at e
  split at e
  · split at e
    · cases e
      cases rx
      cases rc
      exact .inl ⟨_, _, rfl, rfl, h⟩
    · cases e
  · split at e
    · rename_i kvs ed
      split at e
      · rename_i k ek
        cases e
        obtain ⟨a, ps, rfl, hd, rk⟩ := S.dctV rc ed
        have eu := keyOf_rel rx ek
        subst eu
        obtain ⟨h1, h2⟩ := rk.val (k := k)
        have : (valM kvs k).isSome = (valV ps k).isSome := by
          cases q : valM kvs k with
          | none =>
            rw [h2 q]
            rfl
          | some m =>
            obtain ⟨b, e, _⟩ := h1 m q
            rw [e]
            rfl
        rw [this] at h
        exact .inr (.inl ⟨a, _, rfl, DGet.rd hd, h⟩)
      · cases e
    · split at e
      · rename_i ds d e1 e2
        split at e
        · rename_i hk
          cases e
          obtain ⟨k1, k2⟩ := Bool.and_eq_true_iff.mp hk
          exact .inr (.inr ⟨ds, d, .inl (datA_dp S rc e1), datA_dp S rx e2, k1, k2, h⟩)
        · cases e
      · rename_i ds d e1 e2
        split at e
        · rename_i hk
          cases e
          obtain ⟨k1, k2⟩ := Bool.and_eq_true_iff.mp hk
          exact .inr (.inr ⟨ds, d, .inr (datA_dp S rc e1), datA_dp S rx e2, k1, k2, h⟩)
        · cases e
      · cases e
theorem op_inM (hr : Room k X.A) : OpM X W (compareOp .In) inM := ⟨_, op_inR hr, fun {σ ι H A x y u v Q} S rx ry h => by
  unfold inM at h
  cases q : inB x y A with
  | none => rw [q] at h; exact h.elim
  | some b =>
    rw [q] at h
    exact inB_ok S rx ry q (by rw [nb]; exact h.ok0 ⟨S, .bl _⟩)⟩
theorem op_notInM (hr : Room k X.A) : OpM X W (compareOp .NotIn) notInM := ⟨_, op_notInR hr, fun {σ ι H A x y u v Q} S rx ry h => by
  unfold notInM at h
  cases q : inB x y A with
  | none => rw [q] at h; exact h.elim
  | some b =>
    rw [q] at h
    exact inB_ok S rx ry q (by rw [tb]; exact h.ok0 ⟨S, .bl _⟩)⟩
/-! ### subscripts -/
def ixM : MV → MV → AH → Rs MV := fun o i A => match dctV A o with
  | some kvs => (match keyOf i with
    | some k => (match valM kvs k with
      | some v => .ok v A
      | none => .bad)
    | none => .bad)
  | none => match i with
    | .int j => (match tupOf o with
      | some xs => (match atI xs j with
        | some v => .ok v A
        | none => .bad)
      | none => match lstV A o with
        | some xs => (match atI xs j with
          | some v => .ok v A
          | none => .bad)
        | none => match o with
          | .str z => (match atI z.cps.toList j with
            | some c => if z.length ≤ 1000000 then .ok (.str ⟨#[c]⟩) A else .bad
            | none => .bad)
          | _ => .bad)
    | _ => .bad
theorem ix_dict (hr : Room k X.A) : IxR X (fun x y H Q => ∃ a v, x = .ref a ∧ DGet H a y (some v) ∧ Q v H) := by
  intro value slice pins s σ H x y v u Q I rx ry q hs
  obtain ⟨a, w, rfl, g, q⟩ := q
  cases rx
  exact tail_any (dict_typeIs I g) PySem.F.slot_dict_getitem.lookup (d_getItem (hu_of hr) I g ry fun w' s' I' r' => ⟨w, H, I', r', q⟩) hs
theorem RVs.atI {K : PySem.W.Frag} {ι : Io} {H : Hp} {vs : List MV} {xs : List V} {i : Int} {m : MV} (r : RVs K ι H vs xs) (h : L2.atI vs i = some m) : ∃ b, L2.atI xs i = some b ∧ RV K ι H m b := by
  unfold L2.atI at h ⊢
  rw [← r.length]
  cases q : ixN vs.length i with
  | none => rw [q] at h; cases h
  | some j =>
    rw [q] at h
    exact r.get h
/-- a subscript and its plain function -/
structure IxM (X : Cx) (W : Wi) (g : MV → MV → AH → Rs MV) : Prop where
  ex : ∃ r, IxR X r ∧ OpS X W r g
theorem ix_M (hr : Room k X.A) : IxM X W ixM := ⟨_, (ix_dict hr).or ix_seq, fun {σ ι H A x y u v Q} S rx ry h => by
  unfold ixM at h
  split at h
  · rename_i kvs ed
    split at h
    · rename_i kk ek
      split at h
      · rename_i m em
        obtain ⟨a, ps, rfl, hd, rk⟩ := S.dctV rx ed
        have eu := keyOf_rel ry ek
        subst eu
        obtain ⟨b, eb, rb⟩ := (rk.val (k := kk)).1 m em
        refine .inl ⟨a, b, rfl, ?_, h.ok0 ⟨S, rb⟩⟩
        rw [← eb]
        exact DGet.rd hd
      · exact h.elim
    · exact h.elim
  · split at h
    · cases ry
      split at h
      · rename_i xs et
        split at h
        · rename_i m em
          obtain ⟨a, ys, rfl, sq, rs⟩ := rx.sqT et
          obtain ⟨b, eb, rb⟩ := rs.atI em
          exact .inr (.inr (.inl ⟨a, ys, _, b, rfl, rfl, sq, eb, h.ok0 ⟨S, rb⟩⟩))
        · exact h.elim
      · split at h
        · rename_i xs et
          split at h
          · rename_i m em
            obtain ⟨a, ys, rfl, sq, rs⟩ := S.lstV rx et
            obtain ⟨b, eb, rb⟩ := rs.atI em
            exact .inr (.inl ⟨a, ys, _, b, rfl, rfl, sq, eb, h.ok0 ⟨S, rb⟩⟩)
          · exact h.elim
        · split at h
          · split at h
            · rename_i c ec
              split at h
              · rename_i hl
                cases rx
                exact .inr (.inr (.inr ⟨_, _, c, rfl, rfl, lim hl, ec, h.ok0 ⟨S, .str _⟩⟩))
              · exact h.elim
            · exact h.elim
          · exact h.elim
    · exact h.elim⟩
theorem m_ix {g : MV → MV → AH → Rs MV} {a b : Expr} {fa fb : FE} {pos : Pos} (hi : IxM X W g) (ha : PE X a (tM X.K W fa)) (hb : PE X b (tM X.K W fb)) (hs : PlainIx b := by intro _ _; rfl) : PE X (.Subscript a b pos) (tM X.K W (eBin g fa fb)) := by
  obtain ⟨r, hr, hs'⟩ := hi.ex
  exact (pe_ix hr ha hb hs).imp fun σ H Q ⟨ι, A, ρ, S, E, h⟩ => RP_bind S E h fun ι1 A1 x u H1 e1 ⟨S1, r1⟩ h1 => RP_bind S1 (E.ext e1) h1 fun ι2 A2 y v H2 e2 ⟨S2, r2⟩ h2 => hs' S2 (r1.ext e2) r2 h2
/-! ### slices -/
abbrev FO := ME → AH → Rs (Option Int)
def oNone : FO := fun _ A => .ok none A
def oSome (f : FE) : FO := fun ρ A => (f ρ A).bind fun v A => match v with
  | .int i => .ok (some i) A
  | _ => .bad
abbrev rO (K : PySem.W.Frag) : Rel (Option Int) (Option Int) := fun _ _ ι' H' A' a b => Sim K ι' A' H' ∧ a = b
theorem _root_.L2.PO.imp {X : Cx} {e : Option Expr} {t t' : TO} (h : PO X e t) (i : ∀ σ H Q, t' σ H Q → t σ H Q) : PO X e t' := ⟨fun pins s σ H Q I q => h.run pins s σ H Q I (i σ H Q q)⟩
abbrev tMO (K : PySem.W.Frag) (W : Wi) (f : FO) : TO := tG K W (rO K) f
theorem mo_none : PO X none (tMO X.K W oNone) := po_none.imp fun σ H Q ⟨ι, A, ρ, S, E, h⟩ => RP.ok0 h ⟨S, rfl⟩
theorem mo_some {e : Expr} {f : FE} (h : PE X e (tM X.K W f)) : PO X (some e) (tMO X.K W (oSome f)) := (po_some h).imp fun σ H Q ⟨ι, A, ρ, S, E, h⟩ => RP_bind S E h fun ι1 A1 x u H1 e1 ⟨S1, r1⟩ h1 => by
  cases r1 with
  | int i => exact ⟨i, rfl, RP.ok0 h1 ⟨S1, rfl⟩⟩
  | _ => exact h1.elim
def cutM {α : Type} (xs : List α) (lo hi : Option Int) : List α := (xs.drop (HT.sIx xs.length 0 lo)).take (HT.sIx xs.length xs.length hi - HT.sIx xs.length 0 lo)
def aSl (f : FE) (l h : FO) : FL := fun ρ A => (f ρ A).bind fun v A => (l ρ A).bind fun lo A => (h ρ A).bind fun hi A => match lstV A v with
  | some xs => .ok (cutM xs lo hi) A
  | none => .bad
theorem RVs.cut {K : PySem.W.Frag} {ι : Io} {H : Hp} {vs : List MV} {xs : List V} (r : RVs K ι H vs xs) (lo hi : Option Int) : RVs K ι H (cutM vs lo hi) (cutV xs lo hi) := by
  unfold cutM cutV
  rw [r.length]
  exact (r.drop _).take _
theorem ml_slice {e : Expr} {lo hi : Option Expr} {f : FE} {l h : FO} {p2 pos : Pos} (he : PE X e (tM X.K W f)) (hl : PO X lo (tMO X.K W l)) (hh : PO X hi (tMO X.K W h)) : PE X (.Subscript e (.Slice lo hi none p2) pos) (tML X.K W (aSl f l h)) :=
  (pe_slice sl_list he hl hh).imp fun σ H Q ⟨ι, A, ρ, S, E, h⟩ => RP_bind S E h fun ι1 A1 x u H1 e1 ⟨S1, r1⟩ h1 => RP_bind S1 (E.ext e1) h1 fun ι2 A2 y v H2 e2 ⟨S2, r2⟩ h2 => RP_bind S2 (E.ext (e1.trans e2)) h2 fun ι3 A3 z w H3 e3 ⟨S3, r3⟩ h3 => by
    cases r2
    cases r3
    cases q : lstV A3 x with
    | none => rw [q] at h3; exact h3.elim
    | some xs =>
      rw [q] at h3
      obtain ⟨a, ys, rfl, sq, rs⟩ := S3.lstV (r1.ext (e2.trans e3)) q
      exact ⟨a, ys, rfl, sq, fun p hp => h3.newL S3 hp (rs.cut _ _)⟩
def eSlS (f : FE) (l h : FO) : FE := fun ρ A => (f ρ A).bind fun v A => (l ρ A).bind fun lo A => (h ρ A).bind fun hi A => match v with
  | .str z => if z.length ≤ 1000000 then .ok (.str (cutS z lo hi)) A else .bad
  | _ => .bad
theorem m_sliceS {e : Expr} {lo hi : Option Expr} {f : FE} {l h : FO} {p2 pos : Pos} (he : PE X e (tM X.K W f)) (hl : PO X lo (tMO X.K W l)) (hh : PO X hi (tMO X.K W h)) : PE X (.Subscript e (.Slice lo hi none p2) pos) (tM X.K W (eSlS f l h)) :=
  (pe_slice sl_str he hl hh).imp fun σ H Q ⟨ι, A, ρ, S, E, h⟩ => RP_bind S E h fun ι1 A1 x u H1 e1 ⟨S1, r1⟩ h1 => RP_bind S1 (E.ext e1) h1 fun ι2 A2 y v H2 e2 ⟨S2, r2⟩ h2 => RP_bind S2 (E.ext (e1.trans e2)) h2 fun ι3 A3 z w H3 e3 ⟨S3, r3⟩ h3 => by
    cases r2
    cases r3
    cases r1 with
    | str z =>
      dsimp only at h3
      split at h3
      · rename_i hz
        exact ⟨z, rfl, lim hz, h3.ok0 ⟨S3, .str _⟩⟩
      · exact h3.elim
    | _ => exact h3.elim
end
end Mv
/-! Mv7: built-in functions, methods of built-in things, stores -/
namespace Mv
open PySem PySem.Spec PyProof.Rows L2 Fk
/-! ### sorted texts -/
def insS (x : Str) : List Str → List Str
  | [] => [x]
  | y :: r => if ltS y x then y :: insS x r else x :: y :: r
def sortS : List Str → List Str
  | [] => []
  | x :: r => insS x (sortS r)
theorem insS_perm (x : Str) : ∀ l, (insS x l).Perm (x :: l)
  | [] => List.Perm.refl _
  | y :: r => by
    unfold insS
    split
    · exact (List.Perm.cons y (insS_perm x r)).trans (List.Perm.swap x y r)
    · exact List.Perm.refl _
theorem sortS_perm : ∀ l, (sortS l).Perm l
  | [] => List.Perm.refl _
  | x :: r => (insS_perm x (sortS r)).trans (List.Perm.cons x (sortS_perm r))
theorem ltS_iff {x y : Str} : ltS x y = true ↔ x.cps.toList < y.cps.toList := by
  unfold ltS
  exact decide_eq_true_iff
theorem ltS_irrefl (x : Str) : ltS x x = false := by
  unfold ltS
  exact decide_eq_false (List.lt_irrefl _)
theorem ltS_trans {x y z : Str} (h : ltS x y = true) (h' : ltS y z = true) : ltS x z = true := ltS_iff.mpr (List.lt_trans (ltS_iff.mp h) (ltS_iff.mp h'))
theorem ltS_conn {x y : Str} (h : ltS x y = false) (h' : ltS y x = false) : x = y := by
  have h1 : ¬ x.cps.toList < y.cps.toList := fun z => by rw [ltS_iff.mpr z] at h; cases h
  have h2 : ¬ y.cps.toList < x.cps.toList := fun z => by rw [ltS_iff.mpr z] at h'; cases h'
  have e : x.cps.toList = y.cps.toList := List.le_antisymm (List.not_lt.mp h2) (List.not_lt.mp h1)
  obtain ⟨⟨a⟩⟩ := x
  obtain ⟨⟨b⟩⟩ := y
  simp at e
  rw [e]
theorem ltS_asymm {x y : Str} (h : ltS x y = true) : ltS y x = false := by
  cases q : ltS y x with
  | false => rfl
  | true =>
    have := ltS_trans h q
    rw [ltS_irrefl] at this
    cases this
/-- ascending, equal ones allowed -/
def AscS (l : List Str) : Prop := l.Pairwise fun a b => ltS b a = false
theorem le_transS {x y z : Str} (h : ltS y x = false) (h' : ltS z y = false) : ltS z x = false := by
  cases q : ltS z x with
  | false => rfl
  | true =>
    cases q2 : ltS y z with
    | true =>
      have := ltS_trans q2 q
      rw [h] at this
      cases this
    | false =>
      have e := ltS_conn q2 h'
      subst e
      rw [h] at q
      cases q
theorem insS_asc (x : Str) : ∀ l, AscS l → AscS (insS x l)
  | [], _ => List.pairwise_singleton _ _
  | y :: r, h => by
    obtain ⟨h1, h2⟩ := List.pairwise_cons.mp h
    unfold insS
    split
    · rename_i q
      refine List.pairwise_cons.mpr ⟨fun z hz => ?_, insS_asc x r h2⟩
      rcases List.mem_cons.mp ((insS_perm x r).mem_iff.mp hz) with e | e
      · rw [e]
        exact ltS_asymm q
      · exact h1 z e
    · rename_i q
      have q : ltS y x = false := by simpa using q
      refine List.pairwise_cons.mpr ⟨fun z hz => ?_, h⟩
      rcases List.mem_cons.mp hz with e | e
      · rw [e]
        exact q
      · exact le_transS q (h1 z e)
theorem sortS_asc : ∀ l, AscS (sortS l)
  | [] => List.Pairwise.nil
  | x :: r => insS_asc x _ (sortS_asc r)
theorem asc_unique : ∀ {l m : List Str}, l.Perm m → AscS l → AscS m → l = m
  | [], m, p, _, _ => (List.nil_perm.mp p).symm
  | x :: l, [], p, _, _ => by simpa using p.length_eq
  | x :: l, y :: m, p, h, h' => by
    obtain ⟨h1, h2⟩ := List.pairwise_cons.mp h
    obtain ⟨h3, h4⟩ := List.pairwise_cons.mp h'
    have e : x = y := by
      have hx : x ∈ y :: m := p.mem_iff.mp (List.mem_cons_self ..)
      have hy : y ∈ x :: l := p.mem_iff.mpr (List.mem_cons_self ..)
      rcases List.mem_cons.mp hx with e | e
      · exact e
      · rcases List.mem_cons.mp hy with e' | e'
        · exact e'.symm
        · exact ltS_conn (h3 x e) (h1 y e') 
    subst e
    rw [asc_unique ((List.perm_cons x).mp p) h2 h4]
theorem asc_of_sortedS : ∀ {l : List Str}, PyProof.Rows.sortedS l = true → AscS l
  | [], _ => List.Pairwise.nil
  | x :: r, h => by
    have key : ∀ (r : List Str) (x : Str), PyProof.Rows.risingS x r = true → AscS (x :: r) := by
      intro r
      induction r with
      | nil => exact fun x _ => List.pairwise_singleton _ _
      | cons y r ih =>
        intro x h
        obtain ⟨h1, h2⟩ := Bool.and_eq_true_iff.mp (show (!Spec.ltCps y.cps.toList x.cps.toList && PyProof.Rows.risingS y r) = true from h)
        have h1 : ltS y x = false := by
          rw [ltCps_eq] at h1
          unfold ltS
          simpa using h1
        have hr := ih y h2
        refine List.pairwise_cons.mpr ⟨fun z hz => ?_, hr⟩
        rcases List.mem_cons.mp hz with e | e
        · rw [e]
          exact h1
        · exact le_transS h1 (List.rel_of_pairwise_cons hr e)
    exact key r x h
theorem sorted_is {l m : List Str} (p : l.Perm m) (h : PyProof.Rows.sortedS l = true) : l = sortS m := asc_unique (p.trans (sortS_perm m).symm) (asc_of_sortedS h) (sortS_asc m)
/-! ### calls of built-ins -/
def CallS {α : Type} (X : Cx) (W : Wi) (R : Rel α V) (r : List V → Hp → VK → Prop) (g : List MV → AH → Rs α) : Prop := ∀ {σ : L2.St} {ι : Io} {H : Hp} {A : AH} {ms : List MV} {vs : List V} {Q : VK}, Sim X.K ι A H → RVs X.K ι H ms vs → RP X.K W σ R ι H (g ms A) Q → r vs H Q
section
variable {X : Cx} {W : Wi} {k : Nat} {x : Str} {e e2 : Expr} {es : List Expr} {g : FL} {p pos : Pos}
theorem m_cB {α : Type} {R : Rel α V} [Mono R] {id : String} {r : List V → Hp → VK → Prop} {F : List MV → AH → Rs α} (hc : CallR X (.builtin id) r) (hs : CallS X W R r F) (hm : X.mg x = none) (hv : bootBuiltins x = some (.builtin id)) (ha : PA X (e :: es) (tMA X.K W g)) (hg : Gl X x := by rfl) (hn : x ≠ "__name__" := by decide) (hdb : (x == ("__debug__" : Str)) = false := by decide)
    (he : starEach (e :: es) X.env = (false, eval e X.env) :: starEach es X.env := by rfl) (hpl : (backTo pos (starEach es X.env)).any (·.1) = false := by rfl) : PE X (.Call (.Name x p) (e :: es) [] pos) (tG X.K W R fun ρ A => (g ρ A).bind F) :=
  (pe_callB hc hg hm hv ha hn hdb he hpl).imp fun σ H Q ⟨ι, A, ρ, S, E, h⟩ => RP_bind S E h fun ι1 A1 ms vs H1 e1 ⟨S1, r1⟩ h1 => hs S1 r1 h1
theorem m_cT {α : Type} {R : Rel α V} [Mono R] {id : String} {r : List V → Hp → VK → Prop} {F : List MV → AH → Rs α} (hc : CallR X (.type id) r) (hs : CallS X W R r F) (hm : X.mg x = none) (hv : bootBuiltins x = some (.type id)) (ha : PA X (e :: es) (tMA X.K W g)) (hg : Gl X x := by rfl) (hn : x ≠ "__name__" := by decide) (hdb : (x == ("__debug__" : Str)) = false := by decide)
    (he : starEach (e :: es) X.env = (false, eval e X.env) :: starEach es X.env := by rfl) (hpl : (backTo pos (starEach es X.env)).any (·.1) = false := by rfl) : PE X (.Call (.Name x p) (e :: es) [] pos) (tG X.K W R fun ρ A => (g ρ A).bind F) :=
  (pe_callTy hc hg hm hv ha hn hdb he hpl).imp fun σ H Q ⟨ι, A, ρ, S, E, h⟩ => RP_bind S E h fun ι1 A1 ms vs H1 e1 ⟨S1, r1⟩ h1 => hs S1 r1 h1
/-- len -/
def lenM : List MV → AH → Rs MV := fun ms A => match ms with
  | [v] => (match tupOf v with
    | some xs => .ok (.int xs.length) A
    | none => match lstV A v with
      | some xs => .ok (.int xs.length) A
      | none => match dctV A v with
        | some kvs => .ok (.int kvs.length) A
        | none => match v with
          | .str z => if z.length ≤ 1000000 then .ok (.int z.length) A else .bad
          | _ => .bad)
  | _ => .bad
theorem call_lenRd : CallR X (.builtin "len") (fun xs H Q => ∃ a kvs, xs = [V.ref a] ∧ Rd H a (.dK kvs) ∧ Q (.int kvs.length) H) := by
  intro pins s σ H xs us Q I r h
  obtain ⟨a, kvs, rfl, hd, q⟩ := h
  rw [Vals.ref1 r]
  exact d_len I hd fun t s' I' => ⟨.int _, H, I', ⟨_, rfl⟩, q⟩
theorem lenS : CallS X W (rV X.K) (fun xs H Q => (∃ p ys, xs = [.ref p] ∧ (SqL X.K H p ys ∨ SqT X.K H p ys) ∧ Q (.int ys.length) H) ∨ (∃ z, xs = [.str z] ∧ z.length ≤ sizeLine ∧ Q (.int z.length) H) ∨ ∃ a kvs, xs = [V.ref a] ∧ Rd H a (.dK kvs) ∧ Q (.int kvs.length) H) lenM := fun {σ ι H A ms vs Q} S r h => by
  unfold lenM at h
  split at h
  · cases r with
    | cons rv rr =>
      cases rr
      split at h
      · rename_i xs et
        obtain ⟨a, ys, rfl, sq, rs⟩ := rv.sqT et
        rw [rs.length] at h
        exact .inl ⟨a, ys, rfl, .inr sq, h.ok0 ⟨S, .int _⟩⟩
      · split at h
        · rename_i xs et
          obtain ⟨a, ys, rfl, sq, rs⟩ := S.lstV rv et
          rw [rs.length] at h
          exact .inl ⟨a, ys, rfl, .inl sq, h.ok0 ⟨S, .int _⟩⟩
        · split at h
          · rename_i kvs et
            obtain ⟨a, ps, rfl, hd, rk⟩ := S.dctV rv et
            rw [rk.length] at h
            exact .inr (.inr ⟨a, ps, rfl, hd, h.ok0 ⟨S, .int _⟩⟩)
          · split at h
            · split at h
              · rename_i hl
                cases rv
                exact .inr (.inl ⟨_, rfl, lim hl, h.ok0 ⟨S, .int _⟩⟩)
              · exact h.elim
            · exact h.elim
  · exact h.elim
theorem m_len (hm : X.mg "len" = none) (ha : PA X [e] (tMA X.K W g)) (hg : Gl X "len" := by rfl) (he : starEach [e] X.env = (false, eval e X.env) :: starEach [] X.env := by rfl) : PE X (.Call (.Name "len" p) [e] [] pos) (tM X.K W fun ρ A => (g ρ A).bind lenM) :=
  m_cB (call_len_seq.or (call_len_str.or call_lenRd)) lenS hm PySem.boot_len ha hg (he := he)
/-- int(x) -/
def intM : List MV → AH → Rs MV := fun ms A => match ms with
  | [.int i] => .ok (.int i) A
  | [.bl b] => .ok (.int (if b then 1 else 0)) A
  | _ => .bad
theorem m_int1 (hm : X.mg "int" = none) (ha : PA X [e] (tMA X.K W g)) (hg : Gl X "int" := by rfl) (he : starEach [e] X.env = (false, eval e X.env) :: starEach [] X.env := by rfl) : PE X (.Call (.Name "int" p) [e] [] pos) (tM X.K W fun ρ A => (g ρ A).bind intM) :=
  m_cT call_int1 (fun {σ ι H A ms vs Q} S r h => by
    unfold intM at h
    split at h
    · cases r with
      | cons rv rr =>
        cases rr
        cases rv
        exact .inl ⟨_, rfl, h.ok0 ⟨S, .int _⟩⟩
    · cases r with
      | cons rv rr =>
        cases rr
        cases rv
        exact .inr ⟨_, rfl, h.ok0 ⟨S, .int _⟩⟩
    · exact h.elim) hm PyProof.Rows.boot_int ha hg (he := he)
/-- all, any -/
def blsOf : List MV → Option (List Bool)
  | [] => some []
  | .bl b :: r => (blsOf r).map (b :: ·)
  | _ => none
theorem blsOf_rel {K : PySem.W.Frag} {ι : Io} {H : Hp} : ∀ {vs : List MV} {xs : List V} {bs : List Bool}, RVs K ι H vs xs → blsOf vs = some bs → xs = bs.map V.bl
  | _, _, _, .nil, e => by cases e; rfl
  | _, _, bs, .cons a b, e => by
    cases a with
    | bl k =>
      obtain ⟨cs, e1, rfl⟩ := Option.map_eq_some_iff.mp (show (blsOf _).map (k :: ·) = some bs from e)
      rw [blsOf_rel b e1]
      rfl
    | _ => cases e
def allM (f : List Bool → Bool) : List MV → AH → Rs MV := fun ms A => match ms with
  | [v] => (match lstV A v with
    | some xs => (match blsOf xs with
      | some bs => .ok (.bl (f bs)) A
      | none => .bad)
    | none => .bad)
  | _ => .bad
theorem allS {f : List Bool → Bool} : CallS X W (rV X.K) (fun vs H Q => ∃ (a : Addr) (bs : List Bool), vs = [V.ref a] ∧ SqL X.K H a (bs.map V.bl) ∧ Q (.bl (f bs)) H) (allM f) := fun {σ ι H A ms vs Q} S r h => by
  unfold allM at h
  split at h
  · cases r with
    | cons rv rr =>
      cases rr
      split at h
      · rename_i xs et
        split at h
        · rename_i bs eb
          obtain ⟨a, ys, rfl, sq, rs⟩ := S.lstV rv et
          rw [blsOf_rel rs eb] at sq
          exact ⟨a, bs, rfl, sq, h.ok0 ⟨S, .bl _⟩⟩
        · exact h.elim
      · exact h.elim
  · exact h.elim
theorem m_all (hc : X.calm = true) (hm : X.mg "all" = none) (ha : PA X [e] (tMA X.K W g)) (hg : Gl X "all" := by rfl) (he : starEach [e] X.env = (false, eval e X.env) :: starEach [] X.env := by rfl) : PE X (.Call (.Name "all" p) [e] [] pos) (tM X.K W fun ρ A => (g ρ A).bind (allM fun bs => bs.all id)) :=
  m_cB (cr_all hc) allS hm PyProof.Rows.boot_all ha hg (he := he)
theorem m_any (hc : X.calm = true) (hm : X.mg "any" = none) (ha : PA X [e] (tMA X.K W g)) (hg : Gl X "any" := by rfl) (he : starEach [e] X.env = (false, eval e X.env) :: starEach [] X.env := by rfl) : PE X (.Call (.Name "any" p) [e] [] pos) (tM X.K W fun ρ A => (g ρ A).bind (allM fun bs => bs.any id)) :=
  m_cB (cr_any hc) allS hm (by decide +kernel) ha hg (he := he)
/-- texts -/
def strsOf : List MV → Option (List Str)
  | [] => some []
  | .str b :: r => (strsOf r).map (b :: ·)
  | _ => none
theorem strsOf_rel {K : PySem.W.Frag} {ι : Io} {H : Hp} : ∀ {vs : List MV} {xs : List V} {bs : List Str}, RVs K ι H vs xs → strsOf vs = some bs → xs = bs.map V.str
  | _, _, _, .nil, e => by cases e; rfl
  | _, _, bs, .cons a b, e => by
    cases a with
    | str k =>
      obtain ⟨cs, e1, rfl⟩ := Option.map_eq_some_iff.mp (show (strsOf _).map (k :: ·) = some bs from e)
      rw [strsOf_rel b e1]
      rfl
    | _ => cases e
theorem rvs_strs {K : PySem.W.Frag} {ι : Io} {H : Hp} : ∀ ys : List Str, RVs K ι H (ys.map MV.str) (ys.map V.str)
  | [] => .nil
  | y :: ys => .cons (.str y) (rvs_strs ys)
def keyStrs : List (Key × MV) → Option (List Str)
  | [] => some []
  | (.inr b, _) :: r => (keyStrs r).map (b :: ·)
  | _ => none
theorem keyStrs_rel : ∀ {kvs : List (Key × MV)} {bs : List Str}, keyStrs kvs = some bs → kvs.map (·.1) = bs.map Sum.inr
  | [], _, e => by cases e; rfl
  | (.inr b, m) :: r, bs, e => by
    obtain ⟨cs, e1, rfl⟩ := Option.map_eq_some_iff.mp (show (keyStrs r).map (b :: ·) = some bs from e)
    rw [List.map_cons, keyStrs_rel e1]
    rfl
  | (.inl b, m) :: r, bs, e => by cases e
/-- sorted(texts) -/
def sortedL : List MV → AH → Rs (List MV) := fun ms A => match ms with
  | [v] => (match dctV A v with
    | some kvs => (match keyStrs kvs with
      | some ks => if ks.length < 64 then .ok ((sortS ks).map MV.str) A else .bad
      | none => .bad)
    | none => match lstV A v with
      | some xs => (match strsOf xs with
        | some ks => if ks.length < 64 then .ok ((sortS ks).map MV.str) A else .bad
        | none => .bad)
      | none => .bad)
  | _ => .bad
theorem sortedLS : CallS X W (rL X.K) (fun vs H Q => (∃ (a : Addr) (kvs : List (Key × V)) (ks : List Str), vs = [.ref a] ∧ Rd H a (.dK kvs) ∧ kvs.map (·.1) = ks.map Sum.inr ∧ ks.length < 64 ∧ ∀ ys p, ys.Perm ks → PyProof.Rows.sortedS ys = true → H p = none → Q (.ref p) (upd H p (.lst (ys.map V.str)))) ∨ rSortedS X.K vs H Q) sortedL := fun {σ ι H A ms vs Q} S r h => by
  unfold sortedL at h
  split at h
  · cases r with
    | cons rv rr =>
      cases rr
      split at h
      · rename_i kvs ed
        split at h
        · rename_i ks ek
          split at h
          · rename_i hl
            obtain ⟨a, ps, rfl, hd, rk⟩ := S.dctV rv ed
            refine .inl ⟨a, ps, ks, rfl, hd, by rw [← rk.keys, keyStrs_rel ek], hl, fun ys p hp hs hn => ?_⟩
            rw [sorted_is hp hs]
            exact h.newL S hn (rvs_strs _)
          · exact h.elim
        · exact h.elim
      · split at h
        · rename_i xs ed
          split at h
          · rename_i ks ek
            split at h
            · rename_i hl
              obtain ⟨a, ys, rfl, sq, rs⟩ := S.lstV rv ed
              rw [strsOf_rel rs ek] at sq
              refine .inr ⟨a, ks, rfl, sq, hl, fun ys p hp hs hn => ?_⟩
              rw [sorted_is hp hs]
              exact h.newL S hn (rvs_strs _)
            · exact h.elim
          · exact h.elim
        · exact h.elim
  · exact h.elim
theorem ml_sorted (hc : X.calm = true) (hm : X.mg "sorted" = none) (ha : PA X [e] (tMA X.K W g)) (hg : Gl X "sorted" := by rfl) (he : starEach [e] X.env = (false, eval e X.env) :: starEach [] X.env := by rfl) : PE X (.Call (.Name "sorted" p) [e] [] pos) (tML X.K W fun ρ A => (g ρ A).bind sortedL) :=
  m_cB ((call_sortedD hc).or cr_sortedS) sortedLS hm PyProof.Rows.boot_sorted ha hg (he := he)
/-- tuple(x) -/
def tupleM : List MV → AH → Rs MV := fun ms A => match ms with
  | [v] => (match tupOf v with
    | some _ => .ok v A
    | none => match lstV A v with
      | some xs => .ok (.tup xs) A
      | none => .bad)
  | _ => .bad
theorem m_tuple (hm : X.mg "tuple" = none) (ha : PA X [e] (tMA X.K W g)) (hg : Gl X "tuple" := by rfl) (he : starEach [e] X.env = (false, eval e X.env) :: starEach [] X.env := by rfl) : PE X (.Call (.Name "tuple" p) [e] [] pos) (tM X.K W fun ρ A => (g ρ A).bind tupleM) :=
  m_cT call_tuple_of (fun {σ ι H A ms vs Q} S r h => by
    unfold tupleM at h
    split at h
    · cases r with
      | cons rv rr =>
        cases rr
        split at h
        · rename_i xs et
          have rv' := rv
          obtain ⟨a, ys, rfl, sq, rs⟩ := rv.sqT et
          exact ⟨a, ys, rfl, .inr ⟨sq, h.ok0 ⟨S, rv'⟩⟩⟩
        · split at h
          · rename_i xs et
            obtain ⟨a, ys, rfl, sq, rs⟩ := S.lstV rv et
            exact ⟨a, ys, rfl, .inl ⟨sq, fun l hl => h.new S hl (new_tup S hl rs)⟩⟩
          · exact h.elim
    · exact h.elim) hm PyProof.Rows.boot_tuple ha hg (he := he)
/-- tuple(list), known to be plain -/
def tupleP : List MV → AH → Rs MV := fun ms A => match ms with
  | [v] => (match lstV A v with
    | some xs => .ok (.ptp xs) A
    | none => .bad)
  | _ => .bad
theorem call_tupleF : CallR X (.type "tuple") (fun xs H Q => ∃ p ys, xs = [.ref p] ∧ SqL X.K H p ys ∧ ∀ l ob, ob.dict = none → H l = none → Q (.ref l) (upd H l (.frz ob (.tup ys)))) := by
  intro pins s σ H xs us Q I r h
  obtain ⟨p, ys, rfl, hq, q⟩ := h
  obtain ⟨u, rfl, rx⟩ := vals1 r
  cases rx
  obtain ⟨its, r', pl, hz⟩ := I.list hq
  have hlen := r'.length
  refine call_tuple_list pl.isList (fun h' kp => ?_) (by simp only [List.size_toArray] <;> omega)
  have I1 : Inv X pins σ H { s with heap := h' } := I.kept (t' := s.toks) kp
  have I2 : Inv X pins σ (upd H h'.objs.size (.frz { cls := .type "tuple", data := .seq its.toArray } (.tup ys))) { s with heap := h'.push { cls := .type "tuple", data := .seq its.toArray } } :=
    I1.laid (t' := s.toks) (fun b o e => Heap.get?_push_of_some _ e) (Nat.le_refl _) (show ObjOk X.prog X.w _ _ _ (.frz _ (.tup ys)) from ⟨Heap.get?_push_size _ rfl, hz, its, r', IsTup.new _ _⟩)
  exact ⟨.ref h'.objs.size, _, I2, rfl, q _ _ rfl (I1.hok.fresh (Nat.le_refl _))⟩
theorem new_ptp {K : PySem.W.Frag} {ι : Io} {H : Hp} {A : AH} {vs : List MV} {xs : List V} {p : Addr} {ob : Obj} (S : Sim K ι A H) (hp : H p = none) (hd : ob.dict = none) (r : RVs K ι H vs xs) : RV K ι (upd H p (.frz ob (.tup xs))) (.ptp vs) (.ref p) := .ptp (S.outA hp) upd_same hd (r.ext (Ext.new1 hp))
theorem m_tupleP (hm : X.mg "tuple" = none) (ha : PA X [e] (tMA X.K W g)) (hg : Gl X "tuple" := by rfl) (he : starEach [e] X.env = (false, eval e X.env) :: starEach [] X.env := by rfl) : PE X (.Call (.Name "tuple" p) [e] [] pos) (tM X.K W fun ρ A => (g ρ A).bind tupleP) :=
  m_cT call_tupleF (fun {σ ι H A ms vs Q} S r h => by
    unfold tupleP at h
    split at h
    · cases r with
      | cons rv rr =>
        cases rr
        split at h
        · rename_i xs et
          obtain ⟨a, ys, rfl, sq, rs⟩ := S.lstV rv et
          exact ⟨a, ys, rfl, sq, fun l ob hd hl => h.new S hl (new_ptp S hl hd rs)⟩
        · exact h.elim
    · exact h.elim) hm PyProof.Rows.boot_tuple ha hg (he := he)
/-- (), known to be plain -/
theorem m_tup0 {x1 : Nat} : PE X (.Tuple [] x1 pos) (tM X.K W (eC (.ptp []))) := ⟨fun pins s σ H Q I ⟨ι, A, ρ, S, E, h⟩ => by
  refine wpAny_Tuple_spliced (thn (pa_nil.run pos pins s σ H (fun vs H' => vs = [] ∧ H' = H) I ⟨rfl, rfl⟩) fun us s1 ⟨xs, H1, I1, r, e1, e2⟩ => ?_)
  subst e1 e2
  cases r
  refine ⟨Nat.zero_le _, ?_⟩
  have hf : H1 s1.heap.objs.size = none := I1.hok.fresh (Nat.le_refl _)
  refine ⟨.ref s1.heap.objs.size, upd H1 s1.heap.objs.size (.frz { cls := .type "tuple", data := .seq #[] } (.tup [])), I1.laid (t' := s1.toks) (fun b u e => Heap.get?_push_of_some _ e) (Nat.le_refl _) ?_, rfl, ?_⟩
  · exact ⟨Heap.get?_push_size _ rfl, Nat.zero_le _, [], .nil, ⟨_, Heap.get?_push_size _ rfl, rfl, _, rfl⟩⟩
  · exact h.new S hf (new_ptp S hf rfl .nil)⟩
/-- list(x) -/
def listL : List MV → AH → Rs (List MV) := fun ms A => match ms with
  | [v] => (match tupOf v with
    | some xs => .ok xs A
    | none => match lstV A v with
      | some xs => .ok xs A
      | none => .bad)
  | _ => .bad
theorem ml_list (hm : X.mg "list" = none) (ha : PA X [e] (tMA X.K W g)) (hg : Gl X "list" := by rfl) (he : starEach [e] X.env = (false, eval e X.env) :: starEach [] X.env := by rfl) : PE X (.Call (.Name "list" p) [e] [] pos) (tML X.K W fun ρ A => (g ρ A).bind listL) :=
  m_cT call_list_of (fun {σ ι H A ms vs Q} S r h => by
    unfold listL at h
    split at h
    · cases r with
      | cons rv rr =>
        cases rr
        split at h
        · rename_i xs et
          obtain ⟨a, ys, rfl, sq, rs⟩ := rv.sqT et
          exact ⟨a, ys, rfl, .inr sq, fun l hl => h.newL S hl rs⟩
        · split at h
          · rename_i xs et
            obtain ⟨a, ys, rfl, sq, rs⟩ := S.lstV rv et
            exact ⟨a, ys, rfl, .inl sq, fun l hl => h.newL S hl rs⟩
          · exact h.elim
    · exact h.elim) hm PyProof.Rows.boot_list ha hg (he := he)
/-! ### dicts -/
theorem RP.newD {K : PySem.W.Frag} {σ : L2.St} {ι : Io} {H : Hp} {A : AH} {kvs : List (Key × MV)} {ps : List (Key × V)} {Q : V → Hp → Prop} {p : Addr} (h : RP K W σ (rV K) ι H (.ok (.ref A.length) (A ++ [.dct kvs])) Q) (S : Sim K ι A H) (hp : H p = none) (r : RKs K ι H kvs ps) : Q (.ref p) (upd H p (.dK ps)) :=
  h ⟨ι.tr ++ [p], ι.pv⟩ _ _ (Ext.push hp) ⟨S.push hp (.dct upd_same (r.ext (Ext.push hp))), .ref (tr_last S p)⟩
/-- pairs of values -/
def pairsOfM : List MV → Option (List (Key × MV))
  | [] => some []
  | v :: r => match tupOf v with
    | some [k, m] => (match keyOf k, pairsOfM r with
      | some key, some l => some ((key, m) :: l)
      | _, _ => none)
    | _ => none
def mergeM (kvs more : List (Key × MV)) : List (Key × MV) := more.foldl (fun acc kv => putM acc kv.1 kv.2) kvs
theorem RKs.merge {K : PySem.W.Frag} {ι : Io} {H : Hp} : ∀ {more : List (Key × MV)} {rs : List (Key × V)} {kvs : List (Key × MV)} {ps : List (Key × V)}, RKs K ι H more rs → RKs K ι H kvs ps → RKs K ι H (mergeM kvs more) (mergeK ps rs)
  | _, _, _, _, .nil, q => q
  | _, _, _, _, .cons (k := k) a b, q => by
    have := RKs.merge b (RKs.put (k := k) a q)
    exact this
theorem pairsOf_rel {K : PySem.W.Frag} {ι : Io} {H : Hp} : ∀ {vs : List MV} {xs : List V} {kvs : List (Key × MV)}, RVs K ι H vs xs → pairsOfM vs = some kvs → ∃ (as : List Addr) (ps : List (Key × V)), xs = as.map V.ref ∧ Paired (fun p kv => SqT K H p [kV kv.1, kv.2]) as ps ∧ RKs K ι H kvs ps
  | _, _, _, .nil, e => by cases e; exact ⟨[], [], rfl, .nil, .nil⟩
  | _, _, kvs, .cons a b, e => by
    unfold pairsOfM at e
    split at e
    · rename_i k m et
      split at e
      · rename_i key l ek el
        cases e
        obtain ⟨p, ys, rfl, sq, rs⟩ := a.sqT et
        obtain ⟨as, ps, rfl, hp, hk⟩ := pairsOf_rel b el
        cases rs with
        | cons r1 rr => cases rr with
          | cons r2 r3 =>
            cases r3
            have := keyOf_rel r1 ek
            subst this
            exact ⟨p :: as, (key, _) :: ps, rfl, .cons sq hp, .cons r2 hk⟩
      · cases e
    · cases e
/-- dict(d), dict(pairs) -/
def dictM : List MV → AH → Rs MV := fun ms A => match ms with
  | [v] => (match dctV A v with
    | some kvs => .ok (.ref A.length) (A ++ [.dct kvs])
    | none => match v with
      | .ptp xs => (match pairsOfM xs with
        | some kvs => .ok (.ref A.length) (A ++ [.dct (mergeM [] kvs)])
        | none => .bad)
      | v => match lstV A v with
        | some xs => (match pairsOfM xs with
          | some kvs => .ok (.ref A.length) (A ++ [.dct (mergeM [] kvs)])
          | none => .bad)
        | none => .bad)
  | _ => .bad
theorem pairsW_of {pins : List (Addr × Obj)} {σ : L2.St} {H : Hp} {s : Shared} (I : Inv X pins σ H s) : ∀ {ps : List Addr} {kvs : List (Key × V)}, Paired (fun p kv => SqT X.K H p [kV kv.1, kv.2]) ps kvs →
    ∃ (prs : List (Key × Value)) (ws : List (Value × Value)), KV kvs prs ∧ prs.length = ps.length ∧ ws.length = ps.length ∧ ∀ (j : Nat) (k v : Value), ws[j]? = some (k, v) → ∃ (b : Addr) (key : Key), ps[j]? = some b ∧ IsTup s.heap b #[k, v] ∧ prs[j]? = some (key, v) ∧ keyIs key k = true
  | _, _, .nil => ⟨[], [], .nil, rfl, rfl, fun j k v e => by simp at e⟩
  | _, _, .cons (a := p) (b := kv) h t => by
    obtain ⟨prs, ws, r, hl, hw, hp⟩ := pairsW_of I t
    obtain ⟨its, rv, ht, _⟩ := I.tuple h
    obtain ⟨u, y, ei, ru, ry⟩ := vals2 rv
    subst ei
    refine ⟨(kv.1, y) :: prs, (u, y) :: ws, .cons ⟨rfl, ry⟩ r, by rw [List.length_cons, List.length_cons, hl], by rw [List.length_cons, List.length_cons, hw], fun j k v e => ?_⟩
    cases j with
    | zero =>
      have e' : (u, y) = (k, v) := Option.some.inj e
      cases e'
      exact ⟨p, kv.1, rfl, ht, rfl, kV_is (P := X.prog) (w := X.w) ru⟩
    | succ j =>
      obtain ⟨b, key, e1, e2, e3, e4⟩ := hp j k v (by simpa using e)
      exact ⟨b, key, by simpa using e1, e2, by simpa using e3, e4⟩
theorem call_dictT (hcalm : X.calm = true) : CallR X (.type "dict") (fun xs H Q => ∃ (a : Addr) (ob : Obj) (ps : List Addr) (kvs : List (Key × V)), xs = [.ref a] ∧ H a = some (.frz ob (.tup (ps.map V.ref))) ∧ ob.dict = none ∧ Paired (fun p kv => SqT X.K H p [kV kv.1, kv.2]) ps kvs ∧
    ∀ p, H p = none → Q (.ref p) (upd H p (.dK (mergeK [] kvs)))) := by
  intro pins s σ H xs us Q I r q
  obtain ⟨a, ob, ps, kvs, ex, hq, hdn, hp, q⟩ := q
  subst ex
  obtain ⟨u, eu, rx⟩ := vals1 r
  subst eu
  cases rx
  obtain ⟨ho, hz, its, rv, ob', ho', hc, n, hdat⟩ := (show ObjOk X.prog X.w H s.heap a (.frz ob (.tup (ps.map V.ref))) from I.hok a _ hq)
  rw [ho] at ho'
  cases ho'
  have ei := refs_at rv
  subst ei
  rw [List.length_map] at hz
  obtain ⟨prs, ws, rel, hl, hw, hpr⟩ := pairsW_of I hp
  refine PySem.call_dict_pairs (knd := mixKind X.prog X.w) (kvs := prs) (PairArg.tuple a (ps.map Value.ref).toArray (fun j => ps.getD j 0) ws) (I.ok.hd hcalm) ⟨⟨ob, n, ho, hc, hdn, hdat⟩, by simp [hw], fun j k v e => ?_⟩ ⟨by rw [hl, hw], fun i k v e => ?_⟩ (by rw [hw]; exact hz) fun h' tk hd' k => ?_
  · obtain ⟨b, key, e1, e2, _, _⟩ := hpr j k v e
    have eb : ps.getD j 0 = b := by
      rw [List.getD_eq_getElem?_getD, e1]
      rfl
    show (ps.map Value.ref).toArray[j]? = some (.ref (ps.getD j 0)) ∧ PairAt s.heap (ps.getD j 0) k v
    rw [eb]
    exact ⟨by simp [e1], .inl e2⟩
  · obtain ⟨b, key, e1, e2, e3, e4⟩ := hpr i k v e
    exact ⟨key, e3, e4⟩
  · have hm : (s.heap.objs.size == sysModules) = false := beq_eq_false_iff_ne.mpr (Nat.ne_of_gt I.big)
    have hlen : (mergeK [] kvs).length ≤ sizeLine := by
      refine Nat.le_trans (length_mergeK kvs []) ?_
      rw [List.length_nil, Nat.zero_add, rel.length, hl]
      exact hz
    exact ⟨.ref s.heap.objs.size, upd H s.heap.objs.size (.dK (mergeK [] kvs)), I.laid (t' := tk) (fun b o e => k b o (by simp) e) (Nat.le_refl _) (show ObjOk X.prog X.w _ _ _ (.dK (mergeK [] kvs)) from ⟨hlen, hm, merged [] prs, KV.merge rel .nil, hd'⟩), rfl, q _ (I.hok.fresh (Nat.le_refl _))⟩
theorem m_dict (hc : X.calm = true) (hm : X.mg "dict" = none) (ha : PA X [e] (tMA X.K W g)) (hg : Gl X "dict" := by rfl) (he : starEach [e] X.env = (false, eval e X.env) :: starEach [] X.env := by rfl) : PE X (.Call (.Name "dict" p) [e] [] pos) (tM X.K W fun ρ A => (g ρ A).bind dictM) :=
  m_cT (call_dictD.or ((call_dictT hc).or (call_dictP hc))) (fun {σ ι H A ms vs Q} S r h => by
    unfold dictM at h
    split at h
    · cases r with
      | cons rv rr =>
        cases rr
        split at h
        · rename_i kvs ed
          obtain ⟨a, ps, rfl, hd, rk⟩ := S.dctV rv ed
          exact .inl ⟨a, ps, rfl, hd, fun l hl => h.newD S hl rk⟩
        · split at h
          · split at h
            · rename_i kvs ek
              cases rv with
              | ptp no hh hdn rs =>
                obtain ⟨as, ps, rfl, hp, hk⟩ := pairsOf_rel rs ek
                exact .inr (.inl ⟨_, _, as, ps, rfl, hh, hdn, hp, fun l hl => h.newD S hl (RKs.merge hk .nil)⟩)
            · exact h.elim
          · split at h
            · rename_i xs et
              split at h
              · rename_i kvs ek
                obtain ⟨a, ys, rfl, sq, rs⟩ := S.lstV rv et
                obtain ⟨as, ps, rfl, hp, hk⟩ := pairsOf_rel rs ek
                exact .inr (.inr ⟨a, as, ps, rfl, sq, hp, fun l hl => h.newD S hl (RKs.merge hk .nil)⟩)
              · exact h.elim
            · exact h.elim
    · exact h.elim) hm PyProof.Rows.boot_dict ha hg (he := he)
/-- {} -/
def eDict0 : FE := fun _ A => .ok (.ref A.length) (A ++ [.dct []])
theorem m_dict0 : PE X (.Dict [] [] pos) (tM X.K W eDict0) := pe_dnewK.imp fun σ H Q ⟨ι, A, ρ, S, E, h⟩ => fun p hp => RP.newD h S hp .nil
/-- {k: v, ..} -/
def prsM : List (FE × FE) → ME → AH → Rs (List (Key × MV))
  | [], _, A => .ok [] A
  | (k, v) :: r, ρ, A => (k ρ A).bind fun kv A => (v ρ A).bind fun m A => match keyOf kv with
    | some key => (prsM r ρ A).bind fun l A => .ok ((key, m) :: l) A
    | none => .bad
def eDisp (ps : List (FE × FE)) : FE := fun ρ A => (prsM ps ρ A).bind fun kvs A => if kvs.length ≤ 15 then .ok (.ref A.length) (A ++ [.dct (mergeM [] kvs)]) else .bad
def trsM (K : PySem.W.Frag) (W : Wi) : List (FE × FE) → List (TE × TE)
  | [] => []
  | (k, v) :: r => (tM K W k, tM K W v) :: trsM K W r
abbrev rKV (K : PySem.W.Frag) : Rel (List (Key × MV)) (List (Key × V)) := fun _ _ ι' H' A' a b => Sim K ι' A' H' ∧ RKs K ι' H' a b
theorem tPairs_of {K : PySem.W.Frag} {σ : L2.St} {ρ : ME} : ∀ (ps : List (FE × FE)) {ι : Io} {H : Hp} {A : AH} {Q : List (V × V) → Hp → Prop}, Sim K ι A H → REnv W K ι H ρ σ → RP K W σ (rKV K) ι H (prsM ps ρ A) (fun kvs H' => Q (kvs.map fun kv => (kV kv.1, kv.2)) H') → tPairs (trsM K W ps) σ H Q
  | [], ι, H, A, Q, S, E, h => h ι H [] (Ext.refl _ _) ⟨S, .nil⟩
  | (k, v) :: r, ι, H, A, Q, S, E, h => RP_bind S E h fun ι1 A1 x u H1 e1 ⟨S1, r1⟩ h1 => RP_bind S1 (E.ext e1) h1 fun ι2 A2 y w H2 e2 ⟨S2, r2⟩ h2 => by
    cases ek : keyOf x with
    | none => rw [ek] at h2; exact h2.elim
    | some key =>
      rw [ek] at h2
      have eu := keyOf_rel r1 ek
      subst eu
      exact tPairs_of r S2 (E.ext (e1.trans e2)) (RP.bnd h2 fun ι3 A3 l qs H3 e3 ⟨S3, r3⟩ h3 => RP.ok0 h3 (u := (key, w) :: qs) ⟨S3, .cons (r2.ext e3) r3⟩)
theorem m_disp {keys : List (Option Expr)} {values : List Expr} {ps : List (FE × FE)} (h : PPs X pos keys values (trsM X.K W ps)) (hall : keys.all (·.isSome) = true := by rfl) (hl : keys.length = values.length := by rfl) (h0 : keys ≠ [] := by intro z; cases z) (h15 : keys.length ≤ 15 := by decide) : PE X (.Dict keys values pos) (tM X.K W (eDisp ps)) :=
  (pe_disp h hall hl h0 h15).imp fun σ H Q ⟨ι, A, ρ, S, E, h⟩ => by
    intro p hp
    have S0 : Sim X.K ⟨ι.tr, p :: ι.pv⟩ A (upd H p (.dK [])) := Sim.hide S hp
    have l0 : Le ι H ⟨ι.tr, p :: ι.pv⟩ (upd H p (.dK [])) := (Le.hide hp).trans ⟨List.prefix_refl _, fun q u n e => ⟨n, by
      rw [upd_ne (ne_of_none e hp)]
      exact e⟩⟩
    refine tPairs_of ps S0 (E.le l0) ?_
    unfold eDisp at h
    cases q : prsM ps ρ A with
    | bad => rw [q] at h; exact h.elim
    | err c fs A' =>
      rw [q] at h
      rintro ⟨tr', pv'⟩ H' d x s er
      have ep : pv' = p :: ι.pv := x.pv
      subst ep
      refine h ⟨tr', ι.pv⟩ H' d ⟨x.pre, rfl, fun z hz n => ?_, fun z o n hz => x.keep z o n (by rw [upd_ne (ne_of_none hz hp)]; exact hz), fun z o u hz => x.frz z o u (by rw [upd_ne (ne_of_none hz hp)]; exact hz)⟩ s.show ⟨⟨er.ex.choose, er.ex.choose_spec.1, er.ex.choose_spec.2.le Le.show⟩, er.out.1, fun hz => er.out.2 (List.mem_cons_of_mem _ hz)⟩
      have := x.new z hz n
      by_cases ez : z = p
      · rw [ez]
        exact hp
      · rw [upd_ne ez] at this
        exact this
    | ok kvs A' =>
      rw [q] at h
      rintro ⟨tr', pv'⟩ H' qs x ⟨S', rk⟩
      have ep : pv' = p :: ι.pv := x.pv
      subst ep
      have np : p ∉ ι.tr := S.out hp
      have hk : H' p = some (.dK []) := x.keep p _ np upd_same
      have nt : p ∉ tr' := x.out np upd_same
      have e1 : Ext ι H ⟨tr', ι.pv⟩ H' := ⟨x.pre, rfl, fun z hz n => by
        have := x.new z hz n
        by_cases ez : z = p
        · rw [ez]
          exact hp
        · rw [upd_ne ez] at this
          exact this, fun z o n hz => x.keep z o n (by rw [upd_ne (ne_of_none hz hp)]; exact hz), fun z o u hz => x.frz z o u (by rw [upd_ne (ne_of_none hz hp)]; exact hz)⟩
      dsimp only [Rs.bind] at h
      split at h
      · rename_i hl
        refine ⟨hk, qs, rfl, by rw [← rk.length]; exact hl, ?_⟩
        have l2 : Le ⟨tr', p :: ι.pv⟩ H' ⟨tr', p :: ι.pv⟩ (upd H' p (.dK (mergeK [] qs))) := Le.priv (List.mem_cons_self ..)
        have S2 : Sim X.K ⟨tr', p :: ι.pv⟩ A' (upd H' p (.dK (mergeK [] qs))) := S'.priv (List.mem_cons_self ..) nt
        have S3 := S2.adopt (m := .dct (mergeM [] kvs)) nt (.dct upd_same (((RKs.merge rk .nil).le l2).le Le.adopt))
        refine h ⟨tr' ++ [p], ι.pv⟩ _ _ ((e1.mutNew hp).adopt hp) ⟨S3, .ref ?_⟩
        have sl : tr'.length = A'.length := S2.len
        show (tr' ++ [p])[A'.length]? = some p
        rw [← sl, List.getElem?_append_right (Nat.le_refl _), Nat.sub_self]
        rfl
      · exact h.elim
end
end Mv
/-! Mv8: methods of built-in things, stores, isinstance, dict comprehensions -/
namespace Mv
open PySem PySem.Spec PyProof.Rows L2 Fk
section
variable {X : Cx} {W : Wi} {k : Nat} {x : Str} {o e e2 : Expr} {es : List Expr} {g : FL} {fo fe f2 : FE} {p pos apos cpos : Pos}
/-! ### constants of the module, types -/
theorem m_ty {T : String} (hm : X.mg x = none) (hv : bootBuiltins x = some (.type T)) (hg : Gl X x := by rfl) (hn : x ≠ "__name__" := by decide) (hd : (x == ("__debug__" : Str)) = false := by decide) : PE X (.Name x pos) (tM X.K W (eC (.ty T))) := m_c (pe_bltn (v := .ty T) hg hm hv rfl hn hd) fun _ _ => .ty T
theorem m_glo (hm : X.mg x = some (.ref (He.ga X.K x))) (hg : Gl X x := by rfl) (hd : (x == ("__debug__" : Str)) = false := by decide) : PE X (.Name x pos) (tM X.K W (eC (.glo x))) := m_c (pe_gref hm hg hd) fun _ _ => .glo x
/-! ### texts -/
def aSplit (fo fe : FE) : FL := fun ρ A => (fo ρ A).bind fun v A => match v with
  | .str a => (fe ρ A).bind fun w A => (match w with
    | .str b => if b.length ≠ 0 ∧ a.length ≤ 999990 then .ok ((Txt.split a b).map MV.str) A else .bad
    | _ => .bad)
  | _ => .bad
theorem ml_split (ho : PE X o (tM X.K W fo)) (he : PE X e (tM X.K W fe)) (hs : starEach [e] X.env = [(false, eval e X.env)] := by rfl) (hbase : attributeBase o "split" X.env (eval o X.env) = eval o X.env := by rfl) (hline : (apos.endLine == pos.line) = true := by rfl) :
    PE X (.Call (.Attribute o "split" apos) [e] [] pos) (tML X.K W (aSplit fo fe)) := (pe_split ho he hs hbase hline).imp fun σ H Q ⟨ι, A, ρ, S, E, h⟩ => RP_bind S E h fun ι1 A1 v u H1 e1 ⟨S1, r1⟩ h1 => by
  cases r1 with
  | str a =>
    refine ⟨⟨a, rfl⟩, RP_bind S1 (E.ext e1) h1 fun ι2 A2 w z H2 e2 ⟨S2, r2⟩ h2 => ?_⟩
    cases r2 with
    | str b =>
      dsimp only at h2
      split at h2
      · rename_i hl
        refine ⟨a, b, rfl, rfl, by simpa using hl.1, lim (by omega), fun q hq => h2.newL S2 hq (rvs_strs _)⟩
      · exact h2.elim
    | _ => exact h2.elim
  | _ => exact h1.elim
def strsA (A : AH) (v : MV) : Option (List Str) := match tupOf v with
  | some xs => strsOf xs
  | none => match lstV A v with
    | some xs => strsOf xs
    | none => none
def eJoin (fo fe : FE) : FE := fun ρ A => (fo ρ A).bind fun v A => match v with
  | .str a => (fe ρ A).bind fun w A => (match strsA A w with
    | some ys => if (ys.map (·.length)).sum + ys.length * a.length ≤ 1000000 then .ok (.str (Txt.join a ys)) A else .bad
    | none => .bad)
  | _ => .bad
theorem m_join (ho : PE X o (tM X.K W fo)) (he : PE X e (tM X.K W fe)) (hs : starEach [e] X.env = [(false, eval e X.env)] := by rfl) (hbase : attributeBase o "join" X.env (eval o X.env) = eval o X.env := by rfl) (hline : (apos.endLine == pos.line) = true := by rfl) :
    PE X (.Call (.Attribute o "join" apos) [e] [] pos) (tM X.K W (eJoin fo fe)) := (pe_join ho he hs hbase hline).imp fun σ H Q ⟨ι, A, ρ, S, E, h⟩ => RP_bind S E h fun ι1 A1 v u H1 e1 ⟨S1, r1⟩ h1 => by
  cases r1 with
  | str a =>
    refine ⟨⟨a, rfl⟩, RP_bind S1 (E.ext e1) h1 fun ι2 A2 w z H2 e2 ⟨S2, r2⟩ h2 => ?_⟩
    unfold strsA at h2
    cases et : tupOf w with
    | some xs =>
      rw [et] at h2
      dsimp only at h2
      cases ek : strsOf xs with
      | none => rw [ek] at h2; exact h2.elim
      | some ys =>
        rw [ek] at h2
        dsimp only at h2
        split at h2
        · rename_i hl
          obtain ⟨b, zs, rfl, sq, rs⟩ := r2.sqT et
          rw [strsOf_rel rs ek] at sq
          exact ⟨a, b, ys, rfl, rfl, .inr sq, by omega, h2.ok0 ⟨S2, .str _⟩⟩
        · exact h2.elim
    | none =>
      rw [et] at h2
      dsimp only at h2
      cases el : lstV A2 w with
      | none => rw [el] at h2; exact h2.elim
      | some xs =>
        rw [el] at h2
        dsimp only at h2
        cases ek : strsOf xs with
        | none => rw [ek] at h2; exact h2.elim
        | some ys =>
          rw [ek] at h2
          dsimp only at h2
          split at h2
          · rename_i hl
            obtain ⟨b, zs, rfl, sq, rs⟩ := S2.lstV r2 el
            rw [strsOf_rel rs ek] at sq
            exact ⟨a, b, ys, rfl, rfl, .inl sq, by omega, h2.ok0 ⟨S2, .str _⟩⟩
          · exact h2.elim
  | _ => exact h1.elim
def eStarts (fo fe : FE) : FE := fun ρ A => (fo ρ A).bind fun v A => match v with
  | .str a => (fe ρ A).bind fun w A => (match w with
    | .str b => .ok (.bl (Txt.startswith a b)) A
    | _ => .bad)
  | _ => .bad
theorem m_starts (ho : PE X o (tM X.K W fo)) (he : PE X e (tM X.K W fe)) (hs : starEach [e] X.env = [(false, eval e X.env)] := by rfl) (hbase : attributeBase o "startswith" X.env (eval o X.env) = eval o X.env := by rfl) (hline : (apos.endLine == pos.line) = true := by rfl) :
    PE X (.Call (.Attribute o "startswith" apos) [e] [] pos) (tM X.K W (eStarts fo fe)) := (pe_m1 F.slot_str_startswith F.type_str_startswith mt_startswith ho he hs hbase hline).imp fun σ H Q ⟨ι, A, ρ, S, E, h⟩ => RP_bind S E h fun ι1 A1 v u H1 e1 ⟨S1, r1⟩ h1 => by
  cases r1 with
  | str a =>
    refine ⟨⟨a, rfl⟩, RP_bind S1 (E.ext e1) h1 fun ι2 A2 w z H2 e2 ⟨S2, r2⟩ h2 => ?_⟩
    cases r2 with
    | str b => exact ⟨a, b, rfl, rfl, h2.ok0 ⟨S2, .bl _⟩⟩
    | _ => exact h2.elim
  | _ => exact h1.elim
/-! ### dicts -/
def dctB (A : AH) (v : MV) : Bool := (dctV A v).isSome
theorem Sim.isD {K : PySem.W.Frag} {ι : Io} {H : Hp} {A : AH} {v : MV} {u : V} (S : Sim K ι A H) (r : RV K ι H v u) (h : dctB A v = true) : ∃ a, u = .ref a ∧ IsD H a := by
  obtain ⟨kvs, e⟩ := Option.isSome_iff_exists.mp h
  obtain ⟨a, ps, rfl, hd, _⟩ := S.dctV r e
  exact ⟨a, rfl, .inl ⟨ps, hd⟩⟩
def eGet1 (fo fe : FE) : FE := fun ρ A => (fo ρ A).bind fun v A => if dctB A v then (fe ρ A).bind fun w A => (match dctV A v, keyOf w with
    | some kvs, some key => .ok ((valM kvs key).getD .non) A
    | _, _ => .bad) else .bad
def eGet2 (fo fe f2 : FE) : FE := fun ρ A => (fo ρ A).bind fun v A => if dctB A v then (fe ρ A).bind fun w A => (f2 ρ A).bind fun z A => (match dctV A v, keyOf w with
    | some kvs, some key => .ok ((valM kvs key).getD z) A
    | _, _ => .bad) else .bad
theorem RKs.getD {K : PySem.W.Frag} {ι : Io} {H : Hp} {kvs : List (Key × MV)} {ps : List (Key × V)} {key : Key} {m : MV} {b : V} (r : RKs K ι H kvs ps) (q : RV K ι H m b) : RV K ι H ((valM kvs key).getD m) ((valV ps key).getD b) := by
  obtain ⟨h1, h2⟩ := r.val (k := key)
  cases e : valM kvs key with
  | none => rw [h2 e]; exact q
  | some z =>
    obtain ⟨y, e2, r2⟩ := h1 z e
    rw [e2]
    exact r2
theorem m_get1 (hr : Room k X.A) (ho : PE X o (tM X.K W fo)) (he : PE X e (tM X.K W fe)) (m : M1 X o "get" apos e cpos := by exact ⟨by rfl, by rfl, by rfl, by rfl⟩) : PE X (.Call (.Attribute o "get" apos) [e] [] cpos) (tM X.K W (eGet1 fo fe)) :=
  (pe_dget1 (hu_of hr) ho he m).imp fun σ H Q ⟨ι, A, ρ, S, E, h⟩ => RP_bind S E h fun ι1 A1 v u H1 e1 ⟨S1, r1⟩ h1 => by
    split at h1
    · rename_i hd
      obtain ⟨a, rfl, d⟩ := S1.isD r1 hd
      refine ⟨a, rfl, d, RP_bind S1 (E.ext e1) h1 fun ι2 A2 w z H2 e2 ⟨S2, r2⟩ h2 => ?_⟩
      split at h2
      · rename_i kvs key ed ek
        obtain ⟨b, ps, eb, hd, rk⟩ := S2.dctV (r1.ext e2) ed
        cases eb
        have eu := keyOf_rel r2 ek
        subst eu
        exact ⟨_, DGet.rd hd, h2.ok0 ⟨S2, rk.getD .non⟩⟩
      · exact h2.elim
    · exact h1.elim
theorem m_get2 (hr : Room k X.A) (ho : PE X o (tM X.K W fo)) (he : PE X e (tM X.K W fe)) (h2 : PE X e2 (tM X.K W f2)) (m : M2 X o "get" apos e e2 cpos := by exact ⟨by rfl, by rfl, by rfl, by rfl⟩) : PE X (.Call (.Attribute o "get" apos) [e, e2] [] cpos) (tM X.K W (eGet2 fo fe f2)) :=
  (pe_dget2 (hu_of hr) ho he h2 m).imp fun σ H Q ⟨ι, A, ρ, S, E, h⟩ => RP_bind S E h fun ι1 A1 v u H1 e1 ⟨S1, r1⟩ h1 => by
    split at h1
    · rename_i hd
      obtain ⟨a, rfl, d⟩ := S1.isD r1 hd
      refine ⟨a, rfl, d, RP_bind S1 (E.ext e1) h1 fun ι2 A2 w z H2 e2 ⟨S2, r2⟩ h2 => RP_bind S2 (E.ext (e1.trans e2)) h2 fun ι3 A3 y q H3 e3 ⟨S3, r3⟩ h3 => ?_⟩
      split at h3
      · rename_i kvs key ed ek
        obtain ⟨b, ps, eb, hd, rk⟩ := S3.dctV (r1.ext (e2.trans e3)) ed
        cases eb
        have eu := keyOf_rel r2 ek
        subst eu
        exact ⟨_, DGet.rd hd, h3.ok0 ⟨S3, rk.getD r3⟩⟩
      · exact h3.elim
    · exact h1.elim
/-- a dict that may be changed -/
def dctW (A : AH) : MV → Option (Nat × List (Key × MV))
  | .ref n => (match A[n]? with
    | some (.dct xs) => some (n, xs)
    | _ => none)
  | _ => none
theorem Sim.dctW {K : PySem.W.Frag} {ι : Io} {H : Hp} {A : AH} {v : MV} {u : V} {n : Nat} {kvs : List (Key × MV)} (S : Sim K ι A H) (r : RV K ι H v u) (h : Mv.dctW A v = some (n, kvs)) : ∃ a ps, u = .ref a ∧ ι.tr[n]? = some a ∧ H a = some (.dK ps) ∧ RKs K ι H kvs ps := by
  unfold Mv.dctW at h
  split at h
  · split at h
    · rename_i e
      cases h
      obtain ⟨a, rfl, ea, ok⟩ := S.ref r e
      cases ok with
      | dct h1 h2 => exact ⟨a, _, rfl, ea, h1, h2⟩
    · cases h
  · cases h
theorem nofrz_dK {H : Hp} {a : Addr} {ps : List (Key × V)} (h : H a = some (.dK ps)) : NoFrz H a := fun o u e => by
  rw [h] at e
  cases e
theorem Sim.putD {K : PySem.W.Frag} {ι : Io} {H : Hp} {A : AH} {n : Nat} {a : Addr} {ps ps' : List (Key × V)} {kvs' : List (Key × MV)} (S : Sim K ι A H) (ea : ι.tr[n]? = some a) (h : H a = some (.dK ps)) (r : RKs K ι H kvs' ps') : Sim K ι (A.set n (.dct kvs')) (upd H a (.dK ps')) ∧ Ext ι H ι (upd H a (.dK ps')) :=
  ⟨S.put ea (.dct upd_same (r.le (Le.mut (List.mem_of_getElem? ea)))), Ext.mut (List.mem_of_getElem? ea) (nofrz_dK h)⟩
def ePop2 (fo fe f2 : FE) : FE := fun ρ A => (fo ρ A).bind fun v A => if dctB A v then (fe ρ A).bind fun w A => (f2 ρ A).bind fun z A => (match dctW A v, keyOf w with
    | some (n, kvs), some key => (match valM kvs key with
      | some m => .ok m (A.set n (.dct (dropM kvs key)))
      | none => .ok z A)
    | _, _ => .bad) else .bad
theorem m_pop2 (ho : PE X o (tM X.K W fo)) (he : PE X e (tM X.K W fe)) (h2 : PE X e2 (tM X.K W f2)) (m : M2 X o "pop" apos e e2 cpos := by exact ⟨by rfl, by rfl, by rfl, by rfl⟩) : PE X (.Call (.Attribute o "pop" apos) [e, e2] [] cpos) (tM X.K W (ePop2 fo fe f2)) :=
  (pe_dpop2 ho he h2 m).imp fun σ H Q ⟨ι, A, ρ, S, E, h⟩ => RP_bind S E h fun ι1 A1 v u H1 e1 ⟨S1, r1⟩ h1 => by
    split at h1
    · rename_i hd
      obtain ⟨a, rfl, d⟩ := S1.isD r1 hd
      refine ⟨a, rfl, d, RP_bind S1 (E.ext e1) h1 fun ι2 A2 w z H2 e2 ⟨S2, r2⟩ h2 => RP_bind S2 (E.ext (e1.trans e2)) h2 fun ι3 A3 y q H3 e3 ⟨S3, r3⟩ h3 => ?_⟩
      split at h3
      · rename_i n kvs key ed ek
        obtain ⟨b, ps, eb, ea, hd, rk⟩ := S3.dctW (r1.ext (e2.trans e3)) ed
        cases eb
        have eu := keyOf_rel r2 ek
        subst eu
        refine ⟨ps, key, hd, rfl, fun c ec => ?_, fun ec => ?_⟩
        · cases em : valM kvs key with
          | none =>
            rw [(rk.val (k := key)).2 em] at ec
            cases ec
          | some m =>
            rw [em] at h3
            obtain ⟨c', ec', rc⟩ := (rk.val (k := key)).1 m em
            rw [ec] at ec'
            cases ec'
            obtain ⟨S4, e4⟩ := S3.putD ea hd (RKs.drop (k := key) rk)
            exact h3 ι3 _ c e4 ⟨S4, rc.ext e4⟩
        · cases em : valM kvs key with
          | some m =>
            obtain ⟨c', ec', rc⟩ := (rk.val (k := key)).1 m em
            rw [ec] at ec'
            cases ec'
          | none =>
            rw [em] at h3
            exact h3.ok0 ⟨S3, r3⟩
      · exact h3.elim
    · exact h1.elim
/-! ### stores -/
def lstW (A : AH) : MV → Option (Nat × List MV)
  | .ref n => (match A[n]? with
    | some (.lst xs) => some (n, xs)
    | _ => none)
  | _ => none
theorem Sim.lstW {K : PySem.W.Frag} {ι : Io} {H : Hp} {A : AH} {v : MV} {u : V} {n : Nat} {vs : List MV} (S : Sim K ι A H) (r : RV K ι H v u) (h : Mv.lstW A v = some (n, vs)) : ∃ a xs, u = .ref a ∧ ι.tr[n]? = some a ∧ H a = some (.lst xs) ∧ RVs K ι H vs xs := by
  unfold Mv.lstW at h
  split at h
  · split at h
    · rename_i e
      cases h
      obtain ⟨a, rfl, ea, ok⟩ := S.ref r e
      cases ok with
      | lst h1 h2 => exact ⟨a, _, rfl, ea, h1, h2⟩
    · cases h
  · cases h
theorem Sim.putL {K : PySem.W.Frag} {ι : Io} {H : Hp} {A : AH} {n : Nat} {a : Addr} {xs xs' : List V} {vs' : List MV} (S : Sim K ι A H) (ea : ι.tr[n]? = some a) (h : H a = some (.lst xs)) (r : RVs K ι H vs' xs') : Sim K ι (A.set n (.lst vs')) (upd H a (.lst xs')) ∧ Ext ι H ι (upd H a (.lst xs')) :=
  ⟨S.put ea (.lst upd_same (r.le (Le.mut (List.mem_of_getElem? ea)))), Ext.mut (List.mem_of_getElem? ea) (nofrz_lst h)⟩
def setM (o i v : MV) (A : AH) : Option AH := match dctW A o with
  | some (n, kvs) => (match keyOf i with
    | some key => if kvs.length < 1000000 then some (A.set n (.dct (putM kvs key v))) else none
    | none => none)
  | none => match lstW A o, i with
    | some (n, xs), .int j => (match ixN xs.length j with
      | some m => some (A.set n (.lst (xs.set m v)))
      | none => none)
    | _, _ => none
theorem PSet.or {t t' : TSet} (h : PSet X t) (h' : PSet X t') : PSet X (fun o i v H Q => t o i v H Q ∨ t' o i v H Q) := by
  intro pins s σ H o i v ov iv u Q I r1 r2 r3 q
  rcases q with q | q
  · exact h pins s σ H o i v ov iv u Q I r1 r2 r3 q
  · exact h' pins s σ H o i v ov iv u Q I r1 r2 r3 q
def sSub (fv fo fi : FE) : FS := fun ρ A => (fv ρ A).fs ρ fun v A => (fo ρ A).fs ρ fun o A => (fi ρ A).fs ρ fun i A => match setM o i v A with
  | some A' => .nx ρ A'
  | none => .bad
theorem ms_sub {i : Expr} {fv fi : FE} {pos' : Pos} (hr : Room k X.A) (hv : PE X e (tM X.K W fv)) (ho : PE X o (tM X.K W fo)) (hi : PE X i (tM X.K W fi)) (ha : ∀ v, assign (.Subscript o i pos') X.env v = (do
      let ov ← holding [v] (eval o X.env)
      let iv ← holding [v, ov] (eval i X.env)
      standAt pos'
      holding [v, ov, iv] (setItem ov iv v)
      release [v, ov, iv] []) := by intro _; rfl) (hs : swapsWithSole [.Subscript o i pos'] e pos.line X.env = pure false := by rfl) (hw : swappedStores [.Subscript o i pos'] e X.env = pure none := by rfl)
    (h1 : (assignEach [.Subscript o i pos'] X.env).map (·.2) = [assign (.Subscript o i pos') X.env] := by rfl) : PS X (.Assign [.Subscript o i pos'] e pos) (tMS X.K W (sSub fv fo fi)) :=
  (ps_asg hv (pg_sub ho hi (PSet.or (set_dict (hu_of hr)) set_list) ha) hs hw h1).imp fun D σ H ⟨ι, A, ρ, S, E, h⟩ => RPS_bind S E h fun ι1 A1 v u H1 e1 ⟨S1, r1⟩ h1 => RPS_bind S1 (E.ext e1) h1 fun ι2 A2 o w H2 e2 ⟨S2, r2⟩ h2 => RPS_bind S2 (E.ext (e1.trans e2)) h2 fun ι3 A3 i z H3 e3 ⟨S3, r3⟩ h3 => by
    have r1' := r1.ext (e2.trans e3)
    have r2' := r2.ext e3
    have E3 := E.ext ((e1.trans e2).trans e3)
    unfold setM at h3
    cases ed : dctW A3 o with
    | some pr =>
      obtain ⟨n, kvs⟩ := pr
      rw [ed] at h3
      dsimp only at h3
      cases ek : keyOf i with
      | none => rw [ek] at h3; exact h3.elim
      | some key =>
        rw [ek] at h3
        dsimp only at h3
        by_cases hl : kvs.length < 1000000
        · rw [if_pos hl] at h3
          obtain ⟨a, ps, rfl, ea, hd, rk⟩ := S3.dctW r2' ed
          have eu := keyOf_rel r3 ek
          subst eu
          obtain ⟨S4, e4⟩ := S3.putD ea hd (RKs.put (k := key) r1' rk)
          refine .inl ⟨a, _, rfl, DPut.k hd ?_, h3 ι3 _ σ e4 S4 (E3.ext e4)⟩
          rw [← rk.length]
          have := sizeLine_eq
          omega
        · rw [if_neg hl] at h3
          exact h3.elim
    | none =>
      rw [ed] at h3
      dsimp only at h3
      cases el : lstW A3 o with
      | none => rw [el] at h3; exact h3.elim
      | some pr =>
        obtain ⟨n, xs⟩ := pr
        rw [el] at h3
        cases r3 with
        | int j =>
          dsimp only at h3
          cases ei : ixN xs.length j with
          | none => rw [ei] at h3; exact h3.elim
          | some m =>
            rw [ei] at h3
            obtain ⟨a, ys, rfl, ea, hd, rs⟩ := S3.lstW r2' el
            obtain ⟨S4, e4⟩ := S3.putL ea hd (RVs.set r1' m rs)
            exact .inr ⟨a, ys, j, m, rfl, rfl, hd, by rw [← rs.length]; exact ei, h3 ι3 _ σ e4 S4 (E3.ext e4)⟩
        | _ => exact h3.elim
/-- xs.append(v) -/
def lstB (A : AH) (v : MV) : Bool := (lstV A v).isSome
theorem Sim.tyL {K : PySem.W.Frag} {ι : Io} {H : Hp} {A : AH} {v : MV} {u : V} (S : Sim K ι A H) (r : RV K ι H v u) (h : lstB A v = true) : tyV K "list" u H := by
  obtain ⟨kvs, e⟩ := Option.isSome_iff_exists.mp h
  obtain ⟨a, ps, rfl, hd, _⟩ := S.lstV r e
  exact .inl ⟨rfl, ps, hd⟩
def eApp (fo fe : FE) : FE := fun ρ A => (fo ρ A).bind fun v A => if lstB A v then (fe ρ A).bind fun w A => (match lstW A v with
    | some (n, xs) => if xs.length < 1000000 then .ok .non (A.set n (.lst (xs ++ [w]))) else .bad
    | none => .bad) else .bad
theorem m_append (ho : PE X o (tM X.K W fo)) (he : PE X e (tM X.K W fe)) (hbase : attributeBase o "append" X.env (eval o X.env) = eval o X.env := by rfl)
    (hfew : ((backTo cpos (starEach [e] X.env)).all (fun x => !x.1) && (backToKw cpos (keywordEach [] X.env)).all (fun x => x.1.isSome)
      && decide (([e] : List Expr).length + ([] : List Keyword).length + (if ([] : List Keyword).isEmpty then 0 else 1) < 30)) = true := by rfl)
    (hline : (apos.endLine == cpos.line) = true := by rfl) (hs : starEach [e] X.env = (false, eval e X.env) :: starEach [] X.env := by rfl) (hplain : (backTo cpos (starEach [] X.env)).any (·.1) = false := by rfl) :
    PE X (.Call (.Attribute o "append" apos) [e] [] cpos) (tM X.K W (eApp fo fe)) :=
  (pe_bm PySem.F.plainAttrs_list PySem.F.slot_list_append PySem.F.type_list_append mt_append ho (pa_cons he pa_nil hs) hbase hfew hline hs hplain).imp fun σ H Q ⟨ι, A, ρ, S, E, h⟩ => RP_bind S E h fun ι1 A1 v u H1 e1 ⟨S1, r1⟩ h1 => by
    split at h1
    · rename_i hb
      refine ⟨S1.tyL r1 hb, RP_bind S1 (E.ext e1) h1 fun ι2 A2 w z H2 e2 ⟨S2, r2⟩ h2 => ?_⟩
      cases el : lstW A2 v with
      | none => rw [el] at h2; exact h2.elim
      | some pr =>
        obtain ⟨n, xs⟩ := pr
        rw [el] at h2
        dsimp only at h2
        split at h2
        · rename_i hl
          obtain ⟨a, ys, rfl, ea, hd, rs⟩ := S2.lstW (r1.ext e2) el
          obtain ⟨S3, e3⟩ := S2.putL ea hd (rs.append (.one r2))
          refine ⟨a, ys, z, rfl, rfl, hd, ?_, h2 ι2 _ _ e3 ⟨S3, .non⟩⟩
          rw [← rs.length]
          have := sizeLine_eq
          omega
        · exact h2.elim
    · exact h1.elim
/-- lists, one behind another -/
def catL : MV → MV → AH → Rs (List MV) := fun x y A => match lstV A x, lstV A y with
  | some a, some b => if a.length + b.length ≤ 1000000 then .ok (a ++ b) A else .bad
  | _, _ => .bad
theorem Inv.lstR {pins : List (Addr × Obj)} {σ : L2.St} {H : Hp} {s : Shared} {l : Addr} {xs : List V} (I : Inv X pins σ H s) (h : Rd H l (.lst xs)) : xs.length ≤ sizeLine ∧ ∃ (its : List Value) (n : Nat), Vals xs its ∧ xs.length = its.length ∧ s.heap.get? l = some { cls := .type "list", data := .seq its.toArray n } := by
  obtain ⟨z, its, n, r, e⟩ := (show ObjOk X.prog X.w H s.heap l (.lst xs) from h.ok I.hok)
  exact ⟨z, its, n, r, r.length, e⟩
theorem op_catR : OpR X (binaryOp .Add) (fun x y H Q => ∃ l b xs zs, x = .ref l ∧ y = .ref b ∧ Rd H l (.lst xs) ∧ Rd H b (.lst zs) ∧ xs.length + zs.length ≤ sizeLine ∧ ∀ p, H p = none → Q (.ref p) (upd H p (.lst (xs ++ zs)))) := by
  intro pins s σ H x y v u Q I rx ry h
  obtain ⟨l, b, xs, zs, rfl, rfl, hH, hB, hz, q⟩ := h
  cases rx
  cases ry
  obtain ⟨z, its, n, r, hl, e⟩ := Inv.lstR I hH
  obtain ⟨z2, its2, n2, r2, hl2, e2⟩ := Inv.lstR I hB
  refine PySem.P.add_list e e2 ?_ (by rw [List.size_toArray, List.size_toArray]; omega)
  have ea : its.toArray ++ its2.toArray = (its ++ its2).toArray := by simp
  rw [ea]
  exact ⟨.ref _, _, I.lnew (t' := s.toks) (r.append r2) (by rw [List.length_append]; omega), rfl, q _ I.fresh⟩
def aCat (fa fb : FE) : FL := fun ρ A => (fa ρ A).bind fun x A => (fb ρ A).bind fun y A => catL x y A
theorem ml_cat {a b : Expr} {fa fb : FE} (ha : PE X a (tM X.K W fa)) (hb : PE X b (tM X.K W fb)) : PE X (.BinOp a .Add b pos) (tML X.K W (aCat fa fb)) := (pe_op op_catR ha hb).imp fun σ H Q ⟨ι, A, ρ, S, E, h⟩ => RP_bind S E h fun ι1 A1 x u H1 e1 ⟨S1, r1⟩ h1 => RP_bind S1 (E.ext e1) h1 fun ι2 A2 y v H2 e2 ⟨S2, r2⟩ h2 => by
  unfold catL at h2
  split at h2
  · rename_i xs ys ex ey
    split at h2
    · rename_i hl
      obtain ⟨l, us, rfl, h3, r3⟩ := S2.lstX (r1.ext e2) ex
      obtain ⟨b, ws, rfl, h4, r4⟩ := S2.lstX r2 ey
      exact ⟨l, b, us, ws, rfl, rfl, h3, h4, lim (by rw [← r3.length, ← r4.length]; exact hl), fun q hq => h2.newL S2 hq (r3.append r4)⟩
    · exact h2.elim
  · exact h2.elim
/-! ### isinstance -/
def tyN (A : AH) : MV → Option String
  | .non => some "NoneType"
  | .bl _ => some "bool"
  | .int _ => some "int"
  | .str _ => some "str"
  | .byt _ => some "bytes"
  | .tup _ => some "tuple"
  | .ptp _ => some "tuple"
  | .lst _ => some "list"
  | .ref n => (match A[n]? with
    | some (.lst _) => some "list"
    | some (.lkl _) => some "list"
    | some (.dct _) => some "dict"
    | some (.lkd _) => some "dict"
    | _ => none)
  | _ => none
def tys1 : List String := ["NoneType", "bool", "int", "str", "bytes", "tuple", "list", "dict"]
def isTy (t T : String) : Bool := t == T || (t == "bool" && T == "int")
theorem isTy_kit : (tys1.all fun t => tys1.all fun T => decide (kitB t T = some (isTy t T))) = true := by decide +kernel
theorem tyN_mem {A : AH} {v : MV} {t : String} (h : tyN A v = some t) : t ∈ tys1 := by
  unfold tyN at h
  split at h
  any_goals (cases h; decide)
  · split at h <;> first | (cases h; decide) | cases h
  · cases h
theorem SqT.ty {K : PySem.W.Frag} {H : Hp} {a : Addr} {xs : List V} (h : SqT K H a xs) : TyX K H (.ref a) (.type "tuple") := by
  rcases h with (h | ⟨o, h⟩) | ⟨o, n, its, h1, h2, h3, h4⟩
  · exact .base (.tup h)
  · exact .fTuple h
  · exact .kTuple h1 h2
theorem tyN_rel {K : PySem.W.Frag} {ι : Io} {H : Hp} {A : AH} {v : MV} {u : V} {t : String} (S : Sim K ι A H) (r : RV K ι H v u) (h : tyN A v = some t) : TyX K H u (.type t) := by
  cases r with
  | non => cases h; exact .base .non
  | bl b => cases h; exact .base (.bl b)
  | int b => cases h; exact .base (.int b)
  | str b => cases h; exact .base (.str b)
  | byt b => cases h; exact .byt b
  | ty b => cases h
  | glo b => cases h
  | obj _ _ _ => cases h
  | tup hh rs => cases h; exact SqT.ty (hh.elim (fun h => .inl h.2) sqT0)
  | ptp n hh d rs => cases h; exact .fTuple hh
  | lst hh rs =>
    cases h
    rcases hh.2 with h | ⟨o, h⟩
    · exact .base (.lst h)
    · exact .base (.frz h)
  | @ref n a e =>
    unfold tyN at h
    dsimp only at h
    split at h
    · rename_i q
      cases h
      cases S.ok n a _ e q with
      | lst h _ => exact .base (.lst h)
    · rename_i q
      cases h
      cases S.ok n a _ e q with
      | lkl h _ => exact .base (.frz h)
    · rename_i q
      cases h
      cases S.ok n a _ e q with
      | dct h _ => exact .base (.dK h)
    · rename_i q
      cases h
      cases S.ok n a _ e q with
      | lkd h _ => exact .fDict h
    · cases h
def isiM : List MV → AH → Rs MV := fun ms A => match ms with
  | [v, .ty T] => (match tyN A v with
    | some t => if tys1.contains T then .ok (.bl (isTy t T)) A else .bad
    | none => .bad)
  | _ => .bad
theorem m_isi (hm : X.mg "isinstance" = none) (ha : PA X [e, e2] (tMA X.K W g)) (hg : Gl X "isinstance" := by rfl) (he : starEach [e, e2] X.env = (false, eval e X.env) :: starEach [e2] X.env := by rfl) (hpl : (backTo pos (starEach [e2] X.env)).any (·.1) = false := by rfl) : PE X (.Call (.Name "isinstance" p) [e, e2] [] pos) (tM X.K W fun ρ A => (g ρ A).bind isiM) :=
  m_cB call_isi (fun {σ ι H A ms vs Q} S r h => by
    unfold isiM at h
    split at h
    · rename_i v T
      cases r with
      | cons rv rr => cases rr with
        | cons r2 r3 =>
          cases r3
          cases r2
          split at h
          · rename_i t et
            split at h
            · rename_i hT
              have hT : T ∈ tys1 := by simpa using hT
              have := List.all_eq_true.mp isTy_kit t (tyN_mem et)
              have := of_decide_eq_true (List.all_eq_true.mp this T hT)
              exact ⟨_, _, .type t, .type T, _, rfl, .ty T, tyN_rel S rv et, kit_ty this, h.ok0 ⟨S, .bl _⟩⟩
            · exact h.elim
          · exact h.elim
    · exact h.elim) hm PyProof.Rows.boot_isinstance ha hg (he := he) (hpl := hpl)
end
end Mv
/-! Mv9: errors: raise, try; own special methods; dict comprehensions -/
namespace Mv
open PySem PySem.Spec PyProof.Rows L2 Fk
/-! ### raise -/
def sRaise (c : Str) (mk : MV → List (Str × MV)) (fe : FE) : FS := fun ρ A => (fe ρ A).fs ρ fun v A => .err c (mk v) ρ A
section
variable {X : Cx} {W : Wi} {e : Expr} {fe : FE} {p pos : Pos}
theorem ms_raise {rpos : Pos} {c y : Str} {mk : V → List (Str × V)} {mkM : MV → List (Str × MV)} (hc : X.calm = true) (tk : Takes X W.w) (M : Mkr X.prog X.w X.K X.mg X.base (He.ga X.K c) y mk) (hr : Room 3 X.A) (hm : X.mg c = some (.ref (He.ga X.K c))) (he : PE X e (tM X.K W fe))
    (hk : ∀ {ι : Io} {H : Hp} {m : MV} {u : V}, RV X.K ι H m u → RFs X.K ι H (mkM m) (mk u)) (hg : Gl X c := by rfl) (hdb : (c == ("__debug__" : Str)) = false := by decide) (hse : starEach [e] X.env = [(false, eval e X.env)] := by rfl) : PS X (.Raise (some (.Call (.Name c p) [e] [] pos)) none rpos) (tMS X.K W (sRaise c mkM fe)) :=
  (ps_raise hc tk (pmk_ex1 M hr hg hm he hdb hse)).imp fun D σ H ⟨ι, A, ρ, S, E, h⟩ => RPS_bind S E h fun ι1 A1 v u H1 e1 ⟨S1, r1⟩ h1 => ⟨u, rfl, fun dx hd => h1 ι1 _ σ dx (Ext.new1 hd) (S1.new1 hd) ((E.ext e1).ext (Ext.new1 hd)) ⟨⟨_, upd_same, (hk r1).ext (Ext.new1 hd)⟩, S1.outA hd⟩⟩
end
/-! ### try -/
theorem Le.errR {K : PySem.W.Frag} {ι ι' : Io} {H H' : Hp} {fs : List (Str × MV)} {d : Addr} (l : Le ι H ι' H') (e : ErrR K ι H fs d) : ErrR K ι' H' fs d := by
  obtain ⟨⟨ps, h1, h2⟩, h3⟩ := e
  exact ⟨⟨ps, (l.keep d _ h3 h1).2, h2.le l⟩, (l.keep d _ h3 h1).1⟩
/-- in a suite: the error that is handled -/
def Wsu (K : PySem.W.Frag) (fs : List (Str × MV)) (d : Addr) (sl : Option (Nat × Addr)) : Wi := ⟨fun _ _ _ _ => False, fun ι H => ErrR K ι H fs d, fun l h => l.errR h, sl⟩
/-- a clause: the classes that are known to it, which of them it takes, its slot, its suite -/
structure Cl where
  cs : List Str
  sb : Str → Bool
  sl : Option Nat
  sf : Str → List (Str × MV) → FS
def unsl (i : Nat) : Fs → Fs
  | .nx ρ A => .nx (ρ.set i none) A
  | .bk ρ A => .bk (ρ.set i none) A
  | .ct ρ A => .ct (ρ.set i none) A
  | .err c fs ρ A => .bad
  | r => r
def noErr : Fs → Fs
  | .err c fs ρ A => .bad
  | r => r
def handleM : List Cl → Str → List (Str × MV) → FS
  | [], c, fs => fun ρ A => .err c fs ρ A
  | h :: r, c, fs => fun ρ A => if h.cs.contains c then (if h.sb c then (match h.sl with
      | none => noErr (h.sf c fs ρ A)
      | some i => unsl i (h.sf c fs (ρ.set i none) A)) else handleM r c fs ρ A) else .bad
def sTry (body : FS) (hs : List Cl) : FS := fun ρ A => match body ρ A with
  | .err c fs ρ' A' => handleM hs c fs ρ' A'
  | r => r
/-- what the clauses wish of an error of the body -/
def wCls (K : PySem.W.Frag) (W : Wi) (D : Ends) (hs : List Cl) : WX := fun cls d σ H => ∃ c dx fs ι A ρ, cls = .ref (He.ga K c) ∧ d = some dx ∧ Sim K ι A H ∧ REnv (Wi.of W.w) K ι H ρ σ ∧ ErrR K ι H fs dx ∧ RPS K (Wi.of W.w) D ι H (handleM hs c fs ρ A)
inductive ClsOk (X : Cx) : List ExceptHandler → List Cl → Prop
  | nil : ClsOk X [] []
  | one {x : Str} {h : Cl} {b₀ : Stmt} {suite : List Stmt} {np pos' : Pos} {hds : List ExceptHandler} {l : List Cl} (hc : Names X x (.ref (He.ga X.K x))) (hx : ∀ c ∈ h.cs, PySem.W.exmOne X.K (.ref (He.ga X.K c)) (.ref (He.ga X.K x)) = some (h.sb c)) (hsl : h.sl = none)
      (hsu : ∀ (a : Addr) (oe : Obj) (c : Str) (d : Addr) (fs : List (Str × MV)) (pn : List (Addr × Obj)), Zc (.ref (He.ga X.K c)) (some d) oe → (∃ vs, oe.data = .fields vs) → c ∈ h.cs → h.sb c = true → PSs (X.suite a ((a, oe) :: pn)) (b₀ :: suite) (tMS X.K (Wsu X.K fs d none) (h.sf c fs))) (r : ClsOk X hds l) :
      ClsOk X (.ExceptHandler (some (.Name x np)) none (b₀ :: suite) pos' :: hds) (h :: l)
  | as {x n : Str} {i : Nat} {h : Cl} {b₀ : Stmt} {suite : List Stmt} {np pos' : Pos} {hds : List ExceptHandler} {l : List Cl} (hc : Names X x (.ref (He.ga X.K x))) (hx : ∀ c ∈ h.cs, PySem.W.exmOne X.K (.ref (He.ga X.K c)) (.ref (He.ga X.K x)) = some (h.sb c)) (hsl : h.sl = some i)
      (hi : X.N[i]? = some n) (hln : X.env.kindOf n = some .local)
      (hsu : ∀ (a : Addr) (oe : Obj) (c : Str) (d : Addr) (fs : List (Str × MV)) (pn : List (Addr × Obj)), Zc (.ref (He.ga X.K c)) (some d) oe → (∃ vs, oe.data = .fields vs) → c ∈ h.cs → h.sb c = true → PSs (X.suite a ((a, oe) :: pn)) (b₀ :: suite) (tMS X.K (Wsu X.K fs d (some (i, a))) (h.sf c fs))) (r : ClsOk X hds l) :
      ClsOk X (.ExceptHandler (some (.Name x np)) (some n) (b₀ :: suite) pos' :: hds) (h :: l)
section
variable {X : Cx} {body : List Stmt} {h₀ : ExceptHandler} {hds : List ExceptHandler} {l : List Cl} {pos : Pos} {W : Wi} {fb : FS}
theorem ms_try (hs : X.stack = X.env :: X.outer) (hf : X.env.frame = some X.env.locals) (hN : X.N.Nodup) (tk : Takes X W.w)
    (hb : ∀ (W' : WX) (pn : List (Addr × Obj)) (xe : Value → Shared → Prop), Takes (X.tr pn xe) W' → PassesOwn (model X.prog X.w) X.A X.env xe → PSs (X.tr pn xe) body (tMS X.K (Wi.of W') fb))
    (hh : ClsOk X (h₀ :: hds) l) (hW : ∀ ι H, W.z ι H) (hW2 : W.sl = none) : PS X (.Try body (h₀ :: hds) [] [] pos) (tMS X.K W (sTry fb l)) := by
  refine ⟨fun pins s σ H D I h => ?_⟩
  obtain ⟨ι0, A0, ρ0, S0, E0, h⟩ := h
  have ok := I.ok
  have hfr : X.A.frames = some (X.env :: X.outer) := by rw [ok.frames, hs]
  have toW : ∀ {ι H ρ σ} {w : WX}, REnv (Wi.of w) X.K ι H ρ σ → REnv W X.K ι H ρ σ := fun r => ⟨r.len, r.get, hW _ _, fun i a q => by rw [hW2] at q; cases q⟩
  refine wpAny_Try_except ?_
  refine wpAny_mono ((hb (wCls X.K W D l) (X.pn ++ pins) (fun e s₁ => wpAny (model X.prog X.w) X.A (noteFrame e X.env) (fun _ s₂ => wpAny (model X.prog X.w) X.A (setFlight e none) (fun _ s₃ =>
    wpAny (model X.prog X.w) X.A (handleBy e X.env (h₀ :: hds)) (SP X pins D) X.xe s₃) X.xe s₂) X.xe s₁) (fun u s' xx => ?_) PassesOwn.looking).run [] s σ H D (I.toTry _) ⟨ι0, A0, ρ0, S0, E0.w0, ?_⟩) (fun f s1 hsp => ?_) (fun e s1 he => he)
  · -- the catch
    obtain ⟨a, B, sI, pins', σ', H', cls, d, rfl, J', nb, up, sky, na, os, ag, w⟩ := xx
    have J : Inv X pins σ' H' sI := J'.ofTry ok
    have sky' : Sky B (X.env :: X.outer) a (Zc cls d) X.env.locals s'.heap := by rw [← hs]; exact sky
    show wpAny (model X.prog X.w) X.A (noteFrame (.ref a) X.env) _ _ _
    refine Sky.land Zc.steady hfr hf sky' fun h3 fl3 up3 => ?_
    have J3 : Inv X pins σ' H' { s' with heap := h3 } := J.landed nb fl3.1 (up.trans up3) os ag
    obtain ⟨oe3, vs3, he3, hz3, hd3⟩ := fl3.there
    have notFr : ∀ {h : Heap} {o : Obj} {vs : Array Value}, h.FunFrames B (X.env :: X.outer) → h.get? a = some o → o.data = .fields vs → a ∉ frs (X.env :: X.outer) := fun {h o vs} ff e dd hm => by
      obtain ⟨_, o', e', hnf⟩ := ff.mem hm
      rw [e] at e'; cases e'
      exact hnf _ dd
    have nfr := notFr fl3.2.2.1 he3 hd3
    have nL : a ≠ X.env.locals := fun z => nfr (List.mem_filterMap.mpr ⟨X.env, List.mem_cons_self, by rw [hf, z]⟩)
    have nF : a ∉ X.fs := fun hm => by
      obtain ⟨e, he, q⟩ := List.mem_filterMap.mp hm
      exact nfr (List.mem_filterMap.mpr ⟨e, List.mem_cons_of_mem _ he, q⟩)
    have S3 := J3.suite he3 hd3 na nL nF
    obtain ⟨c, dx, fs, ι, A, ρ, rfl, rfl, Sw, Ew, er, w⟩ := w
    have go : ∀ {hds' : List ExceptHandler} {l' : List Cl}, ClsOk X hds' l' → RPS X.K (Wi.of W.w) D ι H' (handleM l' c fs ρ A) →
        wpAny (model X.prog X.w) X.A (handleBy (.ref a) X.env hds') (SP X pins D) X.xe { s' with heap := h3 } := by
      intro hds' l' hk
      induction hk with
      | nil =>
        intro w
        refine wpAny_handleBy_nil ?_
        obtain ⟨k1, k2, k3, oe, vs, T, oT, ts', he, hz, hd, h1, hr⟩ := id fl3
        unfold PySem.passOn
        refine wpAny_bind (wpAny_field he hd h1 ?_)
        rw [if_neg (show ¬ ((Value.ref T == Value.none) = true) from by simp)]
        have fin : wpAny (model X.prog X.w) X.A (setFlight (.ref a) X.env.frame) (fun _ s4 => wpAny (model X.prog X.w) X.A (throw (.ref a) : Sem Flow) (SP X pins D) X.xe s4) X.xe { s' with heap := h3 } := by
          rw [hf]
          refine HandSPX.setFlight_upZ fl3 fun h4 hh4 up4 => wpAny_throw (tk _ _ ?_)
          exact ⟨a, B, sI, pins, σ', H', .ref (He.ga X.K c), some dx, rfl, J, nb, (up.trans up3).trans up4, .inr (.inr (by rw [hs]; exact hh4)), na, os, ag, w ι H' σ' dx (Ext.refl _ _) Sw Ew er⟩
        first
          | exact wpAny_bind (wpAny_pure (wpAny_bind fin))
          | exact wpAny_bind fin
      | @one x h b₀ suite np pos' hds2 l2 hc hx hsl hsu r ih =>
        intro w
        unfold handleM at w
        by_cases hcs : h.cs.contains c = true
        · rw [if_pos hcs] at w
          have hb1 := hx c (by simpa using hcs)
          refine wpAny_handleBy_cons (codeAny_handlers_test ?_) (by intro q; cases q)
          have LT : PySem.W.Looks (model X.prog X.w) h3 (typeOf (.ref a)) (.ref (He.ga X.K c)) := fun A Q E s k q => wpAny_typeOf_ref (k _ _ he3) (by rw [hz3.1]; exact q)
          have LM := PySem.W.exm_one (M := model X.prog X.w) (J3.kIn) LT hb1
          have test : ∀ {Q : Value → Shared → Prop} {E : Value → Shared → Prop}, Q (.ref (He.ga X.K x)) { s' with heap := h3 } → wpAny (model X.prog X.w) (X.A.mark (some (.ref a))) (eval (.Name x np) X.env) Q E { s' with heap := h3 } := fun {Q E} q => by
            obtain ⟨hg, hdbg, hm | ⟨hm, hv, hnn⟩⟩ := hc
            · exact ld_glob (X := X.suite a ((a, oe3) :: (X.pn ++ pins))) S3 hg hm q hdbg
            · exact ld_blt (X := X.suite a ((a, oe3) :: (X.pn ++ pins))) S3 hg hm hv q hnn hdbg
          refine test (LM.here ?_)
          cases hsb : h.sb c with
          | true =>
            rw [hsb, if_pos rfl, hsl] at w
            dsimp only at w
            refine codeAny_handlers_suite ?_
            refine HandSPX.lands_againZ fl3 fun h4 fl4 up4 => ?_
            have J4 : Inv X pins σ' H' { s' with heap := h4 } := J.landed nb fl4.1 ((up.trans up3).trans up4) os ag
            obtain ⟨oe4, vs4, he4, hz4, hd4⟩ := fl4.there
            have S4 := J4.suite he4 hd4 na nL nF
            refine wpAny_mono ((hsu a oe4 c dx fs (X.pn ++ pins) hz4 ⟨_, hd4⟩ (by simpa using hcs) hsb).run [] _ _ H' D S4 ⟨ι, A, ρ, Sw, ⟨Ew.len, Ew.get, er, fun _ _ q => nomatch q⟩, ?_⟩) (fun f s6 hsp => ?_) (fun _ _ z => False.elim z)
            · cases ef : h.sf c fs ρ A with
              | nx ρ' A' => rw [ef] at w; exact fun ι' H' σ' x s q => w ι' H' σ' x s q.w0
              | bk ρ' A' => rw [ef] at w; exact fun ι' H' σ' x s q => w ι' H' σ' x s q.w0
              | ct ρ' A' => rw [ef] at w; exact fun ι' H' σ' x s q => w ι' H' σ' x s q.w0
              | rt v A' => rw [ef] at w; exact w
              | err c' fs' ρ' A' => rw [ef] at w; exact w.elim
              | bad => rw [ef] at w; exact w
            · cases f with
              | next =>
                obtain ⟨σ6, H6, S6, q6⟩ := hsp
                exact ⟨_, _, S6.unsuite ok, q6⟩
              | brk =>
                obtain ⟨σ6, H6, S6, q6⟩ := hsp
                exact ⟨_, _, S6.unsuite ok, q6⟩
              | cont =>
                obtain ⟨σ6, H6, S6, q6⟩ := hsp
                exact ⟨_, _, S6.unsuite ok, q6⟩
              | ret u =>
                obtain ⟨v6, σ6, H6, S6, r6, q6⟩ := hsp
                exact ⟨_, _, _, S6.unsuite ok, r6, q6⟩
          | false =>
            rw [hsb, if_neg Bool.false_ne_true] at w
            show wpAny _ X.A (handleBy (.ref a) X.env hds2) _ _ _
            exact ih w
        · rw [if_neg hcs] at w
          exact w.elim
      | @as x n i h b₀ suite np pos' hds2 l2 hc hx hsl hi hln hsu r ih =>
        intro w
        unfold handleM at w
        by_cases hcs : h.cs.contains c = true
        · rw [if_pos hcs] at w
          have hb1 := hx c (by simpa using hcs)
          have hloc : Loc X.env.scope n := .inl hln
          refine wpAny_handleBy_cons (codeAny_handlers_test ?_) (by intro q; cases q)
          have LT : PySem.W.Looks (model X.prog X.w) h3 (typeOf (.ref a)) (.ref (He.ga X.K c)) := fun A Q E s k q => wpAny_typeOf_ref (k _ _ he3) (by rw [hz3.1]; exact q)
          have LM := PySem.W.exm_one (M := model X.prog X.w) (J3.kIn) LT hb1
          have test : ∀ {Q : Value → Shared → Prop} {E : Value → Shared → Prop}, Q (.ref (He.ga X.K x)) { s' with heap := h3 } → wpAny (model X.prog X.w) (X.A.mark (some (.ref a))) (eval (.Name x np) X.env) Q E { s' with heap := h3 } := fun {Q E} q => by
            obtain ⟨hg, hdbg, hm | ⟨hm, hv, hnn⟩⟩ := hc
            · exact ld_glob (X := X.suite a ((a, oe3) :: (X.pn ++ pins))) S3 hg hm q hdbg
            · exact ld_blt (X := X.suite a ((a, oe3) :: (X.pn ++ pins))) S3 hg hm hv q hnn hdbg
          refine test (LM.here ?_)
          cases hsb : h.sb c with
          | true =>
            rw [hsb, if_pos rfl, hsl] at w
            dsimp only at w
            refine codeAny_handlers_suite_as ?_
            refine HandSPX.lands_againZ fl3 fun h4 fl4 up4 => ?_
            have J4 : Inv X pins σ' H' { s' with heap := h4 } := J.landed nb fl4.1 ((up.trans up3).trans up4) os ag
            obtain ⟨oe4, vs4, he4, hz4, hd4⟩ := fl4.there
            have S4 := J4.suite he4 hd4 na nL nF
            refine store_ok (X := X.suite a ((a, oe4) :: (X.pn ++ pins))) (v := .ref a) S4 hN hi hloc rfl (fun s5 S5 => ?_) (.inr hln)
            have il : i < ρ.length := by
              rw [Ew.len]
              have := J.len
              rw [this]
              exact (List.getElem?_eq_some_iff.mp hi).1
            have E5 : REnv (Wsu X.K fs dx (some (i, a))) X.K ι H' (ρ.set i none) (σ'.set i (some (.ref a))) := by
              refine ⟨by rw [List.length_set, List.length_set]; exact Ew.len, fun j v e => ?_, er, fun j b q e => ?_⟩
              · by_cases hj : i = j
                · subst hj
                  rw [List.getElem?_set_self il] at e
                  cases e
                · rw [List.getElem?_set_ne hj] at e ⊢
                  exact Ew.get j v e
              · cases q
                rw [List.getElem?_set_self (by rw [← Ew.len]; exact il)]
            refine wpAny_mono ((hsu a oe4 c dx fs (X.pn ++ pins) hz4 ⟨_, hd4⟩ (by simpa using hcs) hsb).run [] s5 _ H' ⟨fun σ' H' => D.nx (σ'.set i none) H', D.rt, fun σ' H' => D.bk (σ'.set i none) H', fun σ' H' => D.ct (σ'.set i none) H'⟩ S5 ⟨ι, A, _, Sw, E5, ?_⟩) (fun f s6 hsp => ?_) (fun _ _ z => False.elim z)
            · cases ef : h.sf c fs (ρ.set i none) A with
              | nx ρ' A' => rw [ef] at w; exact fun ι' H' σ' x s q => w ι' H' _ x s (q.w0.unset i none)
              | bk ρ' A' => rw [ef] at w; exact fun ι' H' σ' x s q => w ι' H' _ x s (q.w0.unset i none)
              | ct ρ' A' => rw [ef] at w; exact fun ι' H' σ' x s q => w ι' H' _ x s (q.w0.unset i none)
              | rt v A' => rw [ef] at w; exact w
              | err c' fs' ρ' A' => rw [ef] at w; exact w.elim
              | bad => rw [ef] at w; exact w
            · have end_ : ∀ {σ6 : L2.St} {H6 : Hp} {Q : Shared → Prop}, Inv (X.suite a ((a, oe4) :: (X.pn ++ pins))) [] σ6 H6 s6 → (∀ s7, Inv X pins (σ6.set i none) H6 s7 → Q s7) →
                  wpAny (model X.prog X.w) X.A (do bindName X.env n .none; unbindBehindTheSuite X.env n pos') (fun _ s7 => Q s7) X.xe s6 := fun {σ6 H6 Q} S6 hq => gone_ok (S6.unsuite ok) hN hi hln hq
              cases f with
              | next =>
                obtain ⟨σ6, H6, S6, q6⟩ := hsp
                exact end_ S6 fun s7 J7 => ⟨_, _, J7, q6⟩
              | brk =>
                obtain ⟨σ6, H6, S6, q6⟩ := hsp
                exact end_ S6 fun s7 J7 => ⟨_, _, J7, q6⟩
              | cont =>
                obtain ⟨σ6, H6, S6, q6⟩ := hsp
                exact end_ S6 fun s7 J7 => ⟨_, _, J7, q6⟩
              | ret u =>
                obtain ⟨v6, σ6, H6, S6, r6, q6⟩ := hsp
                exact end_ S6 fun s7 J7 => ⟨_, _, _, J7, r6, q6⟩
          | false =>
            rw [hsb, if_neg Bool.false_ne_true] at w
            show wpAny _ X.A (handleBy (.ref a) X.env hds2) _ _ _
            exact ih w
        · rw [if_neg hcs] at w
          exact w.elim
    exact go hh w
  · unfold sTry at h
    cases ef : fb ρ0 A0 with
    | nx ρ' A' => rw [ef] at h; exact fun ι' H' σ' x s q => h ι' H' σ' x s (toW q)
    | bk ρ' A' => rw [ef] at h; exact fun ι' H' σ' x s q => h ι' H' σ' x s (toW q)
    | ct ρ' A' => rw [ef] at h; exact fun ι' H' σ' x s q => h ι' H' σ' x s (toW q)
    | rt v A' => rw [ef] at h; exact h
    | bad => rw [ef] at h; exact h
    | err c fs ρ' A' =>
      rw [ef] at h
      intro ι' H' σ' d x s q er
      refine ⟨c, d, fs, ι', A', ρ', rfl, rfl, s, q.w0, er, ?_⟩
      have h2 : RPS X.K W D ι' H' (handleM l c fs ρ' A') := RPS.ext x h
      cases eg : handleM l c fs ρ' A' with
      | nx ρ2 A2 => rw [eg] at h2; exact fun ι' H' σ' x s q => h2 ι' H' σ' x s (toW q)
      | bk ρ2 A2 => rw [eg] at h2; exact fun ι' H' σ' x s q => h2 ι' H' σ' x s (toW q)
      | ct ρ2 A2 => rw [eg] at h2; exact fun ι' H' σ' x s q => h2 ι' H' σ' x s (toW q)
      | rt v A2 => rw [eg] at h2; exact h2
      | bad => rw [eg] at h2; exact h2
      | err c2 fs2 ρ2 A2 => rw [eg] at h2; exact fun ι' H' σ' d x s q er => h2 ι' H' σ' d x s (toW q) er
  · cases f with
    | next =>
      obtain ⟨σ', H', J', q⟩ := hsp
      exact wpAny_execs_nil ⟨σ', H', J'.ofTry ok, q⟩
    | brk =>
      obtain ⟨σ', H', J', q⟩ := hsp
      exact ⟨σ', H', J'.ofTry ok, q⟩
    | cont =>
      obtain ⟨σ', H', J', q⟩ := hsp
      exact ⟨σ', H', J'.ofTry ok, q⟩
    | ret u =>
      obtain ⟨v, σ', H', J', r, q⟩ := hsp
      exact ⟨v, σ', H', J'.ofTry ok, r, q⟩
end
/-- e.f in a suite -/
def eExf (i : Nat) (fs : List (Str × MV)) (f : Str) : FE := fun ρ A => match ρ[i]? with
  | some none => (match fs.lookup f with
    | some v => .ok v A
    | none => .bad)
  | _ => .bad
theorem m_exf {X : Cx} {c f n : Str} {i : Nat} {a d : Addr} {oe : Obj} {fs : List (Str × MV)} {pn : List (Addr × Obj)} {pos npos : Pos} (hz : Zc (.ref (He.ga X.K c)) (some d) oe) (hf : ∃ vs, oe.data = .fields vs) (T : XfC X.K (He.ga X.K c)) (hno : PySem.W.findIn X.K (.ref (He.ga X.K c)) f = some none)
    (hN : (X.suite a ((a, oe) :: pn)).N[i]? = some n := by rfl) (hv : Vis (X.suite a ((a, oe) :: pn)).env.scope n := by first | exact Or.inl rfl | exact Or.inr (Or.inl rfl) | exact Or.inr (Or.inr rfl)) (hd : (n == ("__debug__" : Str)) = false := by decide) (hcd : (n == ("__classdict__" : Str)) = false := by decide)
    (hb : attributeBase (.Name n npos) f (X.suite a ((a, oe) :: pn)).env (eval (.Name n npos) (X.suite a ((a, oe) :: pn)).env) = eval (.Name n npos) (X.suite a ((a, oe) :: pn)).env := by rfl) :
    PE (X.suite a ((a, oe) :: pn)) (.Attribute (.Name n npos) f pos) (tM X.K (Wsu X.K fs d (some (i, a))) (eExf i fs f)) := by
  refine ⟨fun pins s σ H Q I ⟨ι, A, ρ, S, E, h⟩ => ?_⟩
  unfold eExf at h
  split at h
  · rename_i er
    split at h
    · rename_i v ev
      have hs := E.sl i a rfl er
      refine attr_of hb (thn ((pe_var hN hv hd hcd).run pins s σ H (fun u H1 => u = .ref a ∧ H1 = H) I ⟨_, hs, rfl, rfl⟩) fun u s1 ⟨x, H1, I1, rx, ex, e1⟩ => ?_)
      subst ex e1
      obtain rfl : u = Value.ref a := rx
      obtain ⟨⟨ps, hd1, rf⟩, _⟩ := E.z
      obtain ⟨b, hb', rb⟩ := rf.get ev
      obtain ⟨mA, hns, hr⟩ := (show ObjOk _ _ H1 s1.heap d (.xd ps) from I1.hok d _ hd1)
      obtain ⟨od, ho, hl⟩ := lookIn_ns hns
      obtain ⟨w, hw, rw'⟩ := RelO.some_of (v := b) (o := mA f) (by rw [← hb']; exact hr f)
      obtain ⟨ha, _⟩ := I1.pin (a, oe) (List.mem_append_left _ List.mem_cons_self)
      obtain ⟨vs, hdd⟩ := hf
      have J : PySem.W.InstAt s1.heap a oe (He.ga X.K c) (some od) := ⟨ha, hz.1, by unfold PySem.W.notCls; rw [hdd] <;> rfl, by rw [hz.2]; exact ho⟩
      exact HandSPX.exc_get I1.kIn J T.ga T.gg T.exC (PySem.W.findObj_own T.hdC hno rfl (by rw [hl, hw])) (handed_of rw') ⟨b, H1, I1.tok _, rw', h.ok0 ⟨S, rb⟩⟩
    · exact h.elim
  · exact h.elim
/-! ### own special methods -/
section
variable {X : Cx} {W : Wi} {k : Nat} {f : Addr} {fd : FuncData} {ps : List Str} {F : FF} {C : Str} {e o i : Expr} {fo fi : FE} {p pos : Pos} {es : List Expr}
theorem run_MA {pins : List (Addr × Obj)} {σ : L2.St} {H : Hp} {s : Shared} {Q : VK} {us : List Value} {vs : List V} {ms : List MV} {ι : Io} {A : AH} {A' : Around} (G : FnOk X.prog X.w X.K X.mg X.base (L2.CX X.prog X.w) k f fd ps (spM X.K ps.length F)) (sb : L2.Sub X k A') (B : Binds X.K fd ps []) (tk : Takes X W.w)
    (I : Inv X pins σ H s) (S : Sim X.K ι A H) (rm : RVs X.K ι H ms vs) (l1 : ms.length = ps.length) (r : Vals vs us) (h : RP X.K W σ (rV X.K) ι H (F ms A) Q) : wpAny (model X.prog X.w) A' (call (.ref f) us) (EP X pins σ Q) X.xe s := by
  have e0 : Env0 X.prog X.w X.K X.mg X.base A' X.stack s H := by
    have e := I.env0
    exact ⟨by rw [sb.fr]; exact e.frames, e.mod, e.bs, e.bsz, e.funs, e.frf, e.hok, e.bare⟩
  have hl : vs.length = ps.length := by rw [← rm.length, l1]
  have b := B s us I.kIn (by rw [List.append_nil, ← r.length, hl])
  rw [List.append_nil] at b
  refine wpAny_call (codeAny_mono (G.run A' X.stack s H ⟨us, []⟩ us vs Q (WE W.w σ) sb.room e0 b r ⟨hl, ι, A, _, S, rm, h.wi fun _ _ _ z => z⟩) fun r s' hq => ?_)
  cases r with
  | error e => exact passAt tk σ pins H s e s' I hq
  | ok fl =>
    cases fl with
    | ret u => exact I.after hq
    | next => exact False.elim hq
    | brk => exact False.elim hq
    | cont => exact False.elim hq
theorem inst_at {pins : List (Addr × Obj)} {σ : L2.St} {H : Hp} {s : Shared} {a dx D : Addr} {qs : List (Str × V)} (I : Inv X pins σ H s) (ha : H a = some (.ins D dx qs)) : ∃ ox od, PySem.W.InstAt s.heap a ox D od := by
  obtain ⟨mA, J, _⟩ := ins_get I.hok ha
  obtain ⟨od, J, _⟩ := J.look
  exact ⟨_, _, J⟩
def eGetI (C : Str) (F : FF) (fo fi : FE) : FE := fun ρ A => (fo ρ A).bind fun v A => (fi ρ A).bind fun w A => match insOf C A v with
  | some _ => F [v, w] A
  | none => .bad
theorem m_getitem (hm : Meth X.K (He.ga X.K C) "__getitem__" f) (G : FnOk X.prog X.w X.K X.mg X.base (L2.CX X.prog X.w) k f fd ps (spM X.K ps.length F)) (hf : PySem.W.fnIn X.K f = true) (B : Binds X.K fd ps []) (hp : ps.length = 2) (hr : Room (k + 1) X.A) (tk : Takes X W.w) (ho : PE X o (tM X.K W fo)) (hi : PE X i (tM X.K W fi))
    (hsl : ∀ x j, subscripted i true x j = runValue (.builtin "lifetime.subscript" ⟨[x, j], []⟩) := by intro _ _; rfl) : PE X (.Subscript o i pos) (tM X.K W (eGetI C F fo fi)) := by
  refine ⟨fun pins s σ H Q I ⟨ι, A, ρ, S, E, h⟩ => ?_⟩
  refine Subscript_ (binT (R := fun x y H2 => ∃ ι A v w fs, Sim X.K ι A H2 ∧ RV X.K ι H2 v x ∧ RV X.K ι H2 w y ∧ insOf C A v = some fs ∧ RP X.K W σ (rV X.K) ι H2 (F [v, w] A) Q) ho hi I ?_ fun v u s2 x y H2 I2 rx ry q => ?_)
  · refine RP_bind S E h fun ι1 A1 x u H1 e1 ⟨S1, r1⟩ h1 => RP_bind S1 (E.ext e1) h1 fun ι2 A2 y v H2 e2 ⟨S2, r2⟩ h2 => ?_
    cases q : insOf C A2 x with
    | none => rw [q] at h2; exact h2.elim
    | some fs =>
      rw [q] at h2
      exact ⟨ι2, A2, x, y, fs, S2, r1.ext e2, r2, q, h2⟩
  · obtain ⟨ι, A, mv, mw, fs, S2, r1, r2, qi, h2⟩ := q
    obtain ⟨a, dx, qs, rfl, ha, rf⟩ := S2.insOf r1 qi
    cases rx
    obtain ⟨ox, od, J⟩ := inst_at I2 ha
    obtain ⟨m, hF⟩ := I2.fr
    exact PySem.W.sub_K hF I2.ok.mod.kin J hm.at_ hf hm.fn (run_MA (vs := [.ref a, y]) G ⟨hr.in1, rfl⟩ B tk I2 S2 (.cons r1 (.one r2)) (by rw [hp]; rfl) (.cons rfl (.cons ry .nil)) h2) (hsl _ _)
/-- x in o, by an own __contains__ -/
def inO (C : Str) (F : FF) (neg : Bool) (fe fo : FE) : FE := fun ρ A => (fe ρ A).bind fun w A => (fo ρ A).bind fun v A => match insOf C A v with
  | some _ => (F [v, w] A).bind fun r A => (match r with
    | .bl b => .ok (.bl (neg != b)) A
    | _ => .bad)
  | none => .bad
theorem inO_run {neg : Bool} {op : CmpOp} (hop : ∀ {pins : List (Addr × Obj)} {σ : L2.St} {H : Hp} {s : Shared} {a : Addr} {u : Value} {ox : Obj} {od : Option Obj} {Q : VK}, Inv X pins σ H s → PySem.W.InstAt s.heap a ox (He.ga X.K C) od → wpAny (model X.prog X.w) X.A (call (.ref f) [.ref a, u]) (fun r s' => ∃ b H', r = .bool b ∧ Inv X pins σ H' s' ∧ Q (.bl (neg != b)) H') X.xe s → wpAny (model X.prog X.w) X.A (compareOp op u (.ref a)) (EP X pins σ Q) X.xe s)
    (G : FnOk X.prog X.w X.K X.mg X.base (L2.CX X.prog X.w) k f fd ps (spM X.K ps.length F)) (B : Binds X.K fd ps []) (hp : ps.length = 2) (hr : Room k X.A) (tk : Takes X W.w) (he : PE X e (tM X.K W fi)) (ho : PE X o (tM X.K W fo)) : PC X op e o (tM X.K W (inO C F neg fi fo)) := by
  refine ⟨fun pins s σ H Q I ⟨ι, A, ρ, S, E, h⟩ => ?_⟩
  refine (binT (R := fun y x H2 => ∃ ι A v w fs, Sim X.K ι A H2 ∧ RV X.K ι H2 v x ∧ RV X.K ι H2 w y ∧ insOf C A v = some fs ∧ RP X.K W σ (rV X.K) ι H2 ((F [v, w] A).bind fun r A => (match r with
    | .bl b => .ok (.bl (neg != b)) A
    | _ => .bad)) Q) he ho I ?_ fun v u s2 x y H2 I2 rx ry q => ?_)
  · refine RP_bind S E h fun ι1 A1 x u H1 e1 ⟨S1, r1⟩ h1 => RP_bind S1 (E.ext e1) h1 fun ι2 A2 y v H2 e2 ⟨S2, r2⟩ h2 => ?_
    cases q : insOf C A2 y with
    | none => rw [q] at h2; exact h2.elim
    | some fs =>
      rw [q] at h2
      exact ⟨ι2, A2, y, x, fs, S2, r2, r1.ext e2, q, h2⟩
  · obtain ⟨ι, A, mv, mw, fs, S2, r1, r2, qi, h2⟩ := q
    obtain ⟨a, dx, qs, rfl, ha, rf⟩ := S2.insOf r1 qi
    cases ry
    obtain ⟨ox, od, J⟩ := inst_at I2 ha
    refine hop I2 J (wpAny_mono (run_MA (vs := [.ref a, x]) (Q := fun r H' => ∃ b, r = .bl b ∧ Q (.bl (neg != b)) H') G ⟨hr, rfl⟩ B tk I2 S2 (.cons r1 (.one r2)) (by rw [hp]; rfl) (.cons rfl (.cons rx .nil)) (RP.bnd h2 fun ι3 A3 m z H3 e3 ⟨S3, r3⟩ h3 => ?_)) (fun r s' ⟨z, H', I', rz, b, eb, qb⟩ => ?_) fun _ _ x => x)
    · cases r3 with
      | bl b => exact ⟨b, rfl, h3.ok0 ⟨S3, .bl _⟩⟩
      | _ => exact h3.elim
    · subst eb
      cases rz
      exact ⟨b, H', rfl, I', qb⟩
theorem m_inO (hm : Meth X.K (He.ga X.K C) "__contains__" f) (G : FnOk X.prog X.w X.K X.mg X.base (L2.CX X.prog X.w) k f fd ps (spM X.K ps.length F)) (B : Binds X.K fd ps []) (hp : ps.length = 2) (hr : Room k X.A) (tk : Takes X W.w) (he : PE X e (tM X.K W fi)) (ho : PE X o (tM X.K W fo)) : PC X .In e o (tM X.K W (inO C F false fi fo)) :=
  inO_run (neg := false) (fun {pins σ H s a u ox od Q} I J h => by
    obtain ⟨m, hF⟩ := I.fr
    refine PySem.W.in_K hF I.ok.mod.kin J hm.at_ hm.fn (wpAny_mono h (fun r s' ⟨b, H', er, I', q⟩ => ?_) fun _ _ x => x)
    subst er
    rw [nb] at q
    exact wpAny_truthy_bool ⟨.bl b, H', I', rfl, q⟩) G B hp hr tk he ho
theorem m_notInO (hm : Meth X.K (He.ga X.K C) "__contains__" f) (G : FnOk X.prog X.w X.K X.mg X.base (L2.CX X.prog X.w) k f fd ps (spM X.K ps.length F)) (B : Binds X.K fd ps []) (hp : ps.length = 2) (hr : Room k X.A) (tk : Takes X W.w) (he : PE X e (tM X.K W fi)) (ho : PE X o (tM X.K W fo)) : PC X .NotIn e o (tM X.K W (inO C F true fi fo)) :=
  inO_run (neg := true) (fun {pins σ H s a u ox od Q} I J h => by
    obtain ⟨m, hF⟩ := I.fr
    refine PySem.W.notIn_K hF I.ok.mod.kin J hm.at_ hm.fn (wpAny_mono h (fun r s' ⟨b, H', er, I', q⟩ => ?_) fun _ _ x => x)
    subst er
    rw [tb] at q
    exact wpAny_truthy_bool ⟨.bl (!b), H', I', rfl, q⟩) G B hp hr tk he ho
/-- len(o), by an own __len__ -/
def lenO (C : Str) (F : FF) : List MV → AH → Rs MV := fun ms A => match ms with
  | [v] => (match insOf C A v with
    | some _ => (F [v] A).bind fun r A => (match r with
      | .int n => if 0 ≤ n ∧ n ≤ 1000000 then .ok (.int n) A else .bad
      | _ => .bad)
    | none => .bad)
  | _ => .bad
theorem m_lenO {g : FL} (hm : Meth X.K (He.ga X.K C) "__len__" f) (G : FnOk X.prog X.w X.K X.mg X.base (L2.CX X.prog X.w) k f fd ps (spM X.K ps.length F)) (B : Binds X.K fd ps []) (hp : ps.length = 1) (hr : Room (k + 1) X.A) (tk : Takes X W.w) (hl : X.mg "len" = none) (ha : PA X [e] (tMA X.K W g)) (hg : Gl X "len" := by rfl) (he : starEach [e] X.env = (false, eval e X.env) :: starEach [] X.env := by rfl) : PE X (.Call (.Name "len" p) [e] [] pos) (tM X.K W fun ρ A => (g ρ A).bind (lenO C F)) := by
  refine ⟨fun pins s σ H Q I ⟨ι, A, ρ, S, E, h⟩ => ?_⟩
  refine wpAny_Call_Name_kw (ld_blt I hg hl PySem.boot_len ?_ (by decide) (by decide))
  refine PyProof.Rows.callWith_builtin1 (thn (ha.run pos pins s σ H (fun vs H2 => ∃ ι A ms, Sim X.K ι A H2 ∧ RVs X.K ι H2 ms vs ∧ RP X.K W σ (rV X.K) ι H2 (lenO C F ms A) Q) I ?_) fun us s1 ⟨vs, H1, I1, r1, ι, A, ms, S1, rm, h1⟩ => ?_) he rfl
  · exact RP_bind S E h fun ι1 A1 ms vs H1 e1 ⟨S1, r1⟩ h1 => ⟨ι1, A1, ms, S1, r1, h1⟩
  · unfold lenO at h1
    split at h1
    · rename_i v
      cases q : insOf C A v with
      | none => rw [q] at h1; exact h1.elim
      | some fs =>
        rw [q] at h1
        dsimp only at h1
        cases rm with
        | cons rv rr =>
          cases rr
          obtain ⟨a, dx, qs, rfl, ha1, rf⟩ := S1.insOf rv q
          obtain ⟨u, rfl, ru⟩ := vals1 r1
          cases ru
          obtain ⟨ox, od, J⟩ := inst_at I1 ha1
          obtain ⟨m, hF⟩ := I1.fr
          refine PySem.W.len_K hF I1.ok.mod.kin J hm.at_ hm.fn (wpAny_mono (run_MA (vs := [.ref a]) (Q := fun r H' => ∃ n, r = .int n ∧ (0 ≤ n ∧ n ≤ 1000000) ∧ Q (.int n) H') G ⟨hr.in1, rfl⟩ B tk I1 S1 (.one rv) (by rw [hp]; rfl) (.cons rfl .nil) (RP.bnd h1 fun ι3 A3 m z H3 e3 ⟨S3, r3⟩ h3 => ?_)) (fun r s' ⟨z, H', I', rz, n, en, hn, qn⟩ => ?_) fun _ _ x => x)
          · cases r3 with
            | int n =>
              dsimp only at h3
              split at h3
              · rename_i hn
                exact ⟨n, rfl, hn, h3.ok0 ⟨S3, .int _⟩⟩
              · exact h3.elim
            | _ => exact h3.elim
          · subst en
            obtain ⟨t, rfl⟩ := rz
            exact ⟨⟨by omega, by omega⟩, .int n, H', I'.tok _, ⟨_, rfl⟩, qn⟩
    · exact h1.elim
end
end Mv
/-! MvA: dict comprehensions; how arguments bind -/
namespace Mv
open PySem PySem.Spec PyProof.Rows L2 Fk
/-! ### dict comprehensions -/
def dElt (t : FB) (fk fv : FE) : List (Key × MV) → ME → AH → Rs (List (Key × MV)) := fun acc ρ A => match t ρ A with
  | .ok true A1 => (match fk ρ A1 with
    | .ok kv A2 => (match fv ρ A2 with
      | .ok m A3 => (match keyOf kv with
        | some key => if acc.length < 1000000 then .ok (putM acc key m) A3 else .bad
        | none => .bad)
      | _ => .bad)
    | _ => .bad)
  | .ok false A1 => .ok acc A1
  | _ => .bad
def dRun (is : List Nat) (g : MV → Option (List MV)) (q : List (Key × MV) → ME → AH → Rs (List (Key × MV))) : List MV → List (Key × MV) → ME → AH → Rs (List (Key × MV))
  | [], acc, _, A => .ok acc A
  | x :: xs, acc, ρ, A => match g x with
    | none => .bad
    | some ms => match q acc (setAllM ρ is ms) A with
      | .ok acc' A1 => dRun is g q xs acc' ρ A1
      | _ => .bad
def eDc (fi : FL) (own is : List Nat) (g : MV → Option (List MV)) (q : List (Key × MV) → ME → AH → Rs (List (Key × MV))) : FE := fun ρ A => (fi ρ A).bind fun xs A => match dRun is g q xs [] (wipeM ρ own) A with
  | .ok kvs A' => .ok (.ref A'.length) (A' ++ [.dct kvs])
  | _ => .bad
structure DcS (K : PySem.W.Frag) (ι1 : Io) (H1 : Hp) (D : Addr) (tr : List Addr) (H : Hp) (A : AH) (acc : List (Key × MV)) : Prop where
  e : Ext ι1 H1 ⟨tr, ι1.pv⟩ H
  S : Sim K ⟨tr, D :: ι1.pv⟩ A H
  nt : D ∉ tr
  ex : ∃ ps, H D = some (.dK ps) ∧ RKs K ⟨tr, D :: ι1.pv⟩ H acc ps
section
variable {K : PySem.W.Frag} {ι1 ι2 : Io} {H1 H H2 : Hp} {D : Addr} {tr : List Addr} {A A2 : AH} {acc : List (Key × MV)}
theorem DcS.go (L : DcS K ι1 H1 D tr H A acc) (x : Ext ⟨tr, D :: ι1.pv⟩ H ι2 H2) (S2 : Sim K ι2 A2 H2) : ι2 = ⟨ι2.tr, D :: ι1.pv⟩ ∧ DcS K ι1 H1 D ι2.tr H2 A2 acc := by
  obtain ⟨tr2, pv2⟩ := ι2
  have ep : pv2 = D :: ι1.pv := x.pv
  subst ep
  obtain ⟨xs, h1, h2⟩ := L.ex
  exact ⟨rfl, L.e.trans ⟨x.pre, rfl, x.new, x.keep, x.frz⟩, S2, x.out L.nt h1, xs, x.keep _ _ L.nt h1, h2.ext x⟩
theorem DcS.put (L : DcS K ι1 H1 D tr H A acc) (hf : H1 D = none) {m : MV} {y : V} (key : Key) (r : RV K ⟨tr, D :: ι1.pv⟩ H m y) : ∃ ps, H D = some (.dK ps) ∧ ps.length = acc.length ∧ DcS K ι1 H1 D tr (upd H D (.dK (putK ps key y))) A (putM acc key m) ∧ Lx ⟨tr, D :: ι1.pv⟩ H ⟨tr, D :: ι1.pv⟩ (upd H D (.dK (putK ps key y))) := by
  obtain ⟨ps, h1, h2⟩ := L.ex
  have l : Lx ⟨tr, D :: ι1.pv⟩ H ⟨tr, D :: ι1.pv⟩ (upd H D (.dK (putK ps key y))) := Lx.priv (List.mem_cons_self ..) (nofrz_dK h1)
  exact ⟨ps, h1, h2.length.symm, ⟨L.e.mutNew hf, L.S.priv (List.mem_cons_self ..) L.nt, L.nt, _, upd_same, (RKs.put (k := key) r h2).le l.le⟩, l⟩
end
section
variable {X : Cx} {W : Wi} {kx vx tg iter : Expr} {ifs : List Expr} {scope : Scope} {own : List (Str × Nat)} {pos : Pos} {fi : FL} {is : List Nat} {g : MV → Option (List MV)} {ft : FB} {fk fv : FE}
theorem m_dc (hc : X.calm = true) (hN : X.N.Nodup) (hi : PI X tg iter (tMI X.K W fi)) (ok : BlkOk X.N X.env.scope scope own) (hsub : ∀ i ∈ is, i ∈ own.map (·.2))
    (hg : ∀ (s : Shared) (H : Hp) (C : Addr) (cl : List (Str × Addr)) (fp : List Addr), TgM (X.blk s H scope (compEnvC scope cl C X.env) fp) tg is g) (ht : ∀ (s : Shared) (H : Hp) (C : Addr) (cl : List (Str × Addr)) (fp : List Addr), PTsM (X.blk s H scope (compEnvC scope cl C X.env) fp) W0 ifs ft)
    (hk : ∀ (s : Shared) (H : Hp) (C : Addr) (cl : List (Str × Addr)) (fp : List Addr), PE (X.blk s H scope (compEnvC scope cl C X.env) fp) kx (tM X.K W0 fk))
    (he : ∀ (s : Shared) (H : Hp) (C : Addr) (cl : List (Str × Addr)) (fp : List Addr), PE (X.blk s H scope (compEnvC scope cl C X.env) fp) vx (tM X.K W0 fv)) (hs : ∀ x, foldedSetIterable iter X.env x = pure x := by intro _; rfl) :
    PE X (.DictComp kx vx [⟨tg, iter, ifs, 0⟩] scope pos) (tM X.K W (eDc fi (own.map (·.2)) is g (dElt ft fk fv))) := by
  refine (pe_dc (g := tMG X.K is g) (tt := tMB X.K W0 ft) hc hN hi ok hg ht hk he hs).imp fun σ H Q h => ?_
  obtain ⟨ι, A, ρ, S, E, h⟩ := h
  refine RP_bind0 S E h fun ι1 A1 xs J H1 e1 ⟨S1, okJ⟩ h1 => ?_
  intro D hD
  cases er : dRun is g (dElt ft fk fv) xs [] (wipeM ρ (own.map (·.2))) A1 with
  | bad => rw [er] at h1; exact h1.elim
  | err c fs B => rw [er] at h1; exact h1.elim
  | ok kvs A' =>
    rw [er] at h1
    have l0 : Lx ι1 H1 ⟨ι1.tr, D :: ι1.pv⟩ (upd H1 D (.dK [])) := ⟨(Le.hide hD).trans ⟨List.prefix_refl _, fun p u n e => ⟨n, by
      rw [upd_ne (ne_of_none e hD)]
      exact e⟩⟩, fun p o u e => by
      rw [upd_ne (ne_of_none e hD)]
      exact e⟩
    have L0 : DcS X.K ι1 H1 D ι1.tr (upd H1 D (.dK [])) A1 [] := ⟨Ext.new1 hD, Sim.hide S1 hD, S1.out hD, [], upd_same, .nil⟩
    have ok2 := okJ.lx l0
    have E0 : REnv W0 X.K ⟨ι1.tr, D :: ι1.pv⟩ (upd H1 D (.dK [])) (wipeM ρ (own.map (·.2))) (L2.wipe σ (own.map (·.2))) := (((E.ext e1).le l0.le).w0.wipe _)
    refine ⟨fun i m H2 => ∃ tr2 A2 acc, DcS X.K ι1 H1 D tr2 H2 A2 acc ∧ Lx ⟨ι1.tr, D :: ι1.pv⟩ (upd H1 D (.dK [])) ⟨tr2, D :: ι1.pv⟩ H2 ∧ dRun is g (dElt ft fk fv) (xs.drop i) acc (wipeM ρ (own.map (·.2))) A2 = .ok kvs A' ∧ m = xs.length - i ∧ i ≤ xs.length, ⟨_, ι1.tr, A1, [], L0, Lx.refl _ _, er, rfl, Nat.zero_le _⟩, fun i m H2 ⟨tr2, A2, acc, L2, l2, hq2, em, hl⟩ => ?_⟩
    obtain ⟨k1, k2⟩ := ok2 _ _ _ l2 L2.S i
    by_cases hi : i < xs.length
    · obtain ⟨v, hv⟩ : ∃ v, xs[i]? = some v := ⟨_, List.getElem?_eq_getElem hi⟩
      obtain ⟨go, yl⟩ := k1 v hv
      have ed : xs.drop i = v :: xs.drop (i + 1) := by
        rw [List.drop_eq_getElem_cons hi]
        rw [List.getElem?_eq_getElem hi] at hv
        cases hv
        rfl
      rw [ed] at hq2
      unfold dRun at hq2
      cases eg : g v with
      | none => rw [eg] at hq2; cases hq2
      | some ms =>
        rw [eg] at hq2
        dsimp only at hq2
        cases ef : dElt ft fk fv acc (setAllM (wipeM ρ (own.map (·.2))) is ms) A2 with
        | bad => rw [ef] at hq2; cases hq2
        | err c fs B => rw [ef] at hq2; cases hq2
        | ok acc' A3 =>
          rw [ef] at hq2
          dsimp only at hq2
          refine .inr ⟨go, fun H' => ∃ tr3, DcS X.K ι1 H1 D tr3 H' A3 acc' ∧ Lx ⟨ι1.tr, D :: ι1.pv⟩ (upd H1 D (.dK [])) ⟨tr3, D :: ι1.pv⟩ H', fun H' ⟨tr3, L3, l3⟩ => ⟨xs.length - (i + 1), by omega, tr3, A3, acc', L3, l3, hq2, rfl, hi⟩, fun x H3 y => ?_⟩
          obtain ⟨e3, S3, r3⟩ := yl x H3 y
          obtain ⟨_, L3⟩ := L2.go e3 S3
          refine ⟨_, A2, v, ms, S3, r3, eg, fun zs hr hlz => ⟨wipe_wipe hsub, ?_⟩⟩
          have E3 := (E0.le (l2.trans e3.lx).le).setAll (is := is) hr
          have lx3 := l2.trans e3.lx
          unfold dElt at ef
          refine ⟨_, A2, _, S3, E3, ?_⟩
          cases et : ft (setAllM (wipeM ρ (own.map (·.2))) is ms) A2 with
          | bad => rw [et] at ef; cases ef
          | err c fs B => rw [et] at ef; cases ef
          | ok b B1 =>
            rw [et] at ef
            rintro ι4 H4 u x4 ⟨S4, rfl⟩
            obtain ⟨e4, L4⟩ := L3.go x4 S4
            cases b with
            | false =>
              cases ef
              rw [e4] at x4
              exact ⟨_, L4, lx3.trans x4.lx⟩
            | true =>
              dsimp only at ef
              cases ek : fk (setAllM (wipeM ρ (own.map (·.2))) is ms) B1 with
              | bad => rw [ek] at ef; cases ef
              | err c fs B => rw [ek] at ef; cases ef
              | ok kv B2 =>
                rw [ek] at ef
                dsimp only at ef
                refine ⟨ι4, B1, _, S4, E3.ext x4, ?_⟩
                rw [ek]
                rintro ι5 H5 yk x5 ⟨S5, r5⟩
                cases ev : fv (setAllM (wipeM ρ (own.map (·.2))) is ms) B2 with
                | bad => rw [ev] at ef; cases ef
                | err c fs B => rw [ev] at ef; cases ef
                | ok mv B3 =>
                  rw [ev] at ef
                  dsimp only at ef
                  refine ⟨ι5, B2, _, S5, (E3.ext x4).ext x5, ?_⟩
                  rw [ev]
                  rintro ι6 H6 z x6 ⟨S6, r6⟩
                  rw [e4] at x5
                  obtain ⟨e5, L5⟩ := L4.go x5 S5
                  rw [e5] at x6
                  obtain ⟨e6, L6⟩ := L5.go x6 S6
                  cases eo : keyOf kv with
                  | none => rw [eo] at ef; cases ef
                  | some key =>
                    rw [eo] at ef
                    dsimp only at ef
                    split at ef
                    · rename_i hlen
                      cases ef
                      rw [e6] at r6
                      obtain ⟨qs, h7, hl7, L7, l7⟩ := L6.put hD key r6
                      have := keyOf_rel r5 eo
                      refine ⟨qs, key, this, h7, ?_, _, L7, ?_⟩
                      · rw [hl7]
                        have := sizeLine_eq
                        omega
                      · rw [e4] at x4
                        rw [e5] at x5
                        rw [e6] at x6
                        exact (((lx3.trans x4.lx).trans x5.lx).trans x6.lx).trans l7
                    · cases ef
    · refine .inl ⟨k2 (by omega), ?_⟩
      rw [List.drop_eq_nil_of_le (by omega)] at hq2
      cases hq2
      obtain ⟨ps, h8, r8⟩ := L2.ex
      have hD0 : H D = none := by
        cases q : H D with
        | none => rfl
        | some o =>
          have nD : D ∉ ι.tr := fun z => S1.out hD (e1.pre.subset z)
          rw [e1.keep D o nD q] at hD
          cases hD
      have ex : Ext ι H ⟨tr2, ι.pv⟩ H2 := by
        have := e1.trans L2.e
        rw [e1.pv] at this
        exact this
      have S9 := L2.S.adopt (m := .dct kvs) L2.nt (.dct h8 (r8.le Le.adopt))
      refine h1 ⟨tr2 ++ [D], ι.pv⟩ H2 _ (ex.adopt hD0) ⟨by rw [e1.pv] at S9; exact S9, .ref ?_⟩
      have sl : tr2.length = A'.length := L2.S.len
      show (tr2 ++ [D])[A'.length]? = some D
      rw [← sl, List.getElem?_append_right (Nat.le_refl _), Nat.sub_self]
      rfl
end
/-! ### binding -/
section
variable {K : PySem.W.Frag} {x qual : Str} {params : Arguments} {body : List Stmt} {scope : Scope} {dvs : List V} {kws : List (Str × V)} {f : Addr} {fd : FuncData} {ps : List Str}
/-- all positional -/
theorem kbm_all (B : Binds K fd ps []) : KBM K fd ps ps.length [] (fun ms _ => ms) := ⟨fun us _ => us, fun vs _ => vs, ⟨fun s us ws hk hl _ => by
    have := B s us hk (by rw [List.append_nil]; exact hl)
    rw [List.append_nil] at this
    exact this, fun r _ => r⟩, fun {ι H ms zs vs ws} h1 _ r _ => ⟨r, by rw [← r.length]; exact h1⟩⟩
/-- positional, defaults behind them -/
theorem kbm_dfl {n : Nat} {dms : List MV} {dvs : List V} (hex : ∃ ds, Vals dvs ds ∧ Binds K fd ps ds) (hd : ∀ (ι : Io) (H : Hp), RVs K ι H dms dvs) (hn : n + dms.length = ps.length) : KBM K fd ps n [] (fun ms _ => ms ++ dms) := by
  obtain ⟨ds, rd, B⟩ := hex
  have l1 : dms.length = dvs.length := (hd ⟨[], []⟩ H0).length
  refine ⟨fun us _ => us ++ ds, fun vs _ => vs ++ dvs, ⟨fun s us ws hk hl _ => B s us hk (by rw [List.length_append, hl, ← rd.length, ← l1]; exact hn), fun r _ => r.append rd⟩, fun {ι H ms zs vs ws} h1 _ r _ => ⟨r.append (hd ι H), ?_⟩⟩
  rw [List.length_append, ← r.length, h1, ← l1]
  exact hn
/-- keywords -/
theorem kbm_kw {n : Nat} {ks : List Str} {gm : List MV → List MV → List MV} {gV : List V → List V → List V} (hex : ∃ g, KBn K fd ps n ks g gV) (hd : ∀ {ι : Io} {H : Hp} {ms zs : List MV} {vs ws : List V}, ms.length = n → zs.length = ks.length → RVs K ι H ms vs → RVs K ι H zs ws → RVs K ι H (gm ms zs) (gV vs ws) ∧ (gV vs ws).length = ps.length) : KBM K fd ps n ks gm := by
  obtain ⟨g, B⟩ := hex
  exact ⟨g, gV, B, hd⟩
end
end Mv
/-! MvB: what the printed derivations use -/
namespace Mv
open PySem PySem.Spec PyProof.Rows L2 Fk
/-! ### any walked thing -/
def itV (A : AH) (v : MV) : Option (List MV) := match tupOf v with
  | some xs => some xs
  | none => match v with
    | .lst xs => some xs
    | .str x => some (signs x)
    | v => match lklOf A v with
      | some xs => some xs
      | none => match lkdOf A v with
        | some kvs => some (kvs.map fun p => keyM p.1)
        | none => none
def iAny (f : FE) : FL := fun ρ A => (f ρ A).bind fun v A => match itV A v with
  | some xs => .ok xs A
  | none => .bad
theorem PI.or {X : Cx} {tg e : Expr} {t t' : TI} (h : PI X tg e t) (h' : PI X tg e t') : PI X tg e (fun σ H R => t σ H R ∨ t' σ H R) := ⟨fun pins s σ H R I q => by
  rcases q with q | q
  · exact h.run pins s σ H R I q
  · exact h'.run pins s σ H R I q⟩
theorem Rs.bind_congr {α β : Type} {r : Rs α} {g g' : α → AH → Rs β} (h : ∀ v A, r = .ok v A → g v A = g' v A) : r.bind g = r.bind g' := by
  cases r with
  | ok v A => exact h v A rfl
  | err c fs A => rfl
  | bad => rfl
theorem mi_any {X : Cx} {W : Wi} {tg e : Expr} {f : FE} (he : PE X e (tM X.K W f)) : PI X tg e (tMI X.K W (iAny f)) :=
  (PI.or (mi_tup he) (PI.or (mi_frz he) (PI.or (mi_str he) (PI.or (mi_lkl he) (mi_keys he))))).imp fun σ H R ⟨ι, A, ρ, S, E, h⟩ => by
    have fin : ∀ {g : FL}, iAny f ρ A = g ρ A → tMI X.K W g σ H R := fun q => ⟨ι, A, ρ, S, E, by rw [← q]; exact h⟩
    cases q : f ρ A with
    | bad =>
      unfold iAny at h
      rw [q] at h
      exact h.elim
    | err c fs A' => exact .inl (fin (by unfold iAny iSeq; rw [q]; rfl))
    | ok v A' =>
      unfold iAny at h fin
      rw [q] at h fin
      dsimp only [Rs.bind, itV] at h fin
      cases q1 : tupOf v with
      | some xs => exact .inl (fin (by unfold iSeq; rw [q]; dsimp only [Rs.bind]; rw [q1]))
      | none =>
        rw [q1] at h fin
        dsimp only at h fin
        cases v with
        | lst xs => exact .inr (.inl (fin (by unfold iFrz; rw [q]; rfl)))
        | str x => exact .inr (.inr (.inl (fin (by unfold Mv.iStr; rw [q]; rfl))))
        | ref n =>
          cases q2 : lklOf A' (.ref n) with
          | some xs =>
            refine .inr (.inr (.inr (.inl (fin ?_))))
            unfold iLkl
            rw [q]
            dsimp only [Rs.bind]
            rw [q2]
          | none =>
            cases q3 : lkdOf A' (.ref n) with
            | some kvs =>
              refine .inr (.inr (.inr (.inr (fin ?_))))
              unfold Mv.iKeys
              rw [q]
              dsimp only [Rs.bind]
              rw [q2]
              dsimp only
              rw [q3]
            | none =>
              dsimp only at h
              rw [q2] at h
              dsimp only at h
              rw [q3] at h
              exact h.elim
        | tup xs => cases q1
        | ptp xs => cases q1
        | _ => exact h.elim
/-! ### a lock, where one is wanted -/
def sLk (fd : FE) (s : FS) : FS := fun ρ A => match fd ρ A with
  | .ok (.ref n) B => sLock (fun _ _ => .ok (.ref n) B) s ρ A
  | .ok _ _ => s ρ A
  | _ => .bad
def aLk {α : Type} (fd : FE) (s : ME → AH → Rs α) : ME → AH → Rs α := fun ρ A => match fd ρ A with
  | .ok (.ref n) B => aLock (fun _ _ => .ok (.ref n) B) s ρ A
  | .ok _ _ => s ρ A
  | _ => .bad
section
variable {X : Cx} {W : Wi} {e : Expr} {fd f : FE} {g : FL}
theorem ms_lk {st : Stmt} {fd : FE} {f : FS} (tk : Takes X W.w) (h : ∀ W' : Wi, Takes X W'.w → PS X st (tMS X.K W' f)) : PS X st (tMS X.K W (sLk fd f)) := by
  refine ⟨fun pins s σ H D I ⟨ι, A, ρ, S, E, hw⟩ => ?_⟩
  unfold sLk at hw
  split at hw
  · exact (ms_lock (fd := fun _ _ => .ok (.ref _) _) tk h).run pins s σ H D I ⟨ι, A, ρ, S, E, hw⟩
  · exact (h W tk).run pins s σ H D I ⟨ι, A, ρ, S, E, hw⟩
  · exact hw.elim
theorem m_lk (h : PE X e (tM X.K W f)) : PE X e (tM X.K W (aLk fd f)) := by
  refine ⟨fun pins s σ H D I ⟨ι, A, ρ, S, E, hw⟩ => ?_⟩
  unfold aLk at hw
  split at hw
  · exact (m_lock (fd := fun _ _ => .ok (.ref _) _) h).run pins s σ H D I ⟨ι, A, ρ, S, E, hw⟩
  · exact h.run pins s σ H D I ⟨ι, A, ρ, S, E, hw⟩
  · exact hw.elim
theorem ml_lk (h : PE X e (tML X.K W g)) : PE X e (tML X.K W (aLk fd g)) := by
  refine ⟨fun pins s σ H D I ⟨ι, A, ρ, S, E, hw⟩ => ?_⟩
  unfold aLk at hw
  split at hw
  · exact (ml_lock (fd := fun _ _ => .ok (.ref _) _) h).run pins s σ H D I ⟨ι, A, ρ, S, E, hw⟩
  · exact h.run pins s σ H D I ⟨ι, A, ρ, S, E, hw⟩
  · exact hw.elim
end
/-! ### all changing lists locked (for a loop within a comprehension) -/
def aLocks {α : Type} : List Nat → (ME → AH → Rs α) → ME → AH → Rs α
  | [], g => g
  | n :: ns, g => aLock (fun _ A => .ok (.ref n) A) (aLocks ns g)
def lstIx (A : AH) : List Nat := (List.range A.length).filter fun n => match A[n]? with
  | some (.lst _) => true
  | _ => false
def aLkD {α : Type} (g : ME → AH → Rs α) : ME → AH → Rs α := fun ρ A => aLocks (lstIx A) g ρ A
theorem ml_locks {X : Cx} {W : Wi} {e : Expr} {g : FL} (h : PE X e (tML X.K W g)) : ∀ ns, PE X e (tML X.K W (aLocks ns g))
  | [] => h
  | n :: ns => ml_lock (ml_locks h ns)
theorem ml_lkd {X : Cx} {W : Wi} {e : Expr} {g : FL} (h : PE X e (tML X.K W g)) : PE X e (tML X.K W (aLkD g)) :=
  ⟨fun pins s σ H D I ⟨ι, A, ρ, S, E, hw⟩ => (ml_locks h (lstIx A)).run pins s σ H D I ⟨ι, A, ρ, S, E, hw⟩⟩
/-! ### a, b = x, y -/
def sPar (i j : Nat) (g : FL) : FS := fun ρ A => (g ρ A).fs ρ fun vs A => match vs with
  | [v, w] => .nx ((ρ.set i (some v)).set j (some w)) A
  | _ => .bad
theorem ms_par {X : Cx} {W : Wi} {i j : Nat} {x y : Str} {a b : Expr} {g : FL} {px py pt : Pos} {kt k2 : Nat} {pt2 pos : Pos} (hc : X.calm = true) (hN : X.N.Nodup) (ha : PA X [a, b] (tMA X.K W g)) (hi : X.N[i]? = some x := by rfl) (hj : X.N[j]? = some y := by rfl) (hij : i ≠ j := by decide)
    (hx : X.env.scope.names.lookup x = some .local := by rfl) (hy : X.env.scope.names.lookup y = some .local := by rfl) (hw : swappedStores [.Tuple [.Name x px, .Name y py] kt pt] (.Tuple [a, b] k2 pt2) X.env = pure (some [x, y]) := by rfl)
    (hs : swapsWithSole [.Tuple [.Name x px, .Name y py] kt pt] (.Tuple [a, b] k2 pt2) pos.line X.env = pure false := by rfl) : PS X (.Assign [.Tuple [.Name x px, .Name y py] kt pt] (.Tuple [a, b] k2 pt2) pos) (tMS X.K W (sPar i j g)) :=
  (ps_par hc hN hi hj hij hx hy ha hw hs).imp fun D σ H ⟨ι, A, ρ, S, E, h⟩ => RPS_bind S E h fun ι1 A1 vs us H1 e1 ⟨S1, r1⟩ h1 => by
    split at h1
    · cases r1 with
      | cons q qs => cases qs with
        | cons q2 qs2 =>
          cases qs2
          exact ⟨_, _, rfl, h1 ι1 H1 _ (Ext.refl _ _) S1 (((E.ext e1).set i q).set j q2)⟩
    · exact h1.elim
/-! ### defs by their places -/
structure OkM (P : Program) (w : World) (K : PySem.W.Frag) (mg : Str → Option Value) (base : Heap) (k : Nat) (d : He.DefD) (ps : List Str) (F : FF) : Prop where
  ex : ∃ fd, FnOk P w K mg base (L2.CX P w) k (He.fAd K d.at_) fd ps (spM K ps.length F) ∧ FunD K d.name d.qual d.params d.body d.scope (d.dvs K) (d.kws K) (He.fAd K d.at_) fd
section
variable {P : Program} {w : World} {K : PySem.W.Frag} {mg : Str → Option Value} {base : Heap} {d : He.DefD}
theorem ok_M {N ps : List Str} {k : Nat} {fb : FS} (hF : ∃ fd, FunD K d.name d.qual d.params d.body d.scope (d.dvs K) (d.kws K) (He.fAd K d.at_) fd) (S : FnScope N ps d.scope)
    (hbody : ∀ (cdv : Value) (A : Around) (outer : List Env) (s : Shared) (H : Hp) (E : XK), Room k (A.deeper (envOfC d.qual d.scope s.heap.objs.size (He.fAd K d.at_) cdv)) →
      Takes (cxOf (L2.CX P w) P w K mg base N d.qual d.scope (He.fAd K d.at_) cdv A outer s H E) (Wi.of fun c x _ H => E c x H).w →
      PassesOwn (model P w) (cxOf (L2.CX P w) P w K mg base N d.qual d.scope (He.fAd K d.at_) cdv A outer s H E).A (cxOf (L2.CX P w) P w K mg base N d.qual d.scope (He.fAd K d.at_) cdv A outer s H E).env (cxOf (L2.CX P w) P w K mg base N d.qual d.scope (He.fAd K d.at_) cdv A outer s H E).xe →
      PSs (cxOf (L2.CX P w) P w K mg base N d.qual d.scope (He.fAd K d.at_) cdv A outer s H E) d.body (tMS K (Wi.of fun c x _ H => E c x H) fb)) : OkM P w K mg base (k + 1) d ps (defM N.length fb) := by
  obtain ⟨fd, F⟩ := hF
  refine ⟨fd, F.ok S (fun vs H Q E h => h.1) fun cdv A outer s H vs Q E hr hsp => ?_, F⟩
  obtain ⟨hl, ι, A', ms, Sm, r, h⟩ := hsp
  refine ⟨_, hbody cdv A outer s H E hr (takes_of rfl rfl rfl rfl) (passes_of rfl), ι, A', _, Sm, r.st0 N, ?_⟩
  unfold defM at h
  cases e : fb (ms.map some ++ List.replicate (N.length - ms.length) none) A' with
  | nx ρ B => rw [e] at h; exact fun ι' H' σ' x s _ => h ι' H' .non x ⟨s, .non⟩
  | rt v B => rw [e] at h; exact fun ι' H' u x s q => h ι' H' u x ⟨s, q⟩
  | err c fs ρ B => rw [e] at h; exact fun ι' H' σ' d x s _ q => h ι' H' d x s q
  | bk ρ B => rw [e] at h; exact h.elim
  | ct ρ B => rw [e] at h; exact h.elim
  | bad => rw [e] at h; exact h.elim
end
/-- how a call binds, told of the def -/
def KB (K : PySem.W.Frag) (d : He.DefD) (ps : List Str) (n : Nat) (ks : List Str) (gm : List MV → List MV → List MV) : Prop := ∀ fd, FunD K d.name d.qual d.params d.body d.scope (d.dvs K) (d.kws K) (He.fAd K d.at_) fd → KBM K fd ps n ks gm
section
variable {X : Cx} {W : Wi} {k n : Nat} {d : He.DefD} {ps ks : List Str} {gm : List MV → List MV → List MV} {F : FF} {fa : FP} {x C m : Str} {p pos apos : Pos} {es : List Expr} {kws : List Keyword} {o : Expr} {fo : FE}
theorem c_call (O : OkM X.prog X.w X.K X.mg X.base k d ps F) (B : KB X.K d ps n ks gm) (hr : Room k X.A) (hm : X.mg x = some (.ref (He.ga X.K x))) (tk : Takes X W.w) (ha : AM X W pos es kws ks fa) (hd : d.at_ = (x, none) := by rfl) (hg : Gl X x := by rfl) (hdb : (x == ("__debug__" : Str)) = false := by decide) :
    PE X (.Call (.Name x p) es kws pos) (tM X.K W (eCall n ks.length gm F fa)) := by
  obtain ⟨fd, G, FD⟩ := O.ex
  have e : He.fAd X.K d.at_ = He.ga X.K x := by rw [hd]; rfl
  exact m_call G hr (by rw [e]; exact hm) FD.kp (B fd FD) tk ha hg hdb
theorem c_meth {pl : Sem Bool} (O : OkM X.prog X.w X.K X.mg X.base k d ps F) (B : KB X.K d ps n ks gm) (hr : Room k X.A) (c : Cls X.K (He.ga X.K C)) (hm : Meth X.K (He.ga X.K C) m (He.ma X.K (He.ga X.K C) m)) (tk : Takes X W.w) (he : PE X o (tM X.K W fo)) (ha : AM X W pos es kws ks fa) (hd : d.at_ = (C, some m) := by rfl)
    (ht : eval (.Call (.Attribute o m apos) es kws pos) X.env = (do
      let ov ← eval o X.env
      standAt apos.atName
      let (f, first) ← holding [ov] (getMethod ov m pl)
      callWith pos f first (backTo pos (starEach es X.env)) (backToKw pos (keywordEach kws X.env))) := by rfl) :
    PE X (.Call (.Attribute o m apos) es kws pos) (tM X.K W (eMeth C m n ks.length gm F fo fa)) := by
  obtain ⟨fd, G, FD⟩ := O.ex
  have e : He.fAd X.K d.at_ = He.ma X.K (He.ga X.K C) m := by rw [hd]; rfl
  exact m_meth he c (by rw [e]; exact hm) G hr (B fd FD) tk ha ht
theorem c_make (O : OkM X.prog X.w X.K X.mg X.base k d ps F) (B : KB X.K d ps (n + 1) ks gm) (hr : Room (k + 1) X.A) (M : Mk X.K (He.ga X.K C) (He.ma X.K (He.ga X.K C) "__init__")) (hm : X.mg C = some (.ref (He.ga X.K C))) (tk : Takes X W.w) (ha : AM X W pos es kws ks fa) (hd : d.at_ = (C, some ("__init__" : Str)) := by rfl) (hg : Gl X C := by rfl) (hdb : (C == ("__debug__" : Str)) = false := by decide) :
    PE X (.Call (.Name C p) es kws pos) (tM X.K W (eMake C n ks.length gm F fa)) := by
  obtain ⟨fd, G, FD⟩ := O.ex
  have e : He.fAd X.K d.at_ = He.ma X.K (He.ga X.K C) "__init__" := by rw [hd]; rfl
  exact m_make (by rw [e]; exact M) G hr hm (B fd FD) tk ha hg hdb
end
/-! ### facts of built-in types' names -/
theorem bt_str : bootBuiltins "str" = some (.type "str") := by decide +kernel
theorem bt_int : bootBuiltins "int" = some (.type "int") := by decide +kernel
theorem bt_bool : bootBuiltins "bool" = some (.type "bool") := by decide +kernel
theorem bt_tuple : bootBuiltins "tuple" = some (.type "tuple") := by decide +kernel
theorem bt_list : bootBuiltins "list" = some (.type "list") := by decide +kernel
theorem bt_dict : bootBuiltins "dict" = some (.type "dict") := by decide +kernel
theorem bt_bytes : bootBuiltins "bytes" = some (.type "bytes") := by decide +kernel
theorem fnIn_of {K : PySem.W.Frag} {d : He.DefD} {fd : FuncData} (F : FunD K d.name d.qual d.params d.body d.scope (d.dvs K) (d.kws K) (He.fAd K d.at_) fd) : PySem.W.fnIn K (He.fAd K d.at_) = true := by
  obtain ⟨oc, od, dV, kV, doc, pm, an, cdv, ct, osl, rfl, lk, _⟩ := F.ex
  unfold PySem.W.fnIn
  rw [lk]
section
variable {X : Cx} {W : Wi} {k : Nat} {d : He.DefD} {ps : List Str} {F : FF} {C : Str} {p pos : Pos} {o i e : Expr} {fo fi : FE} {g : FL}
/-- positional calls without defaults -/
def BN (K : PySem.W.Frag) (d : He.DefD) (ps : List Str) : Prop := ∀ fd, FunD K d.name d.qual d.params d.body d.scope (d.dvs K) (d.kws K) (He.fAd K d.at_) fd → Binds K fd ps []
theorem BN.kb {K : PySem.W.Frag} (B : BN K d ps) : KB K d ps ps.length [] (fun ms _ => ms) := fun fd F => kbm_all (B fd F)
theorem c_getitem (O : OkM X.prog X.w X.K X.mg X.base k d ps F) (B : BN X.K d ps) (hp : ps.length = 2) (hr : Room (k + 1) X.A) (hm : Meth X.K (He.ga X.K C) "__getitem__" (He.ma X.K (He.ga X.K C) "__getitem__")) (tk : Takes X W.w) (ho : PE X o (tM X.K W fo)) (hi : PE X i (tM X.K W fi)) (hd : d.at_ = (C, some ("__getitem__" : Str)) := by rfl)
    (hsl : ∀ x j, subscripted i true x j = runValue (.builtin "lifetime.subscript" ⟨[x, j], []⟩) := by intro _ _; rfl) : PE X (.Subscript o i pos) (tM X.K W (eGetI C F fo fi)) := by
  obtain ⟨fd, G, FD⟩ := O.ex
  have e : He.fAd X.K d.at_ = He.ma X.K (He.ga X.K C) "__getitem__" := by rw [hd]; rfl
  exact m_getitem (by rw [e]; exact hm) G (fnIn_of FD) (B fd FD) hp hr tk ho hi hsl
theorem c_inO (O : OkM X.prog X.w X.K X.mg X.base k d ps F) (B : BN X.K d ps) (hp : ps.length = 2) (hr : Room k X.A) (hm : Meth X.K (He.ga X.K C) "__contains__" (He.ma X.K (He.ga X.K C) "__contains__")) (tk : Takes X W.w) (he : PE X e (tM X.K W fi)) (ho : PE X o (tM X.K W fo)) (hd : d.at_ = (C, some ("__contains__" : Str)) := by rfl) : PC X .In e o (tM X.K W (inO C F false fi fo)) := by
  obtain ⟨fd, G, FD⟩ := O.ex
  have e' : He.fAd X.K d.at_ = He.ma X.K (He.ga X.K C) "__contains__" := by rw [hd]; rfl
  exact m_inO (by rw [e']; exact hm) G (B fd FD) hp hr tk he ho
theorem c_notInO (O : OkM X.prog X.w X.K X.mg X.base k d ps F) (B : BN X.K d ps) (hp : ps.length = 2) (hr : Room k X.A) (hm : Meth X.K (He.ga X.K C) "__contains__" (He.ma X.K (He.ga X.K C) "__contains__")) (tk : Takes X W.w) (he : PE X e (tM X.K W fi)) (ho : PE X o (tM X.K W fo)) (hd : d.at_ = (C, some ("__contains__" : Str)) := by rfl) : PC X .NotIn e o (tM X.K W (inO C F true fi fo)) := by
  obtain ⟨fd, G, FD⟩ := O.ex
  have e' : He.fAd X.K d.at_ = He.ma X.K (He.ga X.K C) "__contains__" := by rw [hd]; rfl
  exact m_notInO (by rw [e']; exact hm) G (B fd FD) hp hr tk he ho
theorem c_lenO (O : OkM X.prog X.w X.K X.mg X.base k d ps F) (B : BN X.K d ps) (hp : ps.length = 1) (hr : Room (k + 1) X.A) (hm : Meth X.K (He.ga X.K C) "__len__" (He.ma X.K (He.ga X.K C) "__len__")) (tk : Takes X W.w) (hl : X.mg "len" = none) (ha : PA X [e] (tMA X.K W g)) (hd : d.at_ = (C, some ("__len__" : Str)) := by rfl) (hg : Gl X "len" := by rfl) (he : starEach [e] X.env = (false, eval e X.env) :: starEach [] X.env := by rfl) : PE X (.Call (.Name "len" p) [e] [] pos) (tM X.K W fun ρ A => (g ρ A).bind (lenO C F)) := by
  obtain ⟨fd, G, FD⟩ := O.ex
  have e' : He.fAd X.K d.at_ = He.ma X.K (He.ga X.K C) "__len__" := by rw [hd]; rfl
  exact m_lenO (by rw [e']; exact hm) G (B fd FD) hp hr tk hl ha hg he
end
/-- a comparison by an own method, as a value, as a test -/
theorem m_pc {X : Cx} {W : Wi} {op : CmpOp} {a b : Expr} {f : FE} {pos : Pos} (h : PC X op a b (tM X.K W f)) (h1 : behindInMarks op b = false := by rfl) : PE X (.Compare a [op] [b] pos) (tM X.K W f) := pe_cmp h h1
theorem mt_pc {X : Cx} {W : Wi} {op : CmpOp} {a b : Expr} {f : FE} {pos : Pos} (h : PC X op a b (tM X.K W f)) (h1 : behindInMarks op b = false := by rfl) : PT X (.Compare a [op] [b] pos) (tMB X.K W (tB' f)) := (pt_cmp h h1).imp fun σ H Q q => tB_of q
/-- a test: a if c else b -/
def bIf (c a b : FB) : FB := fun ρ A => (c ρ A).bind fun x A => match x with
  | true => a ρ A
  | false => b ρ A
theorem mt_if {X : Cx} {W : Wi} {c a b : Expr} {gc ga gb : FB} {pos : Pos} (hc : PT X c (tMB X.K W gc)) (ha : PT X a (tMB X.K W ga)) (hb : PT X b (tMB X.K W gb)) : PT X (.IfExp c a b pos) (tMB X.K W (bIf gc ga gb)) := by
  refine ⟨fun pins s σ H Q I ⟨ι, A, ρ, S, E, h⟩ => ?_⟩
  refine isTrue_IfExp (thn (hc.run pins s σ H (fun d H1 => if d = true then tMB X.K W ga σ H1 Q else tMB X.K W gb σ H1 Q) I ?_) fun d s1 ⟨H1, I1, q1⟩ => ?_)
  · exact RP_bind S E h fun ι1 A1 x u H1 e1 ⟨S1, r1⟩ h1 => by
      cases r1
      cases x with
      | true => exact ⟨ι1, A1, ρ, S1, E.ext e1, h1⟩
      | false => exact ⟨ι1, A1, ρ, S1, E.ext e1, h1⟩
  · cases d with
    | true => exact ha.run pins s1 σ H1 Q I1 q1
    | false => exact hb.run pins s1 σ H1 Q I1 q1
/-- keywords to their parameters -/
def gkw (dfl : List (Option MV)) (ix : List Nat) : List MV → List MV → List MV := fun ms zs => ms ++ (dfl.zip ix).map fun p => match p.1 with
  | some m => m
  | none => zs.getD p.2 .non
/-- an own class's instance and its parts in a comprehension's block: nothing is raised -/
theorem tk0 {X : Cx} : Takes X W0.w := takes0
end Mv
/-! MvC: str(int), sum(ints), xs[::-1] -/
namespace Mv
open PySem PySem.Spec PyProof.Rows L2 Fk
section
variable {X : Cx} {W : Wi} {k : Nat} {x : Str} {e e2 : Expr} {es : List Expr} {g : FL} {f : FE} {p pos : Pos}
def intsOf : List MV → Option (List Int)
  | [] => some []
  | .int b :: r => (intsOf r).map (b :: ·)
  | _ => none
theorem intsOf_rel {K : PySem.W.Frag} {ι : Io} {H : Hp} : ∀ {vs : List MV} {xs : List V} {bs : List Int}, RVs K ι H vs xs → intsOf vs = some bs → xs = bs.map V.int
  | _, _, _, .nil, e => by cases e; rfl
  | _, _, bs, .cons a b, e => by
    cases a with
    | int k =>
      obtain ⟨cs, e1, rfl⟩ := Option.map_eq_some_iff.mp (show (intsOf _).map (k :: ·) = some bs from e)
      rw [intsOf_rel b e1]
      rfl
    | _ => cases e
def sumM : List MV → AH → Rs MV := fun ms A => match ms with
  | [v] => (match lstV A v with
    | some xs => (match intsOf xs with
      | some ns => .ok (.int ns.sum) A
      | none => .bad)
    | none => .bad)
  | _ => .bad
theorem m_sum (hc : X.calm = true) (hm : X.mg "sum" = none) (ha : PA X [e] (tMA X.K W g)) (hg : Gl X "sum" := by rfl) (he : starEach [e] X.env = (false, eval e X.env) :: starEach [] X.env := by rfl) : PE X (.Call (.Name "sum" p) [e] [] pos) (tM X.K W fun ρ A => (g ρ A).bind sumM) :=
  m_cB (cr_sum hc) (fun {σ ι H A ms vs Q} S r h => by
    unfold sumM at h
    split at h
    · cases r with
      | cons rv rr =>
        cases rr
        split at h
        · rename_i xs et
          split at h
          · rename_i bs eb
            obtain ⟨a, ys, rfl, sq, rs⟩ := S.lstV rv et
            rw [intsOf_rel rs eb] at sq
            exact ⟨a, bs, rfl, sq, h.ok0 ⟨S, .int _⟩⟩
          · exact h.elim
        · exact h.elim
    · exact h.elim) hm (by decide +kernel) ha hg (he := he)
def strM : List MV → AH → Rs MV := fun ms A => match ms with
  | [.int i] => if i.natAbs.log2 < 1920 then .ok (.str (toString i)) A else .bad
  | _ => .bad
theorem m_str1 (hm : X.mg "str" = none) (ha : PA X [e] (tMA X.K W g)) (hg : Gl X "str" := by rfl) (he : starEach [e] X.env = (false, eval e X.env) :: starEach [] X.env := by rfl) : PE X (.Call (.Name "str" p) [e] [] pos) (tM X.K W fun ρ A => (g ρ A).bind strM) :=
  m_cT call_str_int (fun {σ ι H A ms vs Q} S r h => by
    unfold strM at h
    split at h
    · cases r with
      | cons rv rr =>
        cases rr
        cases rv
        split at h
        · rename_i hl
          exact ⟨_, rfl, hl, h.ok0 ⟨S, .str _⟩⟩
        · exact h.elim
    · exact h.elim) hm bt_str ha hg (he := he)
def aRev (f : FE) : FL := fun ρ A => (f ρ A).bind fun v A => match lstV A v with
  | some xs => .ok xs.reverse A
  | none => .bad
theorem ml_rev {j : Nat} {p1 p2 p3 : Pos} (he : PE X e (tM X.K W f)) : PE X (.Subscript e (.Slice none none (some (.UnaryOp .USub (.Constant (.int 1) j p1) p2)) p3) pos) (tML X.K W (aRev f)) :=
  (pe_revL he).imp fun σ H Q ⟨ι, A, ρ, S, E, h⟩ => RP_bind S E h fun ι1 A1 x u H1 e1 ⟨S1, r1⟩ h1 => by
    cases q : lstV A1 x with
    | none => rw [q] at h1; exact h1.elim
    | some xs =>
      rw [q] at h1
      obtain ⟨a, ys, rfl, sq, rs⟩ := S1.lstV r1 q
      exact ⟨a, ys, rfl, sq, fun p hp => h1.newL S1 hp rs.reverse⟩
end
/-! ### how calls bind: a plan -/
inductive Pl where
  | kw (j : Nat) | df (j : Nat) | kd (j : Nat)
def pickP {α : Type} (its mv ws : List α) : Pl → Option α
  | .kw j => ws[j]?
  | .df j => its[j]?
  | .kd j => mv[j]?
def plan {α : Type} (pl : List Pl) (us its mv ws : List α) : List α := us ++ pl.filterMap (pickP its mv ws)
theorem Vals.at_ : ∀ {vs : List V} {us : List Value}, Vals vs us → ∀ j : Nat, (∃ v u, vs[j]? = some v ∧ us[j]? = some u ∧ RelV v u) ∨ (vs[j]? = none ∧ us[j]? = none)
  | _, _, .nil, _ => .inr ⟨by simp, by simp⟩
  | _, _, .cons a b, 0 => .inl ⟨_, _, rfl, rfl, a⟩
  | _, _, .cons a b, j + 1 => by simpa using Vals.at_ b j
theorem RVs.at_ {K : PySem.W.Frag} {ι : Io} {H : Hp} : ∀ {vs : List MV} {us : List V}, RVs K ι H vs us → ∀ j : Nat, (∃ v u, vs[j]? = some v ∧ us[j]? = some u ∧ RV K ι H v u) ∨ (vs[j]? = none ∧ us[j]? = none)
  | _, _, .nil, _ => .inr ⟨by simp, by simp⟩
  | _, _, .cons a b, 0 => .inl ⟨_, _, rfl, rfl, a⟩
  | _, _, .cons a b, j + 1 => by simpa using RVs.at_ b j
theorem plan_vals {pl : List Pl} {vs ds mz zs : List V} {us its mv ws : List Value} (h1 : Vals vs us) (h2 : Vals ds its) (h3 : Vals mz mv) (h4 : Vals zs ws) : Vals (plan pl vs ds mz zs) (plan pl us its mv ws) := by
  refine h1.append ?_
  induction pl with
  | nil => exact .nil
  | cons p pl ih =>
    have h : (∃ v u, pickP ds mz zs p = some v ∧ pickP its mv ws p = some u ∧ RelV v u) ∨ (pickP ds mz zs p = none ∧ pickP its mv ws p = none) := by
      cases p with
      | kw j => exact Vals.at_ h4 j
      | df j => exact Vals.at_ h2 j
      | kd j => exact Vals.at_ h3 j
    rw [List.filterMap_cons, List.filterMap_cons]
    rcases h with ⟨v, u, e1, e2, r⟩ | ⟨e1, e2⟩
    · rw [e1, e2]; exact .cons r ih
    · rw [e1, e2]; exact ih
theorem plan_rvs {K : PySem.W.Frag} {ι : Io} {H : Hp} {pl : List Pl} {vs ds mz zs : List MV} {us its mv ws : List V} (h1 : RVs K ι H vs us) (h2 : RVs K ι H ds its) (h3 : RVs K ι H mz mv) (h4 : RVs K ι H zs ws) : RVs K ι H (plan pl vs ds mz zs) (plan pl us its mv ws) := by
  refine h1.append ?_
  induction pl with
  | nil => exact .nil
  | cons p pl ih =>
    have h : (∃ v u, pickP ds mz zs p = some v ∧ pickP its mv ws p = some u ∧ RV K ι H v u) ∨ (pickP ds mz zs p = none ∧ pickP its mv ws p = none) := by
      cases p with
      | kw j => exact h4.at_ j
      | df j => exact h2.at_ j
      | kd j => exact h3.at_ j
    rw [List.filterMap_cons, List.filterMap_cons]
    rcases h with ⟨v, u, e1, e2, r⟩ | ⟨e1, e2⟩
    · rw [e1, e2]; exact .cons r ih
    · rw [e1, e2]; exact ih
/-- every place of a plan is there -/
def plOk (nd nm nk : Nat) : Pl → Bool
  | .kw j => decide (j < nk)
  | .df j => decide (j < nd)
  | .kd j => decide (j < nm)
theorem plan_len {α : Type} {pl : List Pl} {us its mv ws : List α} (h : pl.all (plOk its.length mv.length ws.length) = true) : (plan pl us its mv ws).length = us.length + pl.length := by
  unfold plan
  rw [List.length_append]
  congr 1
  induction pl with
  | nil => rfl
  | cons p pl ih =>
    rw [List.all_cons, Bool.and_eq_true] at h
    have : ∃ a, pickP its mv ws p = some a := by
      cases p with
      | kw j => exact ⟨_, List.getElem?_eq_getElem (of_decide_eq_true h.1)⟩
      | df j => exact ⟨_, List.getElem?_eq_getElem (of_decide_eq_true h.1)⟩
      | kd j => exact ⟨_, List.getElem?_eq_getElem (of_decide_eq_true h.1)⟩
    obtain ⟨a, e⟩ := this
    rw [List.filterMap_cons, e, List.length_cons, List.length_cons, ih h.2]
section
variable {K : PySem.W.Frag} {x qual : Str} {params : Arguments} {body : List Stmt} {scope : Scope} {dvs : List V} {kws : List (Str × V)} {f : Addr} {fd : FuncData} {ps : List Str}
theorem kbm_plan {n : Nat} {ks : List Str} {pl : List Pl} {dvs mz : List V} {dms kms : List MV} (hex : ∃ g, KBn K fd ps n ks g fun vs zs => plan pl vs dvs mz zs) (hd : ∀ (ι : Io) (H : Hp), RVs K ι H dms dvs) (hk : ∀ (ι : Io) (H : Hp), RVs K ι H kms mz) (ha : pl.all (plOk dms.length kms.length ks.length) = true) (hn : n + pl.length = ps.length) : KBM K fd ps n ks (fun ms zs => plan pl ms dms kms zs) :=
  kbm_kw hex fun {ι H ms zs vs ws} h1 h2 r1 r2 => by
    have r := plan_rvs (pl := pl) r1 (hd ι H) (hk ι H) r2
    refine ⟨r, ?_⟩
    rw [← r.length, plan_len (by rw [h2]; exact ha), h1]
    exact hn
/-- no defaults are needed, none positional stand -/
theorem kb_p (F : FunD K x qual params body scope [] kws f fd) (n : Nat) (ks : List Str) (pl : List Pl)
    (h : ∀ (kV doc pm : Value) (an : Option Addr) (cdv ct : Value) (us ws : List Value), us.length = n → ws.length = ks.length → bindArgs (PySem.W.fnOf x qual params body scope .none kV doc pm an cdv ct) ⟨us, ks.zip ws⟩ = pure (ps.zip (plan pl us [] [] ws))) :
    ∃ g, KBn K fd ps n ks g fun vs zs => plan pl vs [] [] zs := by
  obtain ⟨oc, od, dV, kV, doc, pm, an, cdv, ct, osl, rfl, lk, hcd, hD, hK⟩ := F.ex
  rcases hD with ⟨_, rfl⟩ | ⟨e, _⟩
  · exact ⟨fun us ws => plan pl us [] [] ws, fun s us ws X l1 l2 => .of_eq (h kV doc pm an cdv ct us ws l1 l2), fun r1 r2 => plan_vals r1 .nil .nil r2⟩
  · exact absurd rfl e
/-- keyword-only defaults fill up -/
theorem kb_k (F : FunD K x qual params body scope [] kws f fd) (n : Nat) (ks : List Str) (ms : List (Str × V)) (pl : List Pl) (hk : kws ≠ []) (hms : ∀ q ∈ ms, q ∈ kws)
    (h : ∀ (D : Addr) (doc pm : Value) (an : Option Addr) (cdv ct : Value) (us mv ws : List Value), us.length = n → mv.length = ms.length → ws.length = ks.length →
      KwChain D ((ms.map (·.1)).zip mv) (bindArgs (PySem.W.fnOf x qual params body scope .none (.ref D) doc pm an cdv ct) ⟨us, ks.zip ws⟩) (ps.zip (plan pl us [] mv ws))) :
    ∃ g, KBn K fd ps n ks g fun vs zs => plan pl vs [] (ms.map (·.2)) zs := by
  obtain ⟨mv, B⟩ := FunD.kbinds0 (ps := ps) F n ks ms (fun us mv ws => plan pl us [] mv ws) hk hms (fun r1 r2 r3 => plan_vals r1 .nil r2 r3) h
  exact ⟨_, B⟩
/-- positional defaults stand -/
theorem kb_d (F : FunD K x qual params body scope dvs kws f fd) (n : Nat) (ks : List Str) (pl : List Pl) (hd : dvs ≠ [])
    (h : ∀ (T : Addr) (kV doc pm : Value) (an : Option Addr) (cdv ct : Value) (us its ws : List Value), us.length = n → its.length = dvs.length → ws.length = ks.length →
      ∃ k, bindArgs (PySem.W.fnOf x qual params body scope (.ref T) kV doc pm an cdv ct) ⟨us, ks.zip ws⟩ = seqItems? (.ref T) >>= k ∧ k (some its.toArray) = pure (ps.zip (plan pl us its [] ws))) :
    ∃ g, KBn K fd ps n ks g fun vs zs => plan pl vs dvs [] zs := by
  obtain ⟨its, B⟩ := FunD.kbindsD (ps := ps) F n ks (fun us its ws => plan pl us its [] ws) hd (fun r1 r2 r3 => plan_vals r1 r2 .nil r3) h
  exact ⟨_, B⟩
/-- both -/
theorem kb_dk (F : FunD K x qual params body scope dvs kws f fd) (n : Nat) (ks : List Str) (ms : List (Str × V)) (pl : List Pl) (hd : dvs ≠ []) (hk : kws ≠ []) (hms : ∀ q ∈ ms, q ∈ kws)
    (h : ∀ (T D : Addr) (doc pm : Value) (an : Option Addr) (cdv ct : Value) (us its mv ws : List Value), us.length = n → its.length = dvs.length → mv.length = ms.length → ws.length = ks.length →
      ∃ k, bindArgs (PySem.W.fnOf x qual params body scope (.ref T) (.ref D) doc pm an cdv ct) ⟨us, ks.zip ws⟩ = seqItems? (.ref T) >>= k ∧ KwChain D ((ms.map (·.1)).zip mv) (k (some its.toArray)) (ps.zip (plan pl us its mv ws))) :
    ∃ g, KBn K fd ps n ks g fun vs zs => plan pl vs dvs (ms.map (·.2)) zs := by
  obtain ⟨its, mv, B⟩ := FunD.kbinds (ps := ps) F n ks ms (fun us its mv ws => plan pl us its mv ws) hd hk hms (fun r1 r2 r3 r4 => plan_vals r1 r2 r3 r4) h
  exact ⟨_, B⟩
end
end Mv
/-! MvD: while; methods of lists; texts, bytes -/
namespace Mv
open PySem PySem.Spec PyProof.Rows L2 Fk
/-! ### while -/
def runW (c : FB) (b : FS) : Nat → FS
  | 0, _, _ => .bad
  | n + 1, ρ, A => (c ρ A).fs ρ fun t A => match t with
    | false => .nx ρ A
    | true => match b ρ A with
      | .nx ρ' A' => runW c b n ρ' A'
      | .ct ρ' A' => runW c b n ρ' A'
      | .bk ρ' A' => .nx ρ' A'
      | r => r
def sWhile (c : FB) (b : FS) : FS := fun ρ A => runW c b 100000 ρ A
section
variable {X : Cx} {W : Wi} {c : Expr} {body : List Stmt} {gc : FB} {fb : FS} {pos : Pos}
theorem ms_while (hp : PassesOwn (model X.prog X.w) X.A X.env X.xe) (hc : PT X c (tMB X.K W gc)) (hb : PSs X body (tMS X.K W fb)) : PS X (.While c body [] pos) (tMS X.K W (sWhile gc fb)) := by
  refine (ps_while hp hc hb).imp fun D σ H ⟨ι, A, ρ, S, E, h⟩ => ?_
  refine ⟨fun m σ H => ∃ ι' A' ρ', Sim X.K ι' A' H ∧ REnv W X.K ι' H ρ' σ ∧ RPS X.K W D ι' H (runW gc fb m ρ' A'), ⟨100000, ι, A, ρ, S, E, h⟩, fun m σ H ⟨ι, A, ρ, S, E, h⟩ => ?_⟩
  cases m with
  | zero => exact h.elim
  | succ m =>
    refine RPS_bind S E (show RPS X.K W D ι H ((gc ρ A).fs ρ _) from h) fun ι1 A1 t u H1 e1 ⟨S1, r1⟩ h1 => ?_
    subst r1
    cases t with
    | false =>
      rw [if_neg Bool.false_ne_true]
      exact h1 ι1 H1 σ (Ext.refl _ _) S1 (E.ext e1)
    | true =>
      rw [if_pos rfl]
      refine ⟨fun σ' H' => ∃ ι' A' ρ', Sim X.K ι' A' H' ∧ REnv W X.K ι' H' ρ' σ' ∧ RPS X.K W D ι' H' (runW gc fb m ρ' A'), fun σ' H' q => ⟨m, Nat.lt_succ_self m, q⟩, ι1, A1, ρ, S1, E.ext e1, ?_⟩
      dsimp only at h1
      cases ef : fb ρ A1 with
      | nx ρ' A' =>
        rw [ef] at h1
        exact fun ι' H' σ' x s r => ⟨ι', A', ρ', s, r, RPS.ext x h1⟩
      | ct ρ' A' =>
        rw [ef] at h1
        exact fun ι' H' σ' x s r => ⟨ι', A', ρ', s, r, RPS.ext x h1⟩
      | bk ρ' A' =>
        rw [ef] at h1
        exact h1
      | rt v A' =>
        rw [ef] at h1
        exact h1
      | err c fs ρ' A' =>
        rw [ef] at h1
        exact h1
      | bad =>
        rw [ef] at h1
        exact h1
end
/-! ### an expression that is never reached -/
def eBad : FE := fun _ _ => .bad
theorem m_bad {X : Cx} {W : Wi} {e : Expr} : PE X e (tM X.K W eBad) := ⟨fun pins s σ H Q I ⟨ι, A, ρ, S, E, h⟩ => h.elim⟩
/-! ### methods of lists -/
section
variable {X : Cx} {W : Wi} {k : Nat} {o e e2 : Expr} {fo fe f2 : FE} {g : FL} {apos cpos pos : Pos}
/-- xs.pop() -/
def ePopL (fo : FE) : FE := fun ρ A => (fo ρ A).bind fun v A => match lstW A v with
  | some (n, xs) => (match xs[xs.length - 1]? with
    | some y => .ok y (A.set n (.lst xs.dropLast))
    | none => .bad)
  | none => .bad
theorem lstB_of {A : AH} {v : MV} {n : Nat} {xs : List MV} (h : lstW A v = some (n, xs)) : lstB A v = true := by
  unfold lstW at h
  split at h
  · split at h
    · rename_i q
      unfold lstB lstV
      dsimp only
      rw [q]
      rfl
    · cases h
  · cases h
theorem RVs.dropLast {K : PySem.W.Frag} {ι : Io} {H : Hp} {vs : List MV} {xs : List V} (r : RVs K ι H vs xs) : RVs K ι H vs.dropLast xs.dropLast := by
  rw [List.dropLast_eq_take, List.dropLast_eq_take, r.length]
  exact r.take _
theorem RVs.eraseIdx {K : PySem.W.Frag} {ι : Io} {H : Hp} {vs : List MV} {xs : List V} (r : RVs K ι H vs xs) (i : Nat) : RVs K ι H (vs.eraseIdx i) (xs.eraseIdx i) := by
  rw [List.eraseIdx_eq_take_drop_succ, List.eraseIdx_eq_take_drop_succ]
  exact (r.take i).append (r.drop (i + 1))
theorem m_popL (ho : PE X o (tM X.K W fo)) (hbase : attributeBase o "pop" X.env (eval o X.env) = eval o X.env := by rfl) (hline : (apos.endLine == cpos.line) = true := by rfl) :
    PE X (.Call (.Attribute o "pop" apos) [] [] cpos) (tM X.K W (ePopL fo)) :=
  (pe_bm0 PySem.F.plainAttrs_list PySem.F.slot_list_pop PySem.F.type_list_pop mt_pop ho hbase hline).imp fun σ H Q ⟨ι, A, ρ, S, E, h⟩ => RP_bind S E h fun ι1 A1 v u H1 e1 ⟨S1, r1⟩ h1 => by
    cases el : lstW A1 v with
    | none => rw [el] at h1; exact h1.elim
    | some pr =>
      obtain ⟨n, xs⟩ := pr
      rw [el] at h1
      dsimp only at h1
      cases ey : xs[xs.length - 1]? with
      | none => rw [ey] at h1; exact h1.elim
      | some y =>
        rw [ey] at h1
        obtain ⟨a, ys, rfl, ea, hd, rs⟩ := S1.lstW r1 el
        obtain ⟨w, hw, rw_⟩ := rs.get ey
        obtain ⟨S3, e3⟩ := S1.putL ea hd rs.dropLast
        refine ⟨S1.tyL r1 (lstB_of el), a, ys, w, rfl, rfl, hd, by rw [← rs.length]; exact hw, h1 ι1 _ _ e3 ⟨S3, rw_.ext e3⟩⟩
/-- xs.pop(i) -/
def ePopAt (fo fe : FE) : FE := fun ρ A => (fo ρ A).bind fun v A => if lstB A v then (fe ρ A).bind fun w A => (match lstW A v, w with
    | some (n, xs), .int i => if -1000000 ≤ i ∧ i ≤ 1000000 then (match seqIndex? i xs.length with
      | some j => (match xs[j]? with
        | some y => .ok y (A.set n (.lst (xs.eraseIdx j)))
        | none => .bad)
      | none => .bad) else .bad
    | _, _ => .bad) else .bad
theorem m_popAt (ho : PE X o (tM X.K W fo)) (he : PE X e (tM X.K W fe)) (hbase : attributeBase o "pop" X.env (eval o X.env) = eval o X.env := by rfl)
    (hfew : ((backTo cpos (starEach [e] X.env)).all (fun x => !x.1) && (backToKw cpos (keywordEach [] X.env)).all (fun x => x.1.isSome)
      && decide (([e] : List Expr).length + ([] : List Keyword).length + (if ([] : List Keyword).isEmpty then 0 else 1) < 30)) = true := by rfl)
    (hline : (apos.endLine == cpos.line) = true := by rfl) (hs : starEach [e] X.env = (false, eval e X.env) :: starEach [] X.env := by rfl) (hplain : (backTo cpos (starEach [] X.env)).any (·.1) = false := by rfl) :
    PE X (.Call (.Attribute o "pop" apos) [e] [] cpos) (tM X.K W (ePopAt fo fe)) :=
  (pe_bm PySem.F.plainAttrs_list PySem.F.slot_list_pop PySem.F.type_list_pop mt_popAt ho (pa_cons he pa_nil hs) hbase hfew hline hs hplain).imp fun σ H Q ⟨ι, A, ρ, S, E, h⟩ => RP_bind S E h fun ι1 A1 v u H1 e1 ⟨S1, r1⟩ h1 => by
    split at h1
    · rename_i hb
      refine ⟨S1.tyL r1 hb, RP_bind S1 (E.ext e1) h1 fun ι2 A2 w z H2 e2 ⟨S2, r2⟩ h2 => ?_⟩
      cases el : lstW A2 v with
      | none => rw [el] at h2; exact h2.elim
      | some pr =>
        obtain ⟨n, xs⟩ := pr
        rw [el] at h2
        cases r2 with
        | int i =>
          dsimp only at h2
          split at h2
          · rename_i hi
            obtain ⟨a, ys, rfl, ea, hd, rs⟩ := S2.lstW (r1.ext e2) el
            cases ej : seqIndex? i xs.length with
            | none => rw [ej] at h2; exact h2.elim
            | some j =>
              rw [ej] at h2
              dsimp only at h2
              cases ey : xs[j]? with
              | none => rw [ey] at h2; exact h2.elim
              | some y =>
                rw [ey] at h2
                obtain ⟨w, hw, rw_⟩ := rs.get ey
                obtain ⟨S3, e3⟩ := S2.putL ea hd (rs.eraseIdx j)
                exact ⟨a, ys, i, j, w, rfl, rfl, hd, by omega, by omega, by rw [← rs.length]; exact ej, hw, h2 ι2 _ _ e3 ⟨S3, rw_.ext e3⟩⟩
          · exact h2.elim
        | _ => exact h2.elim
    · exact h1.elim
end
end Mv
/-! MvE: extend; f-strings; bytes; more calls -/
namespace Mv
open PySem PySem.Spec PyProof.Rows L2 Fk
/-! ### extend -/
theorem ext_any {T : String} (hT : T = "list" ∨ T = "tuple") {l b : Addr} {xs ys : Array Value} {n m : Nat} {d : Option Addr} {sl : Array (Option Value)} (h0 : ¬(!xs.isEmpty && Builtin.List.listTooLong (xs.size + ys.size)) = true) (h1 : xs.size ≤ sizeLine) (h2 : xs.size + ys.size ≤ sizeLine + 1) :
    Meets (Builtin.«list.extend» ⟨[.ref l, .ref b], []⟩) (fun _ R s => s.heap.get? l = some ⟨.type "list", none, .seq xs n, #[]⟩ ∧ s.heap.get? b = some ⟨.type T, d, .seq ys m, sl⟩ ∧ R (.ok (.ret .none)) { s with heap := s.heap.update l (Obj.mapSeq fun z => z ++ ys) }) := by
  refine .of_wp fun prog w A R s h => ?_
  obtain ⟨hp, g, dr, tk, os⟩ := s
  obtain ⟨hl, hb, h⟩ := h
  have q1 := PySem.AutoSeq1.idx_int
  have q2 := PySem.AutoSeq1.sub_tuple_tuple
  have q3 := PySem.AutoSeq1.sub_list_list
  have q4 := PySem.AutoSeq1.sub_tuple_list
  have q5 := PySem.AutoSeq1.sub_list_tuple
  have hz : (xs ++ ys).size ≤ sizeLine + 1 := by
    rw [Array.size_append]
    exact h2
  rcases hT with rfl | rfl
  · wp_walk using (wpAny_updateSeq hl rfl (hz := h1) (_hz' := hz)), PySem.AutoSeq1.wpAny_loadPart' hl, PySem.AutoSeq1.wpAny_loadPart' hb
    exact ⟨_, rfl, h⟩
  · wp_walk using (wpAny_updateSeq hl rfl (hz := h1) (_hz' := hz)), PySem.AutoSeq1.wpAny_loadPart' hl, PySem.AutoSeq1.wpAny_loadPart' hb
    exact ⟨_, rfl, h⟩
def rExtA (K : PySem.W.Frag) : V → List V → Hp → VK → Prop := fun x vs H Q => ∃ l b xs zs, x = .ref l ∧ vs = [.ref b] ∧ H l = some (.lst xs) ∧ (SqL K H b zs ∨ SqT K H b zs) ∧ xs.length + zs.length ≤ sizeLine ∧ Q .non (upd H l (.lst (xs ++ zs)))
theorem mt_extA {X : Cx} : MtM X "list.extend" (rExtA X.K) := by
  intro pins s σ H x vs v us Q I rx rv h
  obtain ⟨l, b, xs, zs, rfl, rfl, hH, hB, hz, q⟩ := h
  cases rx
  obtain ⟨u, rfl, ru⟩ := rv.one
  cases ru
  obtain ⟨_, its, n, r, hl, e⟩ := I.lstM hH
  obtain ⟨its2, T, d, n2, sl, hT, r2, e2⟩ : ∃ (its2 : List Value) (T : String) (d : Option Addr) (n2 : Nat) (sl : Array (Option Value)), (T = "list" ∨ T = "tuple") ∧ Vals zs its2 ∧ s.heap.get? b = some ⟨.type T, d, .seq its2.toArray n2, sl⟩ := by
    rcases hB with hB | hB
    · obtain ⟨its2, r2, ⟨o, n2, e2, c2, d2, s2⟩, _⟩ := I.list hB
      obtain ⟨oc, od, dt, osl⟩ := o
      cases c2
      cases d2
      cases s2
      exact ⟨its2, "list", none, n2, osl, .inl rfl, r2, e2⟩
    · obtain ⟨its2, r2, ⟨o, e2, c2, n2, d2⟩, _⟩ := I.tuple hB
      obtain ⟨oc, od, dt, osl⟩ := o
      cases c2
      cases d2
      exact ⟨its2, "tuple", od, n2, osl, .inr rfl, r2, e2⟩
  have l2 := r2.length
  have z1 : its.toArray.size + its2.toArray.size ≤ sizeLine := by rw [List.size_toArray, List.size_toArray]; omega
  have z2 : ¬ (!its.toArray.isEmpty && Builtin.List.listTooLong (its.toArray.size + its2.toArray.size)) = true := by
    rw [notLongL z1, Bool.and_false]
    intro z
    cases z
  refine call_meets PySem.F.slot_list_extend ⟨_, e, rfl⟩ PySem.F.entry_list_extend (PySem.F.args_list_extend_2 _ _) (ext_any hT (l := l) (b := b) (xs := its.toArray) (ys := its2.toArray) (n := n) (m := n2) (d := d) (sl := sl) z2 (by rw [List.size_toArray]; omega) (by omega)) ⟨e, e2, ?_⟩
  exact ⟨.non, _, I.lset (its' := its ++ its2) hH e (by simp) (r.append r2) (by rw [List.length_append]; omega), rfl, q⟩
/-- a list or a tuple -/
def seqV (A : AH) (v : MV) : Option (List MV) := match tupOf v with
  | some xs => some xs
  | none => lstV A v
theorem Sim.seqV {K : PySem.W.Frag} {ι : Io} {H : Hp} {A : AH} {v : MV} {u : V} {vs : List MV} (S : Sim K ι A H) (r : RV K ι H v u) (h : Mv.seqV A v = some vs) : ∃ a xs, u = .ref a ∧ (SqL K H a xs ∨ SqT K H a xs) ∧ RVs K ι H vs xs := by
  unfold Mv.seqV at h
  cases e : tupOf v with
  | some xs =>
    rw [e] at h
    cases h
    obtain ⟨a, ys, rfl, sq, rs⟩ := r.sqT e
    exact ⟨a, ys, rfl, .inr sq, rs⟩
  | none =>
    rw [e] at h
    obtain ⟨a, ys, rfl, sq, rs⟩ := S.lstV r h
    exact ⟨a, ys, rfl, .inl sq, rs⟩
section
variable {X : Cx} {W : Wi} {k : Nat} {o e e2 : Expr} {fo fe f f2 : FE} {g : FL} {apos cpos p pos : Pos}
def eExt (fo fe : FE) : FE := fun ρ A => (fo ρ A).bind fun v A => if lstB A v then (fe ρ A).bind fun w A => (match lstW A v, seqV A w with
    | some (n, xs), some zs => if xs.length + zs.length ≤ 1000000 then .ok .non (A.set n (.lst (xs ++ zs))) else .bad
    | _, _ => .bad) else .bad
theorem m_extend (ho : PE X o (tM X.K W fo)) (he : PE X e (tM X.K W fe)) (hbase : attributeBase o "extend" X.env (eval o X.env) = eval o X.env := by rfl)
    (hfew : ((backTo cpos (starEach [e] X.env)).all (fun x => !x.1) && (backToKw cpos (keywordEach [] X.env)).all (fun x => x.1.isSome)
      && decide (([e] : List Expr).length + ([] : List Keyword).length + (if ([] : List Keyword).isEmpty then 0 else 1) < 30)) = true := by rfl)
    (hline : (apos.endLine == cpos.line) = true := by rfl) (hs : starEach [e] X.env = (false, eval e X.env) :: starEach [] X.env := by rfl) (hplain : (backTo cpos (starEach [] X.env)).any (·.1) = false := by rfl) :
    PE X (.Call (.Attribute o "extend" apos) [e] [] cpos) (tM X.K W (eExt fo fe)) :=
  (pe_bm PySem.F.plainAttrs_list PySem.F.slot_list_extend PySem.F.type_list_extend mt_extA ho (pa_cons he pa_nil hs) hbase hfew hline hs hplain).imp fun σ H Q ⟨ι, A, ρ, S, E, h⟩ => RP_bind S E h fun ι1 A1 v u H1 e1 ⟨S1, r1⟩ h1 => by
    split at h1
    · rename_i hb
      refine ⟨S1.tyL r1 hb, RP_bind S1 (E.ext e1) h1 fun ι2 A2 w z H2 e2 ⟨S2, r2⟩ h2 => ?_⟩
      cases el : lstW A2 v with
      | none => rw [el] at h2; exact h2.elim
      | some pr =>
        obtain ⟨n, xs⟩ := pr
        rw [el] at h2
        cases es : Mv.seqV A2 w with
        | none => rw [es] at h2; exact h2.elim
        | some zs =>
          rw [es] at h2
          dsimp only at h2
          split at h2
          · rename_i hl
            obtain ⟨a, ys, rfl, ea, hd, rs⟩ := S2.lstW (r1.ext e2) el
            obtain ⟨b, ws, rfl, sq, rz⟩ := S2.seqV r2 es
            obtain ⟨S3, e3⟩ := S2.putL ea hd (rs.append rz)
            exact ⟨a, b, ys, ws, rfl, rfl, hd, sq, lim (by rw [← rs.length, ← rz.length]; exact hl), h2 ι2 _ _ e3 ⟨S3, .non⟩⟩
          · exact h2.elim
    · exact h1.elim
end
/-! ### f-strings -/
section
open PySem.Builtin PySem.Builtin.Float
/-- sixteen figures to the base sixteen -/
def hexC (a : Nat) : List Nat := (Nat.toDigits 16 a).map Char.toNat
def hexT (a : Nat) : Str := ⟨(List.replicate (16 - (hexC a).length) 48 ++ hexC a).toArray⟩
theorem digits_ne (a : Nat) : (Nat.toDigits 16 a).isEmpty = false := by
  have h : 0 < (Nat.toDigits 16 a).length := Nat.length_toDigits_pos
  cases e : Nat.toDigits 16 a with
  | nil => rw [e] at h; cases h
  | cons _ _ => rfl
theorem hex_field {a : Nat} (hl : (hexC a).length ≤ 16) : intField' { fill := 48, align := 61, width := some 16, type := some 120 } false [] (hexC a) [] 4 = hexT a := by
  have ne : (hexC a).isEmpty = false := by
    unfold hexC
    rw [List.isEmpty_map]
    exact digits_ne a
  have e1 : ((16 : Int) - (((0 : Nat) : Int) + ((0 : Nat) : Int) + ((0 : Nat) : Int))).toNat = 16 := by decide
  have e2 : ((16 : Int) - (((0 : Nat) : Int) + ((0 : Nat) : Int) + ((0 : Nat) : Int)) - (((List.replicate (16 - (hexC a).length) 48 ++ hexC a).length : Nat) : Int)).toNat = 0 := by
    rw [List.length_append, List.length_replicate]
    omega
  unfold intField' hexT
  simp only [ne, Bool.false_eq_true, if_false, List.length_nil, beq_self_eq_true, Bool.and_self, if_true, show ((61 : Nat) == 60) = false by decide, show ((61 : Nat) == 94) = false by decide]
  have e1' : (((16 : Nat) : Int) - (((0 : Nat) : Int) + ((0 : Nat) : Int) + ((0 : Nat) : Int))).toNat = 16 := by decide
  rw [e1']
  have e2' : (((16 : Nat) : Int) - (((0 : Nat) : Int) + ((0 : Nat) : Int) + ((0 : Nat) : Int)) - (((List.replicate (16 - (hexC a).length) 48 ++ hexC a).length : Nat) : Int)).toNat = 0 := e2
  rw [e2']
  simp
theorem hex_meets {a : Nat} {t u : Tok} (hl : (hexC a).length ≤ 16) : Meets (Builtin.«int.__format__» ⟨[.int a t, .str "016x" u], []⟩) (fun _ R s => ∀ t' k, R (.ok (.ret (.str (hexT a) t'))) { s with toks := k }) := by
  refine .of_wp fun prog w A R s h => ?_
  have hp : parseFormatSpec (Str.ofString "016x").cps.toList "int" 62 = .ok { fill := 48, align := 61, sign := none, noNeg0 := false, alt := false, width := some 16, grouping := none, precision := none, type := some 120 } := by kernel_rfl
  unfold Builtin.«int.__format__»
  simp only [selfAndOne, noKeywords, Int.intOfSelf, asInt?, asStr?, List.isEmpty_nil, if_true, pure_bind, bind_pure, bind_assoc, Bool.false_eq_true, if_false, show (Value.str (Str.ofString "016x") u == Value.none) = false from rfl, show ((Str.ofString "016x").length == 0) = false by decide,
    show (((Str.ofString "016x").cps.toList.drop 1).any (· ≥ 128) || ((Str.ofString "016x").cps.getD 0 0 ≥ 128 && !([60, 62, 61, 94] : List Nat).contains ((Str.ofString "016x").cps.getD 1 0))) = false by decide]
  refine wpAny_bind (wpAny_typeNameOf (T := "str") (typeIs_str _ _ _) (by decide) fun _ => ?_)
  first | refine wpAny_bind (wpAny_typeNameOfCut_int ?_) | refine wpAny_bind (wpAny_typeNameOf_int ?_)
  simp only [hp]
  rw [if_pos (by decide)]
  have ll : (hexT a).length ≤ sizeLine := by
    have : (hexT a).length = (List.replicate (16 - (hexC a).length) 48 ++ hexC a).length := by simp [hexT, Str.length]
    rw [this, List.length_append, List.length_replicate, sizeLine_eq]
    omega
  have key : ∀ T : Str, T = hexT a → wpAny (model prog w) A.in1 (retStr T) (fun fin s' => ∃ v, fin = Fin.done (Flow.ret v) ∧ R (Except.ok (Flow.ret v)) s') (fun e s' => R (Except.error e) s') s := fun T e => PySem.W.KXf.ret_text e (by rw [e]; exact ll) fun t k => ⟨_, rfl, h t k⟩
  show wpAny _ _ (retStr _) _ _ _
  refine key _ ?_
  have n0 : decide ((a : Int) < 0) = false := by
    have : ¬ ((a : Int) < 0) := by omega
    exact decide_eq_false this
  rw [n0]
  simp only [Option.getD_some, show ((120 : Nat) == 88) = false by decide, Bool.false_eq_true, if_false, Int.natAbs_natCast, show ((16 : Nat) == 10) = false by decide]
  exact hex_field hl
end
section
variable {X : Cx} {W : Wi} {k : Nat} {o e e2 : Expr} {fo fe f f2 : FE} {g : FL} {apos cpos p pos : Pos}
def eHex (f : FE) : FE := fun ρ A => (f ρ A).bind fun v A => match v with
  | .int i => if 0 ≤ i ∧ (hexC i.toNat).length ≤ 16 then .ok (.str (hexT i.toNat)) A else .bad
  | _ => .bad
theorem m_hex {j : Nat} {p1 p2 : Pos} (he : PE X e (tM X.K W f)) : PE X (.FormattedValue e (-1) (some (.JoinedStr [.Constant (.str "016x") j p1] p2)) pos) (tM X.K W (eHex f)) := by
  refine ⟨fun pins s σ H Q I ⟨ι, A, ρ, S, E, h⟩ => ?_⟩
  have h' : tM X.K W f σ H (fun x H1 => ∃ i : Nat, x = .int i ∧ (hexC i).length ≤ 16 ∧ Q (.str (hexT i)) H1) := RP_bind S E h fun ι1 A1 v u H1 e1 ⟨S1, r1⟩ h1 => by
    cases r1 with
    | int i =>
      dsimp only at h1
      split at h1
      · rename_i hi
        exact ⟨i.toNat, by rw [Int.toNat_of_nonneg hi.1], hi.2, h1.ok0 ⟨S1, .str _⟩⟩
      · exact h1.elim
    | _ => exact h1.elim
  refine wpAny_FormattedValue_spec (thn (he.run pins s σ H _ I h') fun v s1 ⟨x, H1, I1, r1, i, ex, hl, q⟩ => ?_)
  subst ex
  obtain ⟨t, rfl⟩ := r1
  refine thn ((pe_joined1 (pe_str (X := X))).run pins s1 σ H1 (fun x H2 => x = .str "016x" ∧ H2 = H1) I1 ⟨rfl, rfl⟩) fun r s2 ⟨y, H2, I2, r2, ey, eH⟩ => ?_
  subst ey eH
  obtain ⟨t2, rfl⟩ := r2
  exact ⟨_, t2, rfl, PySem.W.KXf.field_int rfl (by decide) (by rw [sizeLine_eq]; decide) (fun u => hex_meets hl) fun t' k => ⟨.str (hexT i), H2, I2.tok _, ⟨t', rfl⟩, q⟩⟩
def eFmt (f : FE) : FE := fun ρ A => (f ρ A).bind fun v A => match v with
  | .str y => if y.length ≤ 1000000 then .ok (.str y) A else .bad
  | .int i => if i.natAbs.log2 < 1920 then .ok (.str (toString i)) A else .bad
  | _ => .bad
theorem m_fmt (he : PE X e (tM X.K W f)) : PE X (.FormattedValue e (-1) none pos) (tM X.K W (eFmt f)) := (pe_fmt he).imp fun σ H Q ⟨ι, A, ρ, S, E, h⟩ => RP_bind S E h fun ι1 A1 v u H1 e1 ⟨S1, r1⟩ h1 => by
  cases r1 with
  | str y =>
    dsimp only at h1
    split at h1
    · rename_i hl
      exact .inl ⟨y, rfl, lim hl, h1.ok0 ⟨S1, .str _⟩⟩
    · exact h1.elim
  | int i =>
    dsimp only at h1
    split at h1
    · rename_i hl
      exact .inr ⟨i, rfl, hl, h1.ok0 ⟨S1, .str _⟩⟩
    · exact h1.elim
  | _ => exact h1.elim
def jsM : List FE → Str → ME → AH → Rs Str
  | [], acc, _, A => .ok acc A
  | f :: fs, acc, ρ, A => (f ρ A).bind fun v A => match v with
    | .str y => if (acc ++ y).length ≤ 1000000 then jsM fs (acc ++ y) ρ A else .bad
    | _ => .bad
def eJs (fs : List FE) : FE := fun ρ A => (jsM fs Str.empty ρ A).bind fun x A => .ok (.str x) A
abbrev rS (K : PySem.W.Frag) : Rel Str Str := fun _ _ ι' H' A' a b => Sim K ι' A' H' ∧ a = b
theorem tJs_of {K : PySem.W.Frag} {σ : L2.St} {ρ : ME} : ∀ (fs : List FE) (acc : Str) {ι : Io} {H : Hp} {A : AH} {Q : Str → Hp → Prop}, Sim K ι A H → REnv W K ι H ρ σ → RP K W σ (rS K) ι H (jsM fs acc ρ A) Q → tJs (fs.map fun f => tM K W f) acc σ H Q
  | [], acc, ι, H, A, Q, S, E, h => RP.ok0 h ⟨S, rfl⟩
  | f :: fs, acc, ι, H, A, Q, S, E, h => RP_bind S E h fun ι1 A1 v u H1 e1 ⟨S1, r1⟩ h1 => by
    cases r1 with
    | str y =>
      dsimp only at h1
      split at h1
      · rename_i hl
        exact ⟨y, rfl, lim hl, tJs_of fs (acc ++ y) S1 (E.ext e1) h1⟩
      · exact h1.elim
    | _ => exact h1.elim
theorem m_js {v1 v2 : Expr} {rest : List Expr} {fs : List FE} (h : PJ X (v1 :: v2 :: rest) (fs.map fun f => tM X.K W f)) : PE X (.JoinedStr (v1 :: v2 :: rest) pos) (tM X.K W (eJs fs)) := (pe_joined h).imp fun σ H Q ⟨ι, A, ρ, S, E, h⟩ => tJs_of fs _ S E (RP.bnd (R' := rV X.K) h fun ι1 A1 v u H1 e1 ⟨S1, r1⟩ h1 => by
  subst r1
  exact h1.ok0 ⟨S1, .str _⟩)
theorem m_js1 (h : PE X e (tM X.K W f)) : PE X (.JoinedStr [e] pos) (tM X.K W f) := pe_joined1 h
/-! ### bytes -/
def encB (x : Str) : Array UInt8 := x.cps.map fun c => UInt8.ofNat c
def ascB (x : Str) : Bool := x.cps.toList.all fun c => decide (c < 128)
theorem encB_of {x : Str} (h : PySem.W.KSb.Asc x) {c : Array UInt8} (e : PySem.W.KBw.bInts c = PySem.W.KSb.codes x) : c = encB x := by
  have hl : c.toList = (encB x).toList := by
    unfold encB
    rw [Array.toList_map]
    unfold PySem.W.KBw.bInts PySem.W.KSb.codes at e
    unfold PySem.W.KSb.Asc at h
    generalize c.toList = l at e
    generalize x.cps.toList = m at e h
    induction m generalizing l with
    | nil =>
      cases l with
      | nil => rfl
      | cons a l => cases e
    | cons b m ih =>
      cases l with
      | nil => cases e
      | cons a l =>
        simp only [List.map_cons, List.cons.injEq] at e ⊢
        refine ⟨?_, by apply ih l <;> first | exact e.2 | exact fun c hc => h c (List.mem_cons_of_mem _ hc)⟩
        have e1 : a.toNat = b := by omega
        rw [← e1]
        simp
  exact Array.ext' hl
def eEnc (fo : FE) : FE := fun ρ A => (fo ρ A).bind fun v A => match v with
  | .str x => if ascB x = true ∧ x.length ≤ 1000000 then .ok (.byt (encB x)) A else .bad
  | _ => .bad
theorem m_encode (ho : PE X o (tM X.K W fo)) (hbase : attributeBase o "encode" X.env (eval o X.env) = eval o X.env := by rfl) (hline : (apos.endLine == cpos.line) = true := by rfl) : PE X (.Call (.Attribute o "encode" apos) [] [] cpos) (tM X.K W (eEnc fo)) :=
  (pe_bm0 PySem.F.plainAttrs_str PySem.F.slot_str_encode PySem.F.type_str_encode Fk.mt_encode ho hbase hline).imp fun σ H Q ⟨ι, A, ρ, S, E, h⟩ => RP_bind S E h fun ι1 A1 v u H1 e1 ⟨S1, r1⟩ h1 => by
    cases r1 with
    | str x =>
      dsimp only at h1
      split at h1
      · rename_i hx
        have ha : PySem.W.KSb.Asc x := fun c hc => of_decide_eq_true (List.all_eq_true.mp hx.1 c hc)
        refine ⟨rfl, x, rfl, rfl, ha, by omega, fun c e => ?_⟩
        rw [encB_of ha e]
        exact h1.ok0 ⟨S1, .byt _⟩
      · exact h1.elim
    | _ => exact h1.elim
def bytM (b : Array UInt8) : List MV := b.toList.map fun c => .int (c.toNat : Int)
def iByt (f : FE) : FL := fun ρ A => (f ρ A).bind fun v A => match v with
  | .byt b => .ok (bytM b) A
  | _ => .bad
theorem mi_byt {tg : Expr} (he : PE X e (tM X.K W f)) : PI X tg e (tMI X.K W (Mv.iByt f)) := (pi_byt he).imp fun σ H R ⟨ι, A, ρ, S, E, h⟩ => RP_bind S E h fun ι1 A1 v u H1 e1 ⟨S1, r1⟩ h1 => by
  cases r1 with
  | byt b =>
    refine ⟨b, rfl, h1.ok0 ⟨S1, fun ι2 A2 H2 l S2 i => ⟨fun v hv => ?_, fun hl => ?_⟩⟩⟩
    · unfold bytM at hv
      rw [List.getElem?_map] at hv
      cases ec : b.toList[i]? with
      | none => rw [ec] at hv; cases hv
      | some c =>
        rw [ec] at hv
        cases hv
        rw [Array.getElem?_toList] at ec
        have lt : i < b.size := (Array.getElem?_eq_some_iff.mp ec).1
        refine ⟨lt, fun x H3 ⟨q1, c', q2, q3⟩ => ?_⟩
        subst q1 q3
        rw [ec] at q2
        cases q2
        exact ⟨Ext.refl _ _, S2, .int _⟩
    · unfold bytM at hl
      rw [List.length_map, Array.length_toList] at hl
      exact hl
  | _ => exact h1.elim
end
end Mv
/-! MvF: own classes: isinstance, properties, == and != -/
namespace Mv
open PySem PySem.Spec PyProof.Rows L2 Fk
/-- what is known of the own classes -/
structure Kit (K : PySem.W.Frag) (own : List Str) : Prop where
  ty : ∀ C ∈ own, ∀ (H : Hp) (a dx : Addr) (fs : List (Str × V)), H a = some (.ins (He.ga K C) dx fs) → TyX K H (.ref a) (.ref (He.ga K C))
  oo : ∀ C ∈ own, ∀ D ∈ own, PySem.W.kitOne K (.ref (He.ga K C)) (.ref (He.ga K D)) = some (decide (C = D))
  to : ∀ t ∈ tys1, ∀ D ∈ own, PySem.W.kitOne K (.type t) (.ref (He.ga K D)) = some false
  ot : ∀ C ∈ own, ∀ T ∈ tys1, PySem.W.kitOne K (.ref (He.ga K C)) (.type T) = some false
  nt : ∀ C ∈ own, ∀ t ∈ tys1, PySem.W.notFirst K (He.ga K C) (.type t) = true
  no : ∀ C ∈ own, ∀ D ∈ own, PySem.W.notFirst K (He.ga K C) (.ref (He.ga K D)) = true
def insN (A : AH) : MV → Option Str
  | .obj C _ => some C
  | .ref n => (match A[n]? with
    | some (.ins C _) => some C
    | _ => none)
  | _ => none
theorem Sim.insN {K : PySem.W.Frag} {ι : Io} {H : Hp} {A : AH} {v : MV} {u : V} {C : Str} (S : Sim K ι A H) (r : RV K ι H v u) (h : Mv.insN A v = some C) : ∃ a dx ps, u = .ref a ∧ H a = some (.ins (He.ga K C) dx ps) := by
  unfold Mv.insN at h
  split at h
  · cases h
    cases r with
    | obj n h r => exact ⟨_, _, _, rfl, h⟩
  · split at h
    · rename_i e
      cases h
      obtain ⟨a, rfl, ea, ok⟩ := S.ref r e
      cases ok with
      | ins h1 h2 => exact ⟨a, _, _, rfl, h1⟩
    · cases h
  · cases h
/-- a built-in type's name, or an own class -/
def clsT (own : List Str) (A : AH) (v : MV) : Option (Sum String Str) := match insN A v with
  | some C => if own.contains C then some (.inr C) else none
  | none => (tyN A v).map Sum.inl
def kOk (own : List Str) : Sum String Str → Prop
  | .inl t => t ∈ tys1
  | .inr C => C ∈ own
def tyOfS (K : PySem.W.Frag) : Sum String Str → Value
  | .inl t => .type t
  | .inr C => .ref (He.ga K C)
theorem clsT_rel {K : PySem.W.Frag} {own : List Str} (T : Kit K own) {ι : Io} {H : Hp} {A : AH} {v : MV} {u : V} {k : Sum String Str} (S : Sim K ι A H) (r : RV K ι H v u) (h : clsT own A v = some k) : TyX K H u (tyOfS K k) ∧ kOk own k := by
  unfold clsT at h
  cases e : Mv.insN A v with
  | some C =>
    rw [e] at h
    dsimp only at h
    split at h
    · rename_i hc
      cases h
      have hc : C ∈ own := by simpa using hc
      obtain ⟨a, dx, ps, rfl, ha⟩ := S.insN r e
      exact ⟨T.ty C hc H a dx ps ha, hc⟩
    · cases h
  | none =>
    rw [e] at h
    obtain ⟨t, et, rfl⟩ := Option.map_eq_some_iff.mp h
    exact ⟨tyN_rel S r et, tyN_mem et⟩
def isi1 (own : List Str) : Sum String Str → MV → Option Bool
  | .inl t, .ty T => if tys1.contains T then some (isTy t T) else none
  | .inl _, .glo D => if own.contains D then some false else none
  | .inr _, .ty T => if tys1.contains T then some false else none
  | .inr C, .glo D => if own.contains D then some (decide (C = D)) else none
  | _, _ => none
theorem isi1_ok {K : PySem.W.Frag} {own : List Str} (T : Kit K own) {ι : Io} {H : Hp} {k : Sum String Str} {c : MV} {z : V} {b : Bool} (hk : kOk own k) (r : RV K ι H c z) (h : isi1 own k c = some b) : ∃ w, ClsV z w ∧ PySem.W.kitOne K (tyOfS K k) w = some b := by
  cases k with
  | inl t =>
    have hk : t ∈ tys1 := hk
    cases r with
    | ty n =>
      have h : (if tys1.contains n then some (isTy t n) else none) = some b := h
      split at h
      · rename_i hT
        cases h
        have hT : n ∈ tys1 := by simpa using hT
        have := List.all_eq_true.mp isTy_kit t hk
        exact ⟨.type n, .ty n, kit_ty (of_decide_eq_true (List.all_eq_true.mp this n hT))⟩
      · cases h
    | glo D =>
      have h : (if own.contains D then some false else none) = some b := h
      split at h
      · rename_i hD
        cases h
        exact ⟨_, .own _, T.to t hk D (by simpa using hD)⟩
      · cases h
    | _ => cases h
  | inr C =>
    have hk : C ∈ own := hk
    cases r with
    | ty n =>
      have h : (if tys1.contains n then some false else none) = some b := h
      split at h
      · rename_i hT
        cases h
        exact ⟨.type n, .ty n, T.ot C hk n (by simpa using hT)⟩
      · cases h
    | glo D =>
      have h : (if own.contains D then some (decide (C = D)) else none) = some b := h
      split at h
      · rename_i hD
        cases h
        exact ⟨_, .own _, T.oo C hk D (by simpa using hD)⟩
      · cases h
    | _ => cases h
def isiG (own : List Str) : List MV → AH → Rs MV := fun ms A => match ms with
  | [v, c] => (match clsT own A v with
    | some k => (match isi1 own k c with
      | some b => .ok (.bl b) A
      | none => .bad)
    | none => .bad)
  | _ => .bad
def isiL (own : List Str) (k : Sum String Str) : List MV → Option Bool
  | [] => some false
  | c :: cs => match isi1 own k c with
    | some true => some true
    | some false => isiL own k cs
    | none => none
theorem isiL_ok {K : PySem.W.Frag} {own : List Str} (T : Kit K own) {ι : Io} {H : Hp} {k : Sum String Str} (hk : kOk own k) {cs : List MV} {zs : List V} {b : Bool} (hs : ∀ c ∈ cs, (isi1 own k c).isSome = true) (rs : RVs K ι H cs zs) (h : isiL own k cs = some b) : ∃ ws, Paired ClsV zs ws ∧ PySem.W.kitAny K (tyOfS K k) ws = some b := by
  have all : ∀ {cs : List MV} {zs : List V}, (∀ c ∈ cs, (isi1 own k c).isSome = true) → RVs K ι H cs zs → ∃ ws, Paired ClsV zs ws := by
    intro cs zs hs rs
    induction cs generalizing zs with
    | nil => cases rs; exact ⟨[], .nil⟩
    | cons c cs ih =>
      cases rs with
      | cons r rs =>
        obtain ⟨b', e'⟩ := Option.isSome_iff_exists.mp (hs c (List.mem_cons_self ..))
        obtain ⟨w, hw, _⟩ := isi1_ok T hk r e'
        obtain ⟨ws, hws⟩ := ih (fun c hc => hs c (List.mem_cons_of_mem _ hc)) rs
        exact ⟨w :: ws, .cons hw hws⟩
  induction cs generalizing zs with
  | nil =>
    cases rs
    cases h
    exact ⟨[], .nil, rfl⟩
  | cons c cs ih =>
    cases rs with
    | cons r rs =>
      have h : (match isi1 own k c with | some true => some true | some false => isiL own k cs | none => none) = some b := h
      cases e : isi1 own k c with
      | none => rw [e] at h; cases h
      | some d =>
        rw [e] at h
        obtain ⟨w, hw, kw⟩ := isi1_ok T hk r e
        cases d with
        | true =>
          cases h
          obtain ⟨ws, hws⟩ := all (fun c hc => hs c (List.mem_cons_of_mem _ hc)) rs
          refine ⟨w :: ws, .cons hw hws, ?_⟩
          show (match PySem.W.kitOne K (tyOfS K k) w with | some true => some true | some false => PySem.W.kitAny K (tyOfS K k) ws | none => none) = _
          rw [kw]
        | false =>
          obtain ⟨ws, hws, kws⟩ := ih (fun c hc => hs c (List.mem_cons_of_mem _ hc)) rs h
          refine ⟨w :: ws, .cons hw hws, ?_⟩
          show (match PySem.W.kitOne K (tyOfS K k) w with | some true => some true | some false => PySem.W.kitAny K (tyOfS K k) ws | none => none) = _
          rw [kw]
          exact kws
section
variable {X : Cx} {W : Wi} {k n : Nat} {o e e2 : Expr} {es : List Expr} {fo fe f f2 : FE} {g : FL} {apos cpos p pos : Pos} {own : List Str}
theorem m_isiG (T : Kit X.K own) (hm : X.mg "isinstance" = none) (ha : PA X [e, e2] (tMA X.K W g)) (hg : Gl X "isinstance" := by rfl) (he : starEach [e, e2] X.env = (false, eval e X.env) :: starEach [e2] X.env := by rfl) (hpl : (backTo pos (starEach [e2] X.env)).any (·.1) = false := by rfl) : PE X (.Call (.Name "isinstance" p) [e, e2] [] pos) (tM X.K W fun ρ A => (g ρ A).bind (isiG own)) :=
  m_cB call_isi (fun {σ ι H A ms vs Q} S r h => by
    unfold isiG at h
    split at h
    · rename_i v c
      cases r with
      | cons rv rr => cases rr with
        | cons r2 r3 =>
          cases r3
          cases ek : clsT own A v with
          | none => rw [ek] at h; exact h.elim
          | some k =>
            rw [ek] at h
            dsimp only at h
            cases eb : isi1 own k c with
            | none => rw [eb] at h; exact h.elim
            | some b =>
              rw [eb] at h
              obtain ⟨t1, t2⟩ := clsT_rel T S rv ek
              obtain ⟨w, hw, kw⟩ := isi1_ok T t2 r2 eb
              exact ⟨_, _, _, w, b, rfl, hw, t1, kw, h.ok0 ⟨S, .bl _⟩⟩
    · exact h.elim) hm PyProof.Rows.boot_isinstance ha hg (he := he) (hpl := hpl)
/-- isinstance(e, (C, D, ..)) -/
def eIsiT (own : List Str) (fe : FE) (g : FL) : FE := fun ρ A => (fe ρ A).bind fun v A => (g ρ A).bind fun cs A => if szL cs then (match clsT own A v with
    | some k => if (cs.all fun c => (isi1 own k c).isSome) then (match isiL own k cs with
      | some b => .ok (.bl b) A
      | none => .bad) else .bad
    | none => .bad) else .bad
theorem m_isiT {kt : Nat} {tpos : Pos} (T : Kit X.K own) (hm : X.mg "isinstance" = none) (he1 : PE X e (tM X.K W fe)) (hes : PA X es (tMA X.K W g)) (hg : Gl X "isinstance" := by rfl) (hs1 : starEach [e, .Tuple es kt tpos] X.env = (false, eval e X.env) :: starEach [.Tuple es kt tpos] X.env := by rfl) (hs2 : starEach [.Tuple es kt tpos] X.env = (false, eval (.Tuple es kt tpos) X.env) :: starEach [] X.env := by rfl) (hpl : (backTo pos (starEach [.Tuple es kt tpos] X.env)).any (·.1) = false := by rfl) :
    PE X (.Call (.Name "isinstance" p) [e, .Tuple es kt tpos] [] pos) (tM X.K W (eIsiT own fe g)) :=
  (pe_callB call_isiT hg hm PyProof.Rows.boot_isinstance (pa_cons he1 (pa_cons (pe_tup hes) pa_nil hs2) hs1) (by decide) (by decide) hs1 hpl).imp fun σ H Q ⟨ι, A, ρ, S, E, h⟩ => RP_bind S E h fun ι1 A1 v u H1 e1 ⟨S1, r1⟩ h1 => RP_bind S1 (E.ext e1) h1 fun ι2 A2 cs zs H2 e2 ⟨S2, r2⟩ h2 => by
    split at h2
    · rename_i hz
      refine ⟨lim (by rw [← r2.length]; exact of_decide_eq_true hz), fun tp hp => ?_⟩
      cases ek : clsT own A2 v with
      | none => rw [ek] at h2; exact h2.elim
      | some k =>
        rw [ek] at h2
        dsimp only at h2
        split at h2
        · rename_i hall
          cases eb : isiL own k cs with
          | none => rw [eb] at h2; exact h2.elim
          | some b =>
            rw [eb] at h2
            have x1 : Ext ι2 H2 ι2 (upd H2 tp (.tup zs)) := Ext.new1 hp
            have S3 := S2.new1 (o := .tup zs) hp
            obtain ⟨t1, t2⟩ := clsT_rel T S3 ((r1.ext e2).ext x1) ek
            obtain ⟨ws, hws, kws⟩ := isiL_ok T t2 (fun c hc => List.all_eq_true.mp hall c hc) (r2.ext x1) eb
            exact ⟨_, tp, zs, _, ws, b, rfl, upd_same, hws, t1, kws, h2 ι2 _ _ x1 ⟨S3, .bl _⟩⟩
        · exact h2.elim
    · exact h2.elim
/-! ### properties -/
theorem cx_E0 {P : Program} {w : World} {outer : List Env} {H : Hp} {s s' : Shared} {u : Value} (h : L2.CX P w outer H s (fun _ _ _ => False) u s') : False := by
  obtain ⟨_, _, _, _, _, _, _, _, _, _, _, _, z⟩ := h
  exact z
def eProp (C : Str) (F : FF) (fo : FE) : FE := fun ρ A => (fo ρ A).bind fun v A => match insN A v with
  | some D => if D = C then (match F [v] A with
    | .ok w A' => .ok w A'
    | _ => .bad) else .bad
  | none => .bad
theorem m_prop {C x : Str} {pa ga_ : Addr} {F : FF} {fd : FuncData} {ps : List Str} (c : Cls X.K (He.ga X.K C)) (hp : PropOf X.K (He.ga X.K C) x pa ga_) (G : FnOk X.prog X.w X.K X.mg X.base (L2.CX X.prog X.w) k ga_ fd ps (spM X.K ps.length F)) (hr : Room (k + 1) X.A) (hb : Binds X.K fd ps []) (hn : ps.length = 1) (he : PE X o (tM X.K W fo))
    (hab : attributeBase o x X.env (eval o X.env) = eval o X.env := by rfl) : PE X (.Attribute o x pos) (tM X.K W (eProp C F fo)) :=
  (pe_prop (E := fun _ _ _ => False) he c hp G hr hb .nil (fun pins σ H s e s' I q => (cx_E0 q).elim) hab).imp fun σ H Q ⟨ι, A, ρ, S, E, h⟩ => RP_bind S E h fun ι1 A1 v u H1 e1 ⟨S1, r1⟩ h1 => by
    cases ei : Mv.insN A1 v with
    | none => rw [ei] at h1; exact h1.elim
    | some D =>
      rw [ei] at h1
      dsimp only at h1
      split at h1
      · rename_i hD
        subst hD
        obtain ⟨a, dx, qs, rfl, ha⟩ := S1.insN r1 ei
        refine ⟨a, dx, qs, rfl, ha, hn.symm, ι1, A1, [v], S1, .one r1, ?_⟩
        cases eF : F [v] A1 with
        | ok w A' => rw [eF] at h1; exact h1
        | err c fs A' => rw [eF] at h1; exact h1.elim
        | bad => rw [eF] at h1; exact h1.elim
      · exact h1.elim
/-! ### == and != by own __eq__ -/
def spM0 (K : PySem.W.Frag) (n : Nat) (F : FF) : Sp := fun vs H Q _ => spM K n F vs H Q fun _ _ _ => False
theorem fn_E0 {P : Program} {w : World} {K : PySem.W.Frag} {mg : Str → Option Value} {base : Heap} {k : Nat} {f : Addr} {fd : FuncData} {ps : List Str} {m : Nat} {F : FF} (G : FnOk P w K mg base (L2.CX P w) k f fd ps (spM K m F)) : FnOk P w K mg base CX0 k f fd ps (spM0 K m F) :=
  ⟨fun vs H Q E h => G.len vs H Q _ h, fun A outer s H args us vs Q E hr e0 hb r hs => codeAny_mono (G.run A outer s H args us vs Q _ hr e0 hb r hs) fun r s' q => by
    cases r with
    | error e => exact (cx_E0 q).elim
    | ok f => cases f <;> exact q⟩
/-- own classes with their __eq__ -/
structure EqT (X : Cx) (own : List Str) (n : Nat) (tab : List (Str × FF)) : Prop where
  m : ∀ C F, tab.lookup C = some F → C ∈ own ∧ EqM X.prog X.w X.K X.mg X.base n (He.ga X.K C) (spM0 X.K 2 F) ∧ NeM X.K (He.ga X.K C)
def cmpG (own : List Str) (tab : List (Str × FF)) (neg : Bool) (g : MV → MV → AH → Rs MV) : MV → MV → AH → Rs MV := fun x y A => match insN A x with
  | some C => (match tab.lookup C, clsT own A y with
    | some F, some _ => (match F [x, y] A with
      | .ok (.bl b) A' => .ok (.bl (neg != b)) A'
      | _ => .bad)
    | _, _ => .bad)
  | none => g x y A
theorem kOk_nf {K : PySem.W.Frag} {own : List Str} (T : Kit K own) {C : Str} (hC : C ∈ own) {k : Sum String Str} (h : kOk own k) : PySem.W.notFirst K (He.ga K C) (tyOfS K k) = true := by
  cases k with
  | inl t => exact T.nt C hC t h
  | inr D => exact T.no C hC D h
theorem op_eqG {g : MV → MV → AH → Rs MV} {tab : List (Str × FF)} (T : Kit X.K own) (Q : EqT X own n tab) (hr : Room n X.A) (hg : OpM X W (compareOp .Eq) g) : OpM X W (compareOp .Eq) (cmpG own tab false g) := by
  obtain ⟨r, hr1, hs1⟩ := hg.ex
  refine ⟨fun x y H R => (∃ C F, tab.lookup C = some F ∧ rEqO X.K (He.ga X.K C) (spM0 X.K 2 F) x y H R) ∨ r x y H R, fun pins s σ H x y v u R I rx ry h => ?_, fun {σ ι H A x y u v R} S rx ry h => ?_⟩
  · rcases h with ⟨C, F, e, h⟩ | h
    · exact op_eqO (Q.m C F e).2.1 hr pins s σ H x y v u R I rx ry h
    · exact hr1 pins s σ H x y v u R I rx ry h
  · unfold cmpG at h
    cases ei : Mv.insN A x with
    | none => rw [ei] at h; exact .inr (hs1 S rx ry h)
    | some C =>
      rw [ei] at h
      dsimp only at h
      cases et : tab.lookup C with
      | none => rw [et] at h; exact h.elim
      | some F =>
        rw [et] at h
        cases ek : clsT own A y with
        | none => rw [ek] at h; exact h.elim
        | some k =>
          rw [ek] at h
          dsimp only at h
          obtain ⟨a, dx, ps, rfl, ha⟩ := S.insN rx ei
          obtain ⟨t1, t2⟩ := clsT_rel T S ry ek
          refine .inl ⟨C, F, et, a, dx, ps, _, rfl, ha, t1, kOk_nf T (Q.m C F et).1 t2, rfl, ι, A, [x, y], S, .cons rx (.one ry), ?_⟩
          cases eF : F [x, y] A with
          | ok z A' =>
            rw [eF] at h
            cases z with
            | bl b =>
              intro ι' H' w x1 ⟨S', r'⟩
              cases r'
              refine ⟨b, rfl, ?_⟩
              have := h ι' H' _ x1 ⟨S', .bl _⟩
              rwa [nb] at this
            | _ => exact h.elim
          | err c fs A' => rw [eF] at h; exact h.elim
          | bad => rw [eF] at h; exact h.elim
theorem op_neG {g : MV → MV → AH → Rs MV} {tab : List (Str × FF)} (T : Kit X.K own) (Q : EqT X own n tab) (hr : Room (n + 2) X.A) (hg : OpM X W (compareOp .NotEq) g) : OpM X W (compareOp .NotEq) (cmpG own tab true g) := by
  obtain ⟨r, hr1, hs1⟩ := hg.ex
  refine ⟨fun x y H R => (∃ C F, tab.lookup C = some F ∧ rNeO X.K (He.ga X.K C) (spM0 X.K 2 F) x y H R) ∨ r x y H R, fun pins s σ H x y v u R I rx ry h => ?_, fun {σ ι H A x y u v R} S rx ry h => ?_⟩
  · rcases h with ⟨C, F, e, h⟩ | h
    · exact op_neO (Q.m C F e).2.1 (Q.m C F e).2.2 hr pins s σ H x y v u R I rx ry h
    · exact hr1 pins s σ H x y v u R I rx ry h
  · unfold cmpG at h
    cases ei : Mv.insN A x with
    | none => rw [ei] at h; exact .inr (hs1 S rx ry h)
    | some C =>
      rw [ei] at h
      dsimp only at h
      cases et : tab.lookup C with
      | none => rw [et] at h; exact h.elim
      | some F =>
        rw [et] at h
        cases ek : clsT own A y with
        | none => rw [ek] at h; exact h.elim
        | some k =>
          rw [ek] at h
          dsimp only at h
          obtain ⟨a, dx, ps, rfl, ha⟩ := S.insN rx ei
          obtain ⟨t1, t2⟩ := clsT_rel T S ry ek
          refine .inl ⟨C, F, et, a, dx, ps, _, rfl, ha, t1, kOk_nf T (Q.m C F et).1 t2, rfl, ι, A, [x, y], S, .cons rx (.one ry), ?_⟩
          cases eF : F [x, y] A with
          | ok z A' =>
            rw [eF] at h
            cases z with
            | bl b =>
              intro ι' H' w x1 ⟨S', r'⟩
              cases r'
              refine ⟨b, rfl, ?_⟩
              have := h ι' H' _ x1 ⟨S', .bl _⟩
              rwa [tb] at this
            | _ => exact h.elim
          | err c fs A' => rw [eF] at h; exact h.elim
          | bad => rw [eF] at h; exact h.elim
end
end Mv
/-! MvG: set comprehensions of keys -/
namespace Mv
open PySem PySem.Spec PyProof.Rows L2 Fk
section
variable {X : Cx}
/-- a new, empty set of keys -/
abbrev Em (X : Cx) (D : Addr) : HO := SetK X.prog X.w D (fun _ => false) 0
/-- what is in it when k was put -/
abbrev Ad (X : Cx) (D : Addr) (S : Key → Bool) (n : Nat) (k : Key) : HO := SetK X.prog X.w D (fun j => S j || decide (j = k)) (if S k = true then n else n + 1)
/-- one turn -/
def tTn (X : Cx) (D : Addr) (tt : TT) (te : TE) (σ : L2.St) (H : Hp) (Nx : Hp → Prop) : Prop := tt σ H fun b H3 => if b = true then te σ H3 fun y H4 => ∃ (k : Key) (S : Key → Bool) (n : Nat), y = kV k ∧ H4 D = some (SetK X.prog X.w D S n) ∧ n + 1 < scanBound ∧ Nx (upd H4 D (Ad X D S n k)) else Nx H3
/-- {elt for target in iter if ..}, elt an int or a text -/
def tSk (X : Cx) (wi : TI) (g : TG) (tt : TT) (te : TE) (vs : List Nat) : TE := fun σ H Q => wi σ H fun J H1 => ∀ D, H1 D = none → ∃ W : Nat → Nat → Hp → Prop, (∃ m, W 0 m (upd H1 D (Em X D))) ∧
  ∀ i m H, W i m H → (J.stop i H ∧ Q (.ref D) H) ∨ (J.go i H ∧ ∃ Nx : Hp → Prop, (∀ H', Nx H' → ∃ m', m' < m ∧ W (i + 1) m' H') ∧ ∀ x H', J.yld i H x H' → g x (wipe σ vs) H' fun σ2 H2 => wipe σ2 vs = wipe σ vs ∧ tTn X D tt te σ2 H2 Nx)
theorem em_ok {H : Hp} {h : Heap} : ObjOk X.prog X.w H (h.push ⟨.type "set", none, .set #[] 0 (.fresh 0 0 (!X.w.params.followText "set-order")), #[]⟩) h.objs.size (Em X h.objs.size) :=
  setK_new ⟨_, #[], 0, _, Heap.get?_push_size _ rfl, ⟨rfl, rfl, rfl⟩, rfl, (fun e he => by simp at he), (fun k => by simp), (by decide), (by rfl), rfl⟩
theorem pe_sk {elt tg iter : Expr} {ifs : List Expr} {scope : Scope} {own : List (PySem.Str × Nat)} {pos : Pos} {wi : TI} {g : TG} {tt : TT} {te : TE} (hc : X.calm = true) (hN : X.N.Nodup) (hi : PI X tg iter wi) (ok : BlkOk X.N X.env.scope scope own)
    (hg : ∀ s H C cl fp, PG (X.blk s H scope (compEnvC scope cl C X.env) fp) tg g) (ht : ∀ s H C cl fp, PTs (X.blk s H scope (compEnvC scope cl C X.env) fp) ifs tt) (he : ∀ s H C cl fp, PE (X.blk s H scope (compEnvC scope cl C X.env) fp) elt te) (hs : ∀ x, foldedSetIterable iter X.env x = pure x := by intro _; rfl) :
    PE X (.SetComp elt [⟨tg, iter, ifs, 0⟩] scope pos) (tSk X wi g tt te (own.map (·.2))) := by
  refine ⟨fun pins s σ H Q I h => ?_⟩
  show wpAny _ _ (comprehension (.SetComp elt [⟨tg, iter, ifs, 0⟩] scope pos) scope X.env (firstIterPos [⟨tg, iter, ifs, 0⟩] pos) (newSet (.type "set")) false (eval iter X.env)) _ _ _
  have free : ∀ y ∈ scope.names, y.2 = .free → ∃ c, X.env.cells.lookup y.1 = some c := fun y hy e => (ok.free y hy e).elim (fun k => I.ok.has _ (.inl k)) fun k => I.ok.has _ (.inr k)
  refine wpAny_comprehension_free (use := none) rfl hs (closure_ok free) ok.kind (fun y hy e => by rw [ok.uniq y hy, e]) (thn (hi.run pins s σ H _ I h) fun xv s1 hx => thn hx fun itv s2 h2 => ?_)
  obtain ⟨it, fp, tn, J, H2, rfl, I2, Tu, st2, f2, q⟩ := h2
  refine PpSet.newSet_ok (newEnv_comp ?_)
  have hD0 : H2 s2.heap.objs.size = none := I2.hok.fresh (Nat.le_refl _)
  obtain ⟨W, ⟨m0, w0⟩, go⟩ := q _ hD0
  have I3 := I2.laid (t' := s2.toks) (fun b o e => Heap.get?_push_of_some _ e) (Nat.le_refl _) (em_ok (X := X) (H := upd H2 s2.heap.objs.size (Em X s2.heap.objs.size)) (h := s2.heap))
  generalize eD : s2.heap.objs.size = D at *
  generalize eH : upd H2 D (Em X D) = H3 at *
  have low : ∀ b ∈ fp, b < D := fun b hb => by
    obtain ⟨o, e, _⟩ := Tu.obj _ _ st2 b hb
    rw [← eD]
    exact Heap.lt_size e
  generalize e3 : ({ s2 with heap := s2.heap.push ⟨.type "set", none, .set #[] 0 (.fresh 0 0 (!X.w.params.followText "set-order")), #[]⟩ } : Shared) = s3 at I3 ⊢
  have h3 : s3.heap = s2.heap.push ⟨.type "set", none, .set #[] 0 (.fresh 0 0 (!X.w.params.followText "set-order")), #[]⟩ := by rw [← e3]
  have f3 : ∀ b ∈ fp, FpOk X pins H3 b ∧ b < s3.heap.objs.size := fun b hb => ⟨⟨by rw [← eH, upd_ne (Nat.ne_of_lt (low b hb))]; exact (f2 b hb).1, (f2 b hb).2⟩, by
    rw [h3, Heap.size_push, eD]
    exact Nat.lt_succ_of_lt (low b hb)⟩
  have st3 : tn 0 s3.heap := Tu.keep _ _ _ st2 fun b _ o e => by
    rw [h3]
    exact Heap.get?_push_of_some _ e
  have I4 := block_start I3 ok hN f3
  obtain ⟨ce, ece⟩ : ∃ ce, ce = compEnvC scope (cellsFrom (s3.heap.objs.size + 1) scope.names (cloFrom X.env.cells scope.names [])) s3.heap.objs.size X.env := ⟨_, rfl⟩
  have pg := hg s3 H3 s3.heap.objs.size (cellsFrom (s3.heap.objs.size + 1) scope.names (cloFrom X.env.cells scope.names [])) fp
  have pt := ht s3 H3 s3.heap.objs.size (cellsFrom (s3.heap.objs.size + 1) scope.names (cloFrom X.env.cells scope.names [])) fp
  have pe := he s3 H3 s3.heap.objs.size (cellsFrom (s3.heap.objs.size + 1) scope.names (cloFrom X.env.cells scope.names [])) fp
  show codeAny _ _ (.compStart _ 0 (.ref it) (.ref D) (compEnvC scope (cellsFrom (s3.heap.objs.size + 1) scope.names (cloFrom X.env.cells scope.names [])) s3.heap.objs.size X.env)) _ ({ s3 with heap := pushCells (s3.heap.push ⟨.type "dict", none, .dict #[], #[]⟩) scope.names } : Shared)
  rw [← ece] at I4 pg pt pe ⊢
  have cL : ce.locals = s3.heap.objs.size := by rw [ece]; rfl
  have n3 : ∀ b ∈ fp, H3 b = none := fun b hb => (f3 b hb).1.1
  obtain ⟨s4, e4⟩ : ∃ s4 : Shared, s4 = { s3 with heap := pushCells (s3.heap.push ⟨.type "dict", none, .dict #[], #[]⟩) scope.names } := ⟨_, rfl⟩
  have st4 : tn 0 s4.heap := Tu.keep _ _ _ st3 fun b _ o e => by
    rw [e4]
    exact pushCells_keeps _ _ _ _ (Heap.get?_push_of_some _ e)
  rw [← e4] at I4 ⊢
  have okF : ∀ {σ' : L2.St} {H' : Hp} {s' : Shared}, Inv (X.blk s3 H3 scope ce fp) [] σ' H' s' → (∀ b ∈ fp, H' b = none) → ∀ b ∈ fp, FpOk (X.blk s3 H3 scope ce fp) [] H' b := fun {σ' H' s'} J' hn b hb =>
    ⟨hn b hb, (J'.ok.exf b hb).1, J'.ok.exfs b hb, .inl hb, fun x c e => (J'.ok.exf b hb).2 x c e, fun p hp => nomatch hp⟩
  have loop : codeAny (model X.prog X.w) X.A (.compLoop (.SetComp elt [⟨tg, iter, ifs, 0⟩] scope pos) 0 (.ref it) (.ref D) ce) (compPost (model X.prog X.w) X.A X.xe none (EP X pins σ Q) (.ref D) s3.heap.objs.size) s4 := by
    refine PpSet.compLoopS_any (fun n s' => ∃ i H', Inv (X.blk s3 H3 scope ce fp) [] (wipe σ (own.map (·.2))) H' s' ∧ tn i s'.heap ∧ (∀ b ∈ fp, H' b = none) ∧ W i n H') (fun n s5 h5 => ?_) m0 ⟨0, H3, I4, st4, n3, w0⟩
    obtain ⟨i, H5, I5, st5, n5, w5⟩ := h5
    rcases go i n H5 w5 with ⟨stop, qq⟩ | ⟨gg, Nx, hNx, step⟩
    · refine thnF (Tu.done (X.blk s3 H3 scope ce fp) rfl rfl rfl hc i [] s5 _ H5 (fun _ _ => False) I5 (okF I5 n5) st5 stop) fun r s6 ⟨hr, I6⟩ => ?_
      subst hr
      have I7 : Inv X pins σ H5 s6 := I3.call' (ch := fp) I6.os I6.base I6.hok I6.bare fun b hb => have z := (f3 b hb).1; ⟨z.2.2.2.1, z.2.1, z.2.2.2.2.1, z.2.2.2.2.2⟩
      have nC : H5 s3.heap.objs.size = none := by
        rw [← cL]
        exact I6.free
      obtain ⟨m, hn, _⟩ := I6.loc
      have hn : s6.heap.Ns ce.locals m := hn
      rw [cL] at hn
      have fC := I3.fpOk (Nat.le_refl _) nC
      refine ⟨m, hn, fun h'' sb => ?_⟩
      obtain ⟨g0, g1, g2, g3, g4, g5⟩ := fC
      exact ⟨.ref D, H5, I7.turned (t' := s6.toks) (fun b o hb e => (sb.2 b hb).trans e) g0 g1 g3 g4 g5, rfl, qq⟩
    · refine thnF (Tu.item (X.blk s3 H3 scope ce fp) rfl rfl rfl hc i [] s5 _ H5 (fun _ _ => False) I5 (okF I5 n5) st5 gg) fun r s6 ⟨u, hr, h6⟩ => ?_
      subst hr
      refine thnF h6 fun _ s7 ⟨x, H7, I7, r7, y7, st7, n7⟩ => ?_
      refine thnF (pg.run _ s7 _ H7 x u _ (I7.pinned (okF I7 n7) (Tu.obj _ _ st7)) r7 (step x H7 y7)) fun _ s8 ⟨σ8, H8, I8, hw8, q8⟩ => ?_
      refine thnF (pt.run _ s8 σ8 H8 _ I8 q8) fun b s9 ⟨H9, I9, q9⟩ => ?_
      have close : ∀ {s' : Shared} {H' : Hp}, Inv (X.blk s3 H3 scope ce fp) ([] ++ pinsAt fp s7.heap) σ8 H' s' → Nx H' → ∃ m, m < n ∧ ∃ i H', Inv (X.blk s3 H3 scope ce fp) [] (wipe σ (own.map (·.2))) H' s' ∧ tn i s'.heap ∧ (∀ b ∈ fp, H' b = none) ∧ W i m H' := fun {s' H'} J' nx => by
        obtain ⟨m', hm, w'⟩ := hNx H' nx
        have pin : ∀ b ∈ fp, ∀ o, s7.heap.get? b = some o → s'.heap.get? b = some o ∧ H' b = none := fun b hb o e => by
          have z := J'.pin (b, o) (List.mem_append_right _ (List.mem_append_right _ (mem_pinsAt hb e)))
          exact ⟨z.1, z.2.1⟩
        refine ⟨m', hm, i + 1, H', (J'.unpinned (pins := [])).weak (by rw [← hw8, wipe_length]) (fun j v e => ?_), Tu.keep _ _ _ st7 fun b hb o e => (pin b hb o e).1, fun b hb => ?_, w'⟩
        · rw [← hw8] at e
          exact (wipe_some e).1
        · obtain ⟨o, e, _⟩ := Tu.obj _ _ st7 b hb
          exact (pin b hb o e).2
      cases b with
      | false =>
        rw [if_neg Bool.false_ne_true] at q9 ⊢
        exact close I9 q9
      | true =>
        rw [if_pos rfl] at q9 ⊢
        refine thnF (pe.run _ s9 σ8 H9 _ I9 q9) fun z s10 ⟨yv, H10, I10, r10, ky, S0, n0, ey, hD10, hz10, nx⟩ => ?_
        subst ey
        refine thnF (mt_saddK (X := X.blk s3 H3 scope ce fp) _ s10 σ8 H10 (.ref D) [kV ky] (.ref D) [z] (fun _ H11 => Nx H11) I10 rfl (.cons r10 .nil) ⟨D, ky, S0, n0, rfl, rfl, hD10, hz10, nx⟩) fun v s11 ⟨_, H11, I11, _, nx'⟩ => ?_
        exact close I11 nx'
  exact PpSet.codeAny_compStart_set loop (Tu.self X.A 0 _ _ _ st4 loop)
/-- len(a set of keys) -/
theorem call_lenK : CallR X (.builtin "len") (fun xs H Q => ∃ (a : Addr) (S : Key → Bool) (n : Nat), xs = [V.ref a] ∧ H a = some (SetK X.prog X.w a S n) ∧ n < scanBound ∧ Q (.int n) H) := by
  intro pins s σ H xs us Q I r h
  obtain ⟨a, S, n, rfl, ha, hn, q⟩ := h
  rw [Vals.ref1 r]
  obtain ⟨o, es, ep, t, ho, hex, hd, h1, h2, h3, h4, h5⟩ := setK_get I ha
  have hb : (es.size : Int) < 2 ^ 63 := by
    have : scanBound = 4096 := rfl
    omega
  subst h5
  exact call_len_set ho hex hd h4 hb ⟨.int es.size, H, I.tok _, ⟨_, rfl⟩, q⟩
end
/-! ### len({e for t in i if c}) -/
def eScLen (fi : FL) (own is : List Nat) (g : MV → Option (List MV)) (ft : FB) (fk : FE) : FE := fun ρ A => (fi ρ A).bind fun xs A => match dRun is g (dElt ft fk (eC .non)) xs [] (wipeM ρ own) A with
  | .ok kvs A' => if kvs.length < 4000 then .ok (.int kvs.length) A' else .bad
  | _ => .bad
/-- a set comprehension runs: its set is at D, hidden -/
structure ScS (X : Cx) (ι1 : Io) (H1 : Hp) (D : Addr) (tr : List Addr) (H : Hp) (A : AH) (acc : List (Key × MV)) : Prop where
  e : Ext ι1 H1 ⟨tr, ι1.pv⟩ H
  S : Sim X.K ⟨tr, D :: ι1.pv⟩ A H
  nt : D ∉ tr
  ex : ∃ M, H D = some (SetK X.prog X.w D M acc.length) ∧ ∀ k, M k = acc.any fun p => decide (p.1 = k)
theorem len_mono {k : Key} {acc : List (Key × MV)} {v : MV} : acc.length ≤ (putM acc k v).length := by
  unfold putM
  split
  · rw [List.length_map]; exact Nat.le_refl _
  · rw [List.length_append]; exact Nat.le_add_right _ _
theorem dRun_len {is : List Nat} {g : MV → Option (List MV)} {ft : FB} {fk fv : FE} {ρ : ME} : ∀ {xs : List MV} {acc kvs : List (Key × MV)} {A A' : AH}, dRun is g (dElt ft fk fv) xs acc ρ A = .ok kvs A' → acc.length ≤ kvs.length
  | [], acc, kvs, A, A', h => by cases h; exact Nat.le_refl _
  | x :: xs, acc, kvs, A, A', h => by
    unfold dRun at h
    cases eg : g x with
    | none => rw [eg] at h; cases h
    | some ms =>
      rw [eg] at h
      dsimp only at h
      cases ef : dElt ft fk fv acc (setAllM ρ is ms) A with
      | bad => rw [ef] at h; cases h
      | err c fs B => rw [ef] at h; cases h
      | ok acc' A3 =>
        rw [ef] at h
        refine Nat.le_trans ?_ (dRun_len h)
        unfold dElt at ef
        split at ef
        · split at ef
          · split at ef
            · split at ef
              · split at ef
                · cases ef; exact len_mono
                · cases ef
              · cases ef
            · cases ef
          · cases ef
        · cases ef; exact Nat.le_refl _
        · cases ef
section
variable {X : Cx} {ι1 ι2 : Io} {H1 H H2 : Hp} {D : Addr} {tr : List Addr} {A A2 : AH} {acc : List (Key × MV)}
theorem ScS.go (L : ScS X ι1 H1 D tr H A acc) (x : Ext ⟨tr, D :: ι1.pv⟩ H ι2 H2) (S2 : Sim X.K ι2 A2 H2) : ι2 = ⟨ι2.tr, D :: ι1.pv⟩ ∧ ScS X ι1 H1 D ι2.tr H2 A2 acc := by
  obtain ⟨tr2, pv2⟩ := ι2
  have ep : pv2 = D :: ι1.pv := x.pv
  subst ep
  obtain ⟨M, h1, h2⟩ := L.ex
  exact ⟨rfl, L.e.trans ⟨x.pre, rfl, x.new, x.keep, x.frz⟩, S2, x.out L.nt h1, M, x.keep _ _ L.nt h1, h2⟩
theorem nofrz_set {M : Key → Bool} {n : Nat} (h : H D = some (SetK X.prog X.w D M n)) : NoFrz H D := fun o u e => by
  rw [h] at e
  cases e
theorem ScS.put (L : ScS X ι1 H1 D tr H A acc) (hf : H1 D = none) (key : Key) : ∃ M, H D = some (SetK X.prog X.w D M acc.length) ∧ ScS X ι1 H1 D tr (upd H D (Ad X D M acc.length key)) A (putM acc key .non) ∧ Lx ⟨tr, D :: ι1.pv⟩ H ⟨tr, D :: ι1.pv⟩ (upd H D (Ad X D M acc.length key)) := by
  obtain ⟨M, h1, h2⟩ := L.ex
  have l : Lx ⟨tr, D :: ι1.pv⟩ H ⟨tr, D :: ι1.pv⟩ (upd H D (Ad X D M acc.length key)) := Lx.priv (List.mem_cons_self ..) (nofrz_set h1)
  refine ⟨M, h1, ⟨L.e.mutNew hf, L.S.priv (List.mem_cons_self ..) L.nt, L.nt, (fun j => M j || decide (j = key)), upd_same.trans ?_, ?_⟩, l⟩
  · have e : (if M key = true then acc.length else acc.length + 1) = (putM acc key .non).length := by
      unfold putM
      rw [h2 key]
      split
      · rw [List.length_map]
      · rw [List.length_append]; rfl
    show some (SetK X.prog X.w D _ (if M key = true then acc.length else acc.length + 1)) = _
    rw [e]
  · intro k
    show (M k || decide (k = key)) = _
    rw [h2 k]
    unfold putM
    split
    · rename_i hk
      rw [List.any_map]
      by_cases z : k = key
      · subst z
        rw [decide_eq_true rfl, Bool.or_true]
        obtain ⟨p, hp, e⟩ := List.any_eq_true.mp hk
        exact (List.any_eq_true.mpr ⟨p, hp, by simp only [Function.comp, of_decide_eq_true e, if_true, decide_true]⟩).symm
      · rw [decide_eq_false z, Bool.or_false]
        congr 1
        funext p
        simp only [Function.comp]
        split <;> rfl
    · rw [List.any_append]
      congr 1
      simp only [List.any_cons, List.any_nil, Bool.or_false]
      by_cases z : k = key
      · rw [z]
      · rw [decide_eq_false z, decide_eq_false (fun q => z q.symm)]
end
section
variable {X : Cx} {W : Wi} {kx tg iter : Expr} {ifs : List Expr} {scope : Scope} {own : List (Str × Nat)} {p pos cpos : Pos} {fi : FL} {is : List Nat} {g : MV → Option (List MV)} {ft : FB} {fk : FE}
theorem m_lenSc (hm : X.mg "len" = none) (hc : X.calm = true) (hN : X.N.Nodup) (hi : PI X tg iter (tMI X.K W fi)) (ok : BlkOk X.N X.env.scope scope own) (hsub : ∀ i ∈ is, i ∈ own.map (·.2))
    (hg : ∀ (s : Shared) (H : Hp) (C : Addr) (cl : List (Str × Addr)) (fp : List Addr), TgM (X.blk s H scope (compEnvC scope cl C X.env) fp) tg is g) (ht : ∀ (s : Shared) (H : Hp) (C : Addr) (cl : List (Str × Addr)) (fp : List Addr), PTsM (X.blk s H scope (compEnvC scope cl C X.env) fp) W0 ifs ft)
    (hk : ∀ (s : Shared) (H : Hp) (C : Addr) (cl : List (Str × Addr)) (fp : List Addr), PE (X.blk s H scope (compEnvC scope cl C X.env) fp) kx (tM X.K W0 fk)) (hs : ∀ x, foldedSetIterable iter X.env x = pure x := by intro _; rfl) (hgl : Gl X "len" := by rfl)
    (hst : starEach [.SetComp kx [⟨tg, iter, ifs, 0⟩] scope pos] X.env = (false, eval (.SetComp kx [⟨tg, iter, ifs, 0⟩] scope pos) X.env) :: starEach [] X.env := by rfl) :
    PE X (.Call (.Name "len" p) [.SetComp kx [⟨tg, iter, ifs, 0⟩] scope pos] [] cpos) (tM X.K W (eScLen fi (own.map (·.2)) is g ft fk)) := by
  refine (pe_callB call_lenK hgl hm PySem.boot_len (pa_cons (pe_sk (g := tMG X.K is g) (tt := tMB X.K W0 ft) hc hN hi ok hg ht hk hs) pa_nil hst) (by decide) (by decide) hst rfl).imp fun σ H Q h => ?_
  obtain ⟨ι, A, ρ, S, E, h⟩ := h
  refine RP_bind0 S E h fun ι1 A1 xs J H1 e1 ⟨S1, okJ⟩ h1 => ?_
  intro D hD
  cases er : dRun is g (dElt ft fk (eC .non)) xs [] (wipeM ρ (own.map (·.2))) A1 with
  | bad => rw [er] at h1; exact h1.elim
  | err c fs B => rw [er] at h1; exact h1.elim
  | ok kvs A' =>
    rw [er] at h1
    dsimp only at h1
    by_cases hz : kvs.length < 4000
    · rw [if_pos hz] at h1
      have l0 : Lx ι1 H1 ⟨ι1.tr, D :: ι1.pv⟩ (upd H1 D (Em X D)) := ⟨(Le.hide hD).trans ⟨List.prefix_refl _, fun p u n e => ⟨n, by
        rw [upd_ne (ne_of_none e hD)]
        exact e⟩⟩, fun p o u e => by
        rw [upd_ne (ne_of_none e hD)]
        exact e⟩
      have L0 : ScS X ι1 H1 D ι1.tr (upd H1 D (Em X D)) A1 [] := ⟨Ext.new1 hD, Sim.hide S1 hD, S1.out hD, _, upd_same, fun k => rfl⟩
      have ok2 := okJ.lx l0
      have E0 : REnv W0 X.K ⟨ι1.tr, D :: ι1.pv⟩ (upd H1 D (Em X D)) (wipeM ρ (own.map (·.2))) (L2.wipe σ (own.map (·.2))) := (((E.ext e1).le l0.le).w0.wipe _)
      refine ⟨fun i m H2 => ∃ tr2 A2 acc, ScS X ι1 H1 D tr2 H2 A2 acc ∧ Lx ⟨ι1.tr, D :: ι1.pv⟩ (upd H1 D (Em X D)) ⟨tr2, D :: ι1.pv⟩ H2 ∧ dRun is g (dElt ft fk (eC .non)) (xs.drop i) acc (wipeM ρ (own.map (·.2))) A2 = .ok kvs A' ∧ m = xs.length - i ∧ i ≤ xs.length, ⟨_, ι1.tr, A1, [], L0, Lx.refl _ _, er, rfl, Nat.zero_le _⟩, fun i m H2 ⟨tr2, A2, acc, L2, l2, hq2, em, hl⟩ => ?_⟩
      obtain ⟨k1, k2⟩ := ok2 _ _ _ l2 L2.S i
      by_cases hi : i < xs.length
      · obtain ⟨v, hv⟩ : ∃ v, xs[i]? = some v := ⟨_, List.getElem?_eq_getElem hi⟩
        obtain ⟨go, yl⟩ := k1 v hv
        have ed : xs.drop i = v :: xs.drop (i + 1) := by
          rw [List.drop_eq_getElem_cons hi]
          rw [List.getElem?_eq_getElem hi] at hv
          cases hv
          rfl
        rw [ed] at hq2
        unfold dRun at hq2
        cases eg : g v with
        | none => rw [eg] at hq2; cases hq2
        | some ms =>
          rw [eg] at hq2
          dsimp only at hq2
          cases ef : dElt ft fk (eC .non) acc (setAllM (wipeM ρ (own.map (·.2))) is ms) A2 with
          | bad => rw [ef] at hq2; cases hq2
          | err c fs B => rw [ef] at hq2; cases hq2
          | ok acc' A3 =>
            rw [ef] at hq2
            dsimp only at hq2
            have al := dRun_len hq2
            refine .inr ⟨go, fun H' => ∃ tr3, ScS X ι1 H1 D tr3 H' A3 acc' ∧ Lx ⟨ι1.tr, D :: ι1.pv⟩ (upd H1 D (Em X D)) ⟨tr3, D :: ι1.pv⟩ H', fun H' ⟨tr3, L3, l3⟩ => ⟨xs.length - (i + 1), by omega, tr3, A3, acc', L3, l3, hq2, rfl, hi⟩, fun x H3 y => ?_⟩
            obtain ⟨e3, S3, r3⟩ := yl x H3 y
            obtain ⟨_, L3⟩ := L2.go e3 S3
            refine ⟨_, A2, v, ms, S3, r3, eg, fun zs hr hlz => ⟨wipe_wipe hsub, ?_⟩⟩
            have E3 := (E0.le (l2.trans e3.lx).le).setAll (is := is) hr
            have lx3 := l2.trans e3.lx
            unfold dElt at ef
            refine ⟨_, A2, _, S3, E3, ?_⟩
            cases et : ft (setAllM (wipeM ρ (own.map (·.2))) is ms) A2 with
            | bad => rw [et] at ef; cases ef
            | err c fs B => rw [et] at ef; cases ef
            | ok b B1 =>
              rw [et] at ef
              rintro ι4 H4 u x4 ⟨S4, rfl⟩
              obtain ⟨e4, L4⟩ := L3.go x4 S4
              cases b with
              | false =>
                cases ef
                rw [e4] at x4
                exact ⟨_, L4, lx3.trans x4.lx⟩
              | true =>
                dsimp only at ef
                rw [if_pos rfl]
                cases ek : fk (setAllM (wipeM ρ (own.map (·.2))) is ms) B1 with
                | bad => rw [ek] at ef; cases ef
                | err c fs B => rw [ek] at ef; cases ef
                | ok kv B2 =>
                  rw [ek] at ef
                  dsimp only [eC] at ef
                  refine ⟨ι4, B1, _, S4, E3.ext x4, ?_⟩
                  rw [ek]
                  rintro ι5 H5 yk x5 ⟨S5, r5⟩
                  rw [e4] at x5
                  obtain ⟨e5, L5⟩ := L4.go x5 S5
                  cases eo : keyOf kv with
                  | none => rw [eo] at ef; cases ef
                  | some key =>
                    rw [eo] at ef
                    dsimp only at ef
                    split at ef
                    · rename_i hlen
                      cases ef
                      obtain ⟨M, h7, L7, l7⟩ := L5.put hD key
                      have kr := keyOf_rel r5 eo
                      have am : acc.length ≤ (putM acc key .non).length := len_mono
                      refine ⟨key, M, acc.length, kr, h7, ?_, _, L7, ?_⟩
                      · show acc.length + 1 < 4096
                        omega
                      · rw [e4] at x4
                        rw [e5] at x5
                        exact ((lx3.trans x4.lx).trans x5.lx).trans l7
                    · cases ef
      · refine .inl ⟨k2 (by omega), ?_⟩
        rw [List.drop_eq_nil_of_le (by omega)] at hq2
        cases hq2
        obtain ⟨M, h8, _⟩ := L2.ex
        have ex : Ext ι H ⟨tr2, ι.pv⟩ H2 := by
          have := e1.trans L2.e
          rw [e1.pv] at this
          exact this
        have S9 := L2.S.show
        rw [e1.pv] at S9
        refine ⟨D, M, kvs.length, rfl, h8, ?_, h1 ⟨tr2, ι.pv⟩ H2 _ ex ⟨S9, .int _⟩⟩
        show kvs.length < 4096
        omega
    · rw [if_neg hz] at h1
      exact h1.elim
end
end Mv
/-! MvH: d.update(d2), list(d), bool(x), a thing that is never changed any more, enumerate -/
namespace Mv
open PySem PySem.Spec PyProof.Rows L2 Fk
section
variable {X : Cx} {W : Wi} {k : Nat} {o e e2 tg : Expr} {fo fe f f2 : FE} {g : FL} {apos cpos p pos : Pos}
/-! ### update -/
theorem mergeK_len : ∀ (more kvs : List (Key × V)), (mergeK kvs more).length ≤ kvs.length + more.length
  | [], kvs => Nat.le_refl _
  | m :: more, kvs => by
    show (mergeK (putK kvs m.1 m.2) more).length ≤ _
    refine Nat.le_trans (mergeK_len more _) ?_
    have : (putK kvs m.1 m.2).length ≤ kvs.length + 1 := by
      unfold putK
      split
      · rw [List.length_map]; exact Nat.le_succ _
      · rw [List.length_append]; exact Nat.le_refl _
    rw [List.length_cons]
    omega
def rUpd : V → List V → Hp → VK → Prop := fun x vs H Q => ∃ (a b : Addr) (kvs more : List (Key × V)), x = .ref a ∧ vs = [.ref b] ∧ a ≠ b ∧ H a = some (.dK kvs) ∧ Rd H b (.dK more) ∧ kvs.length + more.length ≤ sizeLine ∧ Q .non (upd H a (.dK (mergeK kvs more)))
theorem mt_upd : MtR X "dict.update" rUpd := by
  intro pins s σ H x vs v us Q I rx rv h
  obtain ⟨a, b, kvs, more, rfl, rfl, hab, hA, hB, hz, q⟩ := h
  cases rx
  obtain ⟨u, rfl, ru⟩ := rv.one
  cases ru
  obtain ⟨z1, m1, ws, rel1, d1⟩ := dk_of I.hok hA
  obtain ⟨z2, m2, ys, rel2, d2⟩ := dk_rd I.hok hB
  refine call_meetsIn PySem.F.slot_dict_update d1.typeIs PySem.F.entry_dict_update (PySem.F.args_dict_update_2 _ _) (meets_dict_update (mixKind X.prog X.w) a b hab m2) ⟨ws, ys, d1, d2, by rw [← rel1.length, ← rel2.length]; exact hz, fun h' n1 n2 hs => ?_⟩
  have he : ∃ q, h'.get? a = some q := let ⟨q, _, _, hq, _⟩ := n1; ⟨q, hq⟩
  exact ⟨.non, _, d_write I (by rw [hA]; exact True.intro) hs he (dk_new (Nat.le_trans (mergeK_len more kvs) hz) m1 (KV.merge rel2 rel1) n1), rfl, q⟩
def updM (v w : MV) (A : AH) : Rs MV := match dctW A v, dctV A w with
  | some (n, kvs), some more => (match w with
    | .ref m => if n ≠ m ∧ kvs.length + more.length ≤ 1000000 then .ok .non (A.set n (.dct (mergeM kvs more))) else .bad
    | _ => .bad)
  | _, _ => .bad
def eUpd (fo fe : FE) : FE := fun ρ A => (fo ρ A).bind fun v A => if (dctW A v).isSome then (fe ρ A).bind fun w A => updM v w A else .bad
theorem m_update (ho : PE X o (tM X.K W fo)) (he : PE X e (tM X.K W fe)) (hbase : attributeBase o "update" X.env (eval o X.env) = eval o X.env := by rfl)
    (hfew : ((backTo cpos (starEach [e] X.env)).all (fun x => !x.1) && (backToKw cpos (keywordEach [] X.env)).all (fun x => x.1.isSome)
      && decide (([e] : List Expr).length + ([] : List Keyword).length + (if ([] : List Keyword).isEmpty then 0 else 1) < 30)) = true := by rfl)
    (hline : (apos.endLine == cpos.line) = true := by rfl) (hs : starEach [e] X.env = (false, eval e X.env) :: starEach [] X.env := by rfl) (hplain : (backTo cpos (starEach [] X.env)).any (·.1) = false := by rfl) :
    PE X (.Call (.Attribute o "update" apos) [e] [] cpos) (tM X.K W (eUpd fo fe)) :=
  (pe_bm PySem.F.plainAttrs_dict PySem.F.slot_dict_update PySem.F.type_dict_update mt_upd ho (pa_cons he pa_nil hs) hbase hfew hline hs hplain).imp fun σ H Q ⟨ι, A, ρ, S, E, h⟩ => RP_bind S E h fun ι1 A1 v u H1 e1 ⟨S1, r1⟩ h1 => by
    split at h1
    · rename_i hb
      obtain ⟨⟨n0, kvs0⟩, ew⟩ := Option.isSome_iff_exists.mp hb
      obtain ⟨a0, ps0, eu, ea0, hd0, _⟩ := S1.dctW r1 ew
      subst eu
      refine ⟨.inr (.inr (.inl ⟨rfl, .inl ⟨ps0, hd0⟩⟩)), RP_bind S1 (E.ext e1) h1 fun ι2 A2 w z H2 e2 ⟨S2, r2⟩ h2 => ?_⟩
      unfold updM at h2
      cases el : Mv.dctW A2 v with
      | none => rw [el] at h2; exact h2.elim
      | some pr =>
        obtain ⟨n, kvs⟩ := pr
        rw [el] at h2
        cases ed : Mv.dctV A2 w with
        | none => rw [ed] at h2; exact h2.elim
        | some more =>
          rw [ed] at h2
          dsimp only at h2
          obtain ⟨a, ps, ea', ea, hd, rk⟩ := S2.dctW (r1.ext e2) el
          obtain ⟨b, qs, rfl, hq, rq⟩ := S2.dctV r2 ed
          cases ea'
          split at h2
          · rename_i m
            split at h2
            · rename_i hl
              have ne : a0 ≠ b := fun z => by
                subst z
                cases r2 with
                | ref eb =>
                  have hn := (List.getElem?_eq_some_iff.mp ea).1
                  exact hl.1 ((List.getElem?_inj hn S2.nd).mp (ea.trans eb.symm))
              obtain ⟨S3, e3⟩ := S2.putD ea hd (RKs.merge rq rk)
              exact ⟨a0, b, ps, qs, rfl, rfl, ne, hd, hq, lim (by rw [← rk.length, ← rq.length]; exact hl.2), h2 ι2 _ _ e3 ⟨S3, .non⟩⟩
            · exact h2.elim
          · exact h2.elim
    · exact h1.elim
/-! ### list(d) -/
def listD : List MV → AH → Rs (List MV) := fun ms A => match ms with
  | [v] => (match dctV A v with
    | some kvs => .ok (kvs.map fun p => keyM p.1) A
    | none => .bad)
  | _ => .bad
theorem rvs_keys {K : PySem.W.Frag} {ι : Io} {H : Hp} : ∀ {kvs : List (Key × MV)} {ps : List (Key × V)}, RKs K ι H kvs ps → RVs K ι H (kvs.map fun p => keyM p.1) (ps.map fun p => kV p.1)
  | _, _, .nil => .nil
  | _, _, .cons _ b => .cons (rv_key _) (rvs_keys b)
theorem ml_listD (hc : X.calm = true) (hm : X.mg "list" = none) (ha : PA X [e] (tMA X.K W g)) (hg : Gl X "list" := by rfl) (he : starEach [e] X.env = (false, eval e X.env) :: starEach [] X.env := by rfl) : PE X (.Call (.Name "list" p) [e] [] pos) (tML X.K W fun ρ A => (g ρ A).bind listD) :=
  m_cT (call_listD hc) (fun {σ ι H A ms vs Q} S r h => by
    unfold listD at h
    split at h
    · cases r with
      | cons rv rr =>
        cases rr
        split at h
        · rename_i kvs et
          obtain ⟨a, ps, rfl, hd, rk⟩ := S.dctV rv et
          exact ⟨a, ps, rfl, hd, fun l hl => h.newL S hl (rvs_keys rk)⟩
        · exact h.elim
    · exact h.elim) hm PyProof.Rows.boot_list ha hg (he := he)
/-! ### bool(x) -/
def boolM : List MV → AH → Rs MV := fun ms A => match ms with
  | [.int i] => .ok (.bl (i != 0)) A
  | [.bl b] => .ok (.bl b) A
  | _ => .bad
theorem m_bool (hm : X.mg "bool" = none) (ha : PA X [e] (tMA X.K W g)) (hg : Gl X "bool" := by rfl) (he : starEach [e] X.env = (false, eval e X.env) :: starEach [] X.env := by rfl) : PE X (.Call (.Name "bool" p) [e] [] pos) (tM X.K W fun ρ A => (g ρ A).bind boolM) :=
  m_cT call_bool1 (fun {σ ι H A ms vs Q} S r h => by
    unfold boolM at h
    split at h
    · cases r with
      | cons rv rr =>
        cases rr
        cases rv
        exact .inl ⟨_, rfl, h.ok0 ⟨S, .bl _⟩⟩
    · cases r with
      | cons rv rr =>
        cases rr
        cases rv
        exact .inr ⟨_, rfl, h.ok0 ⟨S, .bl _⟩⟩
    · exact h.elim) hm bt_bool ha hg (he := he)
/-! ### a thing that is never changed any more -/
def eFz (f : FE) : FE := fun ρ A => (f ρ A).bind fun v A => match v with
  | .ref n => (match A[n]? with
    | some m => (match lkO m with
      | some m' => .ok (.ref n) (A.set n m')
      | none => .bad)
    | none => .bad)
  | _ => .bad
theorem m_fz (h : PE X e (tM X.K W f)) : PE X e (tM X.K W (eFz f)) := by
  refine ⟨fun pins s σ H Q I ⟨ι, A, ρ, S, E, hw⟩ => ?_⟩
  have h' : tM X.K W f σ H (fun x H1 => ∃ (d : Addr) (u : HO), x = .ref d ∧ H1 d = some u ∧ Mut (some u) ∧ ∀ od, Q (.ref d) (upd H1 d (.frz od u))) := RP_bind S E hw fun ι1 A1 v x H1 e1 ⟨S1, r1⟩ h1 => by
    cases v with
    | ref n =>
      dsimp only at h1
      cases en : A1[n]? with
      | none => rw [en] at h1; exact h1.elim
      | some m =>
        rw [en] at h1
        dsimp only at h1
        cases el : lkO m with
        | none => rw [el] at h1; exact h1.elim
        | some m' =>
          rw [el] at h1
          obtain ⟨d, u, ed, hd, r, kk⟩ := S1.lock en el
          cases r1 with
          | ref ea =>
            rw [ed] at ea
            cases ea
            refine ⟨d, u, rfl, hd, r.mu.1, fun od => ?_⟩
            obtain ⟨S2, x2⟩ := kk od
            exact h1 ι1 _ _ x2 ⟨S2, .ref ed⟩
    | _ => exact h1.elim
  refine thn (h.run pins s σ H _ I h') fun v s1 ⟨x, H1, I1, r1, d, u, ex, hd, mu, q⟩ => ?_
  subst ex
  obtain ⟨od, I2⟩ := I1.lock hd mu
  exact ⟨.ref d, _, I2, r1, q od⟩
/-! ### enumerate(list) -/
def enumM (xs : List MV) : List MV := xs.zipIdx.map fun p => .tup [.int (p.2 : Nat), p.1]
def iEnumM (g : FL) : FL := fun ρ A => (g ρ A).bind fun vs A => match vs with
  | [.lst xs] => .ok (enumM xs) A
  | _ => .bad
theorem mi_enum {tpos : Pos} {elts : List Expr} {kk : Nat} (hm : X.mg "enumerate" = none) (ha : PA X [e] (tMA X.K W g)) (hg : Gl X "enumerate" := by rfl) (hs : starEach [e] X.env = [(false, eval e X.env)] := by rfl) :
    PI X (.Tuple elts kk tpos) (.Call (.Name "enumerate" p) [e] [] pos) (tMI X.K W (Mv.iEnumM g)) := (pi_enum hg hm ha hs).imp fun σ H R ⟨ι, A, ρ, S, E, h⟩ => RP_bind S E h fun ι1 A1 vs us H1 e1 ⟨S1, r1⟩ h1 => by
  split at h1
  · cases r1 with
    | cons q qs =>
      cases qs
      cases q with
      | @lst a vs xs ha ra =>
        refine ⟨a, xs, rfl, fp_of_sqL (Le.refl _ _) ha, h1.ok0 ⟨S1, fun ι2 A2 H2 l S2 i => ⟨fun v hv => ?_, fun hl => ?_⟩⟩⟩
        · unfold enumM at hv
          rw [List.getElem?_map, List.getElem?_zipIdx, Option.map_map] at hv
          obtain ⟨m, em, rfl⟩ := Option.map_eq_some_iff.mp hv
          obtain ⟨x, hx, rx⟩ := ra.get em
          refine ⟨⟨xs, x, fp_of_sqL l.le ha, hx⟩, fun z H3 ⟨T, x', ez', hT, e3, kx⟩ => ?_⟩
          subst e3 ez'
          have := kx xs (fp_of_sqL l.le ha)
          rw [hx] at this
          cases this
          refine ⟨Ext.new1 hT, S2.new1 hT, ?_⟩
          have r := new_tup S2 hT (.cons (.int ((i : Nat) : Int)) (.one (rx.le l.le)))
          simpa [Function.comp] using r
        · unfold enumM at hl
          rw [List.length_map, List.length_zipIdx, ra.length] at hl
          exact ⟨xs, fp_of_sqL l.le ha, hl⟩
  · exact h1.elim
end
end Mv
/-! MvI: getters of properties as plain functions; own classes out of the head's facts -/
namespace Mv
open PySem PySem.Spec PyProof.Rows L2 Fk
structure OkP (P : Program) (w : World) (K : PySem.W.Frag) (mg : Str → Option Value) (base : Heap) (k : Nat) (d : DefP) (ps : List Str) (F : FF) : Prop where
  ex : ∃ fd, FnOk P w K mg base (L2.CX P w) k (d.at_ K) fd ps (spM K ps.length F) ∧ FunD K d.name d.qual d.params d.body d.scope [] [] (d.at_ K) fd
section
variable {P : Program} {w : World} {K : PySem.W.Frag} {mg : Str → Option Value} {base : Heap} {d : DefP}
theorem ok_P {N ps : List Str} {k : Nat} {fb : FS} (hF : ∃ fd, FunD K d.name d.qual d.params d.body d.scope [] [] (d.at_ K) fd) (S : FnScope N ps d.scope)
    (hbody : ∀ (cdv : Value) (A : Around) (outer : List Env) (s : Shared) (H : Hp) (E : XK), Room k (A.deeper (envOfC d.qual d.scope s.heap.objs.size (d.at_ K) cdv)) →
      Takes (cxOf (L2.CX P w) P w K mg base N d.qual d.scope (d.at_ K) cdv A outer s H E) (Wi.of fun c x _ H => E c x H).w →
      PassesOwn (model P w) (cxOf (L2.CX P w) P w K mg base N d.qual d.scope (d.at_ K) cdv A outer s H E).A (cxOf (L2.CX P w) P w K mg base N d.qual d.scope (d.at_ K) cdv A outer s H E).env (cxOf (L2.CX P w) P w K mg base N d.qual d.scope (d.at_ K) cdv A outer s H E).xe →
      PSs (cxOf (L2.CX P w) P w K mg base N d.qual d.scope (d.at_ K) cdv A outer s H E) d.body (tMS K (Wi.of fun c x _ H => E c x H) fb)) : OkP P w K mg base (k + 1) d ps (defM N.length fb) := by
  obtain ⟨fd, F⟩ := hF
  refine ⟨fd, F.ok S (fun vs H Q E h => h.1) fun cdv A outer s H vs Q E hr hsp => ?_, F⟩
  obtain ⟨hl, ι, A', ms, Sm, r, h⟩ := hsp
  refine ⟨_, hbody cdv A outer s H E hr (takes_of rfl rfl rfl rfl) (passes_of rfl), ι, A', _, Sm, r.st0 N, ?_⟩
  unfold defM at h
  cases e : fb (ms.map some ++ List.replicate (N.length - ms.length) none) A' with
  | nx ρ B => rw [e] at h; exact fun ι' H' σ' x s _ => h ι' H' .non x ⟨s, .non⟩
  | rt v B => rw [e] at h; exact fun ι' H' u x s q => h ι' H' u x ⟨s, q⟩
  | err c fs ρ B => rw [e] at h; exact fun ι' H' σ' d x s _ q => h ι' H' d x s q
  | bk ρ B => rw [e] at h; exact h.elim
  | ct ρ B => rw [e] at h; exact h.elim
  | bad => rw [e] at h; exact h.elim
end
def BP (K : PySem.W.Frag) (d : DefP) (ps : List Str) : Prop := ∀ fd, FunD K d.name d.qual d.params d.body d.scope [] [] (d.at_ K) fd → Binds K fd ps []
theorem c_prop {X : Cx} {W : Wi} {k : Nat} {d : DefP} {ps : List Str} {F : FF} {C x : Str} {o : Expr} {fo : FE} {pos : Pos} (O : OkP X.prog X.w X.K X.mg X.base k d ps F) (B : BP X.K d ps) (hn : ps.length = 1) (hr : Room (k + 1) X.A) (c : Cls X.K (He.ga X.K C)) (hp : PropOf X.K (He.ga X.K C) x (prA X.K (He.ga X.K C) x) (prG X.K (He.ga X.K C) x)) (he : PE X o (tM X.K W fo))
    (hd : d.at_ X.K = prG X.K (He.ga X.K C) x := by rfl) (hab : attributeBase o x X.env (eval o X.env) = eval o X.env := by rfl) : PE X (.Attribute o x pos) (tM X.K W (eProp C F fo)) := by
  obtain ⟨fd, G, FD⟩ := O.ex
  exact m_prop c (by rw [hd]; exact hp) G hr (B fd FD) hn he hab
/-! ### own classes -/
theorem kit_all {K : PySem.W.Frag} {own : List Str} (hc : ∀ C ∈ own, Cls K (He.ga K C)) (h : (own.all fun c => ownB K own c) = true) : Kit K own := by
  have a1 : ∀ C ∈ own, clB K (He.ga K C) = true := fun C hC => (He.ba (List.all_eq_true.mp h C hC)).1
  have a2 : ∀ C ∈ own, ∀ D ∈ own, decide (PySem.W.kitOne K (.ref (He.ga K C)) (.ref (He.ga K D)) = some (decide (C = D))) = true ∧ PySem.W.notFirst K (He.ga K C) (.ref (He.ga K D)) = true := fun C hC D hD => He.ba (List.all_eq_true.mp (He.ba (He.ba (List.all_eq_true.mp h C hC)).2).1 D hD)
  have a3 := fun C hC t ht => He.ba (List.all_eq_true.mp (He.ba (He.ba (List.all_eq_true.mp h C hC)).2).2 t ht)
  refine ⟨fun C hC H a dx fs e => ?_, fun C hC D hD => of_decide_eq_true (a2 C hC D hD).1, fun t ht D hD => of_decide_eq_true (a3 D hD t ht).1, fun C hC t ht => of_decide_eq_true (He.ba (a3 C hC t ht).2).1, fun C hC t ht => (He.ba (a3 C hC t ht).2).2, fun C hC D hD => (a2 C hC D hD).2⟩
  obtain ⟨h1, h2⟩ := He.ba (a1 C hC)
  obtain ⟨h2, h3⟩ := He.ba h2
  obtain ⟨h3, h4⟩ := He.ba h3
  exact .base (.ins e (hc C hC) (of_decide_eq_true h1) (of_decide_eq_true h2) (of_decide_eq_true h3) (of_decide_eq_true h4))
theorem ne_all {K : PySem.W.Frag} {own : List Str} (h : (own.all fun c => ownB K own c) = true) (hn : (own.all fun c => neB K c) = true) {C : Str} (hC : C ∈ own) : NeM K (He.ga K C) := by
  obtain ⟨h1, h2⟩ := He.ba (He.ba (List.all_eq_true.mp h C hC)).1
  obtain ⟨h2, h3⟩ := He.ba h2
  obtain ⟨h3, h4⟩ := He.ba h3
  exact ⟨of_decide_eq_true (List.all_eq_true.mp hn C hC), of_decide_eq_true h4⟩
theorem eq_M {P : Program} {w : World} {K : PySem.W.Frag} {mg : Str → Option Value} {base : Heap} {k n : Nat} {d : He.DefD} {ps : List Str} {F : FF} {C : Str} (O : OkM P w K mg base k d ps F) (B : BN K d ps) (hp : ps.length = 2) (hm : Meth K (He.ga K C) "__eq__" (He.ma K (He.ga K C) "__eq__")) (hk : k ≤ n) (hd : d.at_ = (C, some ("__eq__" : Str)) := by rfl) : EqM P w K mg base n (He.ga K C) (spM0 K 2 F) := by
  obtain ⟨fd, G, FD⟩ := O.ex
  have e : He.fAd K d.at_ = He.ma K (He.ga K C) "__eq__" := by rw [hd]; rfl
  rw [hp] at G
  exact ⟨_, fd, ps, (fn_E0 G).mono hk, by rw [e]; exact hm.at_, by rw [e]; exact hm.fn, B fd FD⟩
theorem eqT_nil {X : Cx} {own : List Str} {n : Nat} : EqT X own n [] := ⟨fun C F h => by cases h⟩
theorem eqT_cons {X : Cx} {own : List Str} {n : Nat} {C : Str} {F : FF} {tab : List (Str × FF)} (hC : C ∈ own) (E : EqM X.prog X.w X.K X.mg X.base n (He.ga X.K C) (spM0 X.K 2 F)) (N : NeM X.K (He.ga X.K C)) (T : EqT X own n tab) : EqT X own n ((C, F) :: tab) := ⟨fun D G h => by
  rw [List.lookup_cons] at h
  by_cases e : D = C
  · subst e
    rw [beq_self_eq_true] at h
    cases h
    exact ⟨hC, E, N⟩
  · have e' : (D == C) = false := by simpa using e
    rw [e'] at h
    exact T.m D G h⟩
/-- the empty tuple among a def's defaults -/
theorem emT_rv {K : PySem.W.Frag} {a : Addr} (h : emT K a = true) (ι : Io) (H : Hp) : RV K ι H (.tup []) (.ref a) := .tup (.inr (emT_ok h H0)) .nil
end Mv
namespace Rf
open PySem PySem.Spec PyProof.Rows L2 Fk Mv
def mk_ForkError (x : MV) : List (Str × MV) := [("why", x)]
def mk_BadName (x : MV) : List (Str × MV) := [("why", x)]
def mk_BadMark (x : MV) : List (Str × MV) := [("why", x)]
def mk_BadObject (x : MV) : List (Str × MV) := [("at", x), ("why", .str "not an object")]
def mk_Clash (x : MV) : List (Str × MV) := [("name", x), ("why", .str "another object has this id")]
def mk_NoObject (x : MV) : List (Str × MV) := [("name", x)]
def own_ : List Str := ["Blob", "Tree", "Commit", "Tag", "History", "Search", "Store"]
/-- 0:self 1:short -/
def b_Store___init__ : FS :=
    (sSeq (sFld "Store" "short" (eVar 0) (fun ρ A => ((aCons (eVar 1) aNil) ρ A).bind boolM))
    (sFld "Store" "kept" (eVar 0) eDict0))
def F_Store___init__ : FF := defM 2 b_Store___init__
/-- 0:thing -/
def b_is_object : FS :=
    (sRet (eIsiT own_ (eVar 0) (aCons (eC (.glo "Blob")) (aCons (eC (.glo "Tree")) (aCons (eC (.glo "Commit")) (aCons (eC (.glo "Tag")) aNil))))))
def F_is_object : FF := defM 1 b_is_object
/-- 0:data 1:short 2:number 3:modulus 4:byte -/
def b_sum_of : FS :=
    (sSeq (sIf (bNot (tB' (fun ρ A => ((aCons (eVar 0) (aCons (eC (.ty "bytes")) aNil)) ρ A).bind (isiG own_))))
      (sRaise "BadName" mk_BadName (eC (.str "not bytes")))
      sNext)
    (sSeq (sSet 2 (eC (.int 7)))
    (sSeq (sSet 3 (eIf (tB' (eVar 1)) (eC (.int 251)) (eC (.int 2305843009213693951))))
    (sSeq (sFor (Mv.iByt (eVar 0)) [4] gNm
      (sSet 2 (eBin modM (fun ρ A => ((aCons (eBin addM (eBin addM (eBin mulM (eVar 2) (eC (.int 1000003))) (eVar 4)) (eC (.int 1))) aNil) ρ A).bind intM) (eVar 3))))
    (sRet (eHex (eVar 2)))))))
def F_sum_of : FF := defM 5 b_sum_of
/-- 0:self -/
def b_Blob_text : FS :=
    (sRet (eFld "Blob" "held" (eVar 0)))
def F_Blob_text : FF := defM 1 b_Blob_text
/-- 0:self 1:name 2:kind 3:target -/
def b_Tree_entries : FS :=
    (sRet (eDc (iSeq (eFld "Tree" "held" (eVar 0))) [1, 2, 3] [1, 2, 3] (gTupM 3 (gConsM gNm (gConsM gNm (gConsM gNm gNilM)))) (dElt bYes (eVar 1) (eTup (aCons (eVar 2) (aCons (eVar 3) aNil))))))
def F_Tree_entries : FF := defM 4 b_Tree_entries
/-- 0:tree 1:lines 2:name 3:kind 4:target -/
def b_encode_tree : FS :=
    (sSeq (sSet 1 (eRef (aLst (aCons (eC (.str "tree\n")) aNil))))
    (sSeq (sFor (Mv.iItems (eFz (eProp "Tree" F_Tree_entries (eVar 0)))) [2, 3, 4] (gTupM 2 (gConsM gNm (gConsM (gTupM 2 (gConsM gNm (gConsM gNm gNilM))) gNilM)))
      (sExpr (eApp (eVar 1) (eJs [(eFmt (eVar 3)), (eC (.str " ")), (eFmt (eVar 2)), (eC (.str " ")), (eFmt (eVar 4)), (eC (.str "\n"))]))))
    (sRet (eJoin (eC (.str "")) (eVar 1)))))
def F_encode_tree : FF := defM 5 b_encode_tree
/-- 0:self -/
def b_Commit_tree : FS :=
    (sRet (eBin ixM (eFld "Commit" "held" (eVar 0)) (eC (.int 0))))
def F_Commit_tree : FF := defM 1 b_Commit_tree
/-- 0:self -/
def b_Commit_parents : FS :=
    (sRet (eBin ixM (eFld "Commit" "held" (eVar 0)) (eC (.int 1))))
def F_Commit_parents : FF := defM 1 b_Commit_parents
/-- 0:self -/
def b_Commit_time : FS :=
    (sRet (eBin ixM (eFld "Commit" "held" (eVar 0)) (eC (.int 3))))
def F_Commit_time : FF := defM 1 b_Commit_time
/-- 0:self -/
def b_Commit_author : FS :=
    (sRet (eBin ixM (eFld "Commit" "held" (eVar 0)) (eC (.int 2))))
def F_Commit_author : FF := defM 1 b_Commit_author
/-- 0:self -/
def b_Commit_message : FS :=
    (sRet (eBin ixM (eFld "Commit" "held" (eVar 0)) (eC (.int 4))))
def F_Commit_message : FF := defM 1 b_Commit_message
/-- 0:commit 1:lines 2:one -/
def b_encode_commit : FS :=
    (sSeq (sSet 1 (eRef (aLst (aCons (eC (.str "commit\n")) (aCons (eJs [(eC (.str "tree ")), (eFmt (eProp "Commit" F_Commit_tree (eVar 0))), (eC (.str "\n"))]) aNil)))))
    (sSeq (sExpr (eExt (eVar 1) (eFrz (aLc (iSeq (eProp "Commit" F_Commit_parents (eVar 0))) [2] [2] gNm (qElt bYes (eJs [(eC (.str "parent ")), (eFmt (eVar 2)), (eC (.str "\n"))]))))))
    (sSeq (sExpr (eApp (eVar 1) (eJs [(eC (.str "author ")), (eFmt (eProp "Commit" F_Commit_author (eVar 0))), (eC (.str "\ntime ")), (eFmt (eProp "Commit" F_Commit_time (eVar 0))), (eC (.str "\n\n"))])))
    (sRet (eBin addM (eJoin (eC (.str "")) (eVar 1)) (eProp "Commit" F_Commit_message (eVar 0)))))))
def F_encode_commit : FF := defM 3 b_encode_commit
/-- 0:self -/
def b_Tag_message : FS :=
    (sRet (eBin ixM (eFld "Tag" "held" (eVar 0)) (eC (.int 2))))
def F_Tag_message : FF := defM 1 b_Tag_message
/-- 0:self -/
def b_Tag_label : FS :=
    (sRet (eBin ixM (eFld "Tag" "held" (eVar 0)) (eC (.int 1))))
def F_Tag_label : FF := defM 1 b_Tag_label
/-- 0:self -/
def b_Tag_target : FS :=
    (sRet (eBin ixM (eFld "Tag" "held" (eVar 0)) (eC (.int 0))))
def F_Tag_target : FF := defM 1 b_Tag_target
/-- 0:thing 1:text -/
def b_encode : FS :=
    (sSeq (sIf (bNot (tB' (eCall 1 0 (fun ms _ => ms) F_is_object (pA (aCons (eVar 0) aNil)))))
      (sRaise "BadName" mk_BadName (eC (.str "not an object")))
      sNext)
    (sSeq (sIf (tB' (fun ρ A => ((aCons (eVar 0) (aCons (eC (.glo "Blob")) aNil)) ρ A).bind (isiG own_)))
      (sSet 1 (eBin addM (eC (.str "blob\n")) (eProp "Blob" F_Blob_text (eVar 0))))
      (sIf (tB' (fun ρ A => ((aCons (eVar 0) (aCons (eC (.glo "Tree")) aNil)) ρ A).bind (isiG own_)))
        (sSet 1 (eCall 1 0 (fun ms _ => ms) F_encode_tree (pA (aCons (eVar 0) aNil))))
        (sIf (tB' (fun ρ A => ((aCons (eVar 0) (aCons (eC (.glo "Commit")) aNil)) ρ A).bind (isiG own_)))
          (sSet 1 (eCall 1 0 (fun ms _ => ms) F_encode_commit (pA (aCons (eVar 0) aNil))))
          (sSet 1 (eJs [(eC (.str "tag\ntarget ")), (eFmt (eProp "Tag" F_Tag_target (eVar 0))), (eC (.str "\nlabel ")), (eFmt (eProp "Tag" F_Tag_label (eVar 0))), (eC (.str "\n\n")), (eFmt (eProp "Tag" F_Tag_message (eVar 0)))])))))
    (sRet (eEnc (eVar 1)))))
def F_encode : FF := defM 2 b_encode
/-- 0:thing 1:short -/
def b_id_of : FS :=
    (sRet (eCall 1 1 (gkw [none] [0]) F_sum_of (pAK (aCons (eCall 1 0 (fun ms _ => ms) F_encode (pA (aCons (eVar 0) aNil))) aNil) (aCons (eVar 1) aNil))))
def F_id_of : FF := defM 2 b_id_of
/-- 0:self 1:other -/
def b_Blob___eq__ : FS :=
    (sRet (eAnd (fun ρ A => ((aCons (eVar 1) (aCons (eC (.glo "Blob")) aNil)) ρ A).bind (isiG own_)) (eBin eqM (eFld "Blob" "held" (eVar 0)) (eFld "Blob" "held" (eVar 1)))))
def F_Blob___eq__ : FF := defM 2 b_Blob___eq__
/-- 0:self 1:other -/
def b_Tree___eq__ : FS :=
    (sRet (eAnd (fun ρ A => ((aCons (eVar 1) (aCons (eC (.glo "Tree")) aNil)) ρ A).bind (isiG own_)) (eBin eqM (eFld "Tree" "held" (eVar 0)) (eFld "Tree" "held" (eVar 1)))))
def F_Tree___eq__ : FF := defM 2 b_Tree___eq__
/-- 0:self 1:other -/
def b_Commit___eq__ : FS :=
    (sRet (eAnd (fun ρ A => ((aCons (eVar 1) (aCons (eC (.glo "Commit")) aNil)) ρ A).bind (isiG own_)) (eBin eqM (eFld "Commit" "held" (eVar 0)) (eFld "Commit" "held" (eVar 1)))))
def F_Commit___eq__ : FF := defM 2 b_Commit___eq__
/-- 0:self 1:other -/
def b_Tag___eq__ : FS :=
    (sRet (eAnd (fun ρ A => ((aCons (eVar 1) (aCons (eC (.glo "Tag")) aNil)) ρ A).bind (isiG own_)) (eBin eqM (eFld "Tag" "held" (eVar 0)) (eFld "Tag" "held" (eVar 1)))))
def F_Tag___eq__ : FF := defM 2 b_Tag___eq__
def eq_T : List (Str × FF) := [("Blob", F_Blob___eq__), ("Tree", F_Tree___eq__), ("Commit", F_Commit___eq__), ("Tag", F_Tag___eq__)]
/-- 0:self 1:thing 2:name -/
def b_Store_put : FS :=
    (sSeq (sIf (bNot (tB' (eCall 1 0 (fun ms _ => ms) F_is_object (pA (aCons (eVar 1) aNil)))))
      (sRaise "BadName" mk_BadName (eC (.str "not an object")))
      sNext)
    (sSeq (sSet 2 (eCall 1 1 (gkw [none] [0]) F_id_of (pAK (aCons (eVar 1) aNil) (aCons (eFld "Store" "short" (eVar 0)) aNil))))
    (sSeq (sIf (tB' (eBin (cmpG own_ eq_T true neM) (eGet2 (eFld "Store" "kept" (eVar 0)) (eVar 2) (eVar 1)) (eVar 1)))
      (sRaise "Clash" mk_Clash (eVar 2))
      sNext)
    (sSeq (sSub (eVar 1) (eFld "Store" "kept" (eVar 0)) (eVar 2))
    (sRet (eVar 2))))))
def F_Store_put : FF := defM 3 b_Store_put
/-- 0:text 1:signs* 2:sign -/
def b_has_only : FS :=
    (sRet (fun ρ A => ((aCons (eFrz (aLk (eVar 0) (aLc (iAny (eVar 0)) [2] [2] gNm (qElt bYes (eBin inM (eVar 2) (eVar 1)))))) aNil) ρ A).bind (allM fun bs => bs.all id)))
def F_has_only : FF := defM 3 b_has_only
/-- 0:thing -/
def b_is_id : FS :=
    (sRet (eAnd (fun ρ A => ((aCons (eVar 0) (aCons (eC (.ty "str")) aNil)) ρ A).bind (isiG own_)) (eAnd (eBin eqM (fun ρ A => ((aCons (eVar 0) aNil) ρ A).bind lenM) (eC (.int 16))) (eCall 2 0 (fun ms _ => ms) F_has_only (pA (aCons (eVar 0) (aCons (eC (.str "0123456789abcdef")) aNil)))))))
def F_is_id : FF := defM 1 b_is_id
/-- 0:thing -/
def b_is_entry : FS :=
    (sSeq (sIf (bOr (bNot (tB' (fun ρ A => ((aCons (eVar 0) (aCons (eC (.ty "tuple")) aNil)) ρ A).bind (isiG own_)))) (tB' (eBin neM (fun ρ A => ((aCons (eVar 0) aNil) ρ A).bind lenM) (eC (.int 2)))))
      (sRet (eC (.bl false)))
      sNext)
    (sRet (eAnd (fun ρ A => ((aCons (eBin ixM (eVar 0) (eC (.int 0))) (aCons (eC (.ty "str")) aNil)) ρ A).bind (isiG own_)) (eAnd (eBin inM (eBin ixM (eVar 0) (eC (.int 0))) (eC (.tup [.str "file", .str "exec", .str "dir"]))) (eCall 1 0 (fun ms _ => ms) F_is_id (pA (aCons (eBin ixM (eVar 0) (eC (.int 1))) aNil)))))))
def F_is_entry : FF := defM 1 b_is_entry
/-- 0:thing -/
def b_is_segment : FS :=
    (sSeq (sIf (bOr (bNot (tB' (fun ρ A => ((aCons (eVar 0) (aCons (eC (.ty "str")) aNil)) ρ A).bind (isiG own_)))) (bNot (tB' (eChain leM leM (eC (.int 1)) (fun ρ A => ((aCons (eVar 0) aNil) ρ A).bind lenM) (eC (.int 12))))))
      (sRet (eC (.bl false)))
      sNext)
    (sRet (eAnd (eCall 2 0 (fun ms _ => ms) F_has_only (pA (aCons (eVar 0) (aCons (eBin addM (eBin addM (eC (.str "abcdefghijklmnopqrstuvwxyz")) (eC (.str "0123456789"))) (eC (.str "._-"))) aNil)))) (eAnd (eBin neM (eVar 0) (eC (.str "."))) (eBin notInM (eC (.str "..")) (eVar 0))))))
def F_is_segment : FF := defM 1 b_is_segment
/-- 0:self 1:entries* 2:name 3:entry -/
def b_Tree___init__ : FS :=
    (sSeq (sIf (bOr (bNot (tB' (fun ρ A => ((aCons (eVar 1) (aCons (eC (.ty "dict")) aNil)) ρ A).bind (isiG own_)))) (tB' (eBin gtM (fun ρ A => ((aCons (eVar 1) aNil) ρ A).bind lenM) (eC (.int 30)))))
      (sRaise "BadName" mk_BadName (eC (.str "entries")))
      sNext)
    (sSeq (sIf (bNot (tB' (fun ρ A => ((aCons (eFrz (aLk (eVar 1) (aLc (Mv.iItems (eVar 1)) [2, 3] [2, 3] (gTupM 2 (gConsM gNm (gConsM gNm gNilM))) (qElt bYes (eAnd (eCall 1 0 (fun ms _ => ms) F_is_segment (pA (aCons (eVar 2) aNil))) (eCall 1 0 (fun ms _ => ms) F_is_entry (pA (aCons (eVar 3) aNil)))))))) aNil) ρ A).bind (allM fun bs => bs.all id))))
      (sRaise "BadName" mk_BadName (eC (.str "entry")))
      sNext)
    (sFld "Tree" "held" (eVar 0) (fun ρ A => ((aCons (eFrz (aLc (iFrz (eFrz (fun ρ A => ((aCons (eVar 1) aNil) ρ A).bind sortedL))) [2] [2] gNm (qElt bYes (eTup (aCons (eVar 2) (aCons (eBin ixM (eBin ixM (eVar 1) (eVar 2)) (eC (.int 0))) (aCons (eBin ixM (eBin ixM (eVar 1) (eVar 2)) (eC (.int 1))) aNil))))))) aNil) ρ A).bind tupleM))))
def F_Tree___init__ : FF := defM 4 b_Tree___init__
/-- 0:_law_source 1:_law_size 2:_law_digit 3:_law_number -/
def b__law_draw : FS :=
    (sSeq (sIf (tB' (eBin gtM (eBin ixM (eVar 0) (eC (.int 0))) (eC (.int 0))))
      (sSeq (sSet 2 (eBin modM (fun ρ A => ((aCons (eBin ixM (eVar 0) (eC (.int 0))) aNil) ρ A).bind intM) (eVar 1)))
      (sSeq (sSub (eBin fdivM (eBin ixM (eVar 0) (eC (.int 0))) (eVar 1)) (eVar 0) (eC (.int 0)))
      (sRet (eVar 2))))
      sNext)
    (sSeq (sSub (eBin addM (eBin ixM (eVar 0) (eC (.int 2))) (eC (.int 1))) (eVar 0) (eC (.int 2)))
    (sSeq (sSet 3 (eBin modM (fun ρ A => ((aCons (eBin mulM (eBin addM (eBin addM (eBin ixM (eVar 0) (eC (.int 1))) (eBin mulM (eC (.int 104729)) (eBin ixM (eVar 0) (eC (.int 2))))) (eC (.int 1))) (eC (.int 48271))) aNil) ρ A).bind intM) (eC (.int 2147483647))))
    (sSeq (sSet 3 (eBin modM (fun ρ A => ((aCons (eBin mulM (eVar 3) (eBin addM (eBin fdivM (eVar 3) (eC (.int 1009))) (eC (.int 69621)))) aNil) ρ A).bind intM) (eC (.int 2147483647))))
    (sRet (eBin modM (fun ρ A => ((aCons (eBin modM (fun ρ A => ((aCons (eBin mulM (eVar 3) (eBin addM (eBin fdivM (eVar 3) (eC (.int 2003))) (eC (.int 40692)))) aNil) ρ A).bind intM) (eC (.int 2147483399))) aNil) ρ A).bind intM) (eVar 1)))))))
def F__law_draw : FF := defM 4 b__law_draw
/-- 0:_law_source 1:_law_items 2:_law_left 3:_law_found -/
def b__law_shuffled : FS :=
    (sSeq (sPar 2 3 (aCons (eRef (fun ρ A => ((aCons (eVar 1) aNil) ρ A).bind listL)) (aCons (eRef (aLst aNil)) aNil)))
    (sSeq (sWhile (tB' (eBin neM (eVar 2) (eFrz (aLst aNil))))
      (sExpr (eApp (eVar 3) (ePopAt (eVar 2) (eCall 2 0 (fun ms _ => ms) F__law_draw (pA (aCons (eVar 0) (aCons (fun ρ A => ((aCons (eVar 2) aNil) ρ A).bind lenM) aNil))))))))
    (sRet (eVar 3))))
def F__law_shuffled : FF := defM 4 b__law_shuffled
/-- 0:thing 1:one -/
def b_are_ids : FS :=
    (sRet (eAnd (fun ρ A => ((aCons (eVar 0) (aCons (eC (.ty "tuple")) aNil)) ρ A).bind (isiG own_)) (fun ρ A => ((aCons (eFrz (aLc (iSeq (eVar 0)) [1] [1] gNm (qElt bYes (eCall 1 0 (fun ms _ => ms) F_is_id (pA (aCons (eVar 1) aNil)))))) aNil) ρ A).bind (allM fun bs => bs.all id))))
def F_are_ids : FF := defM 2 b_are_ids
/-- 0:thing 1:one -/
def b_are_parents : FS :=
    (sSeq (sIf (bOr (bNot (tB' (eCall 1 0 (fun ms _ => ms) F_are_ids (pA (aCons (eVar 0) aNil))))) (tB' (eBin gtM (fun ρ A => ((aCons (eVar 0) aNil) ρ A).bind lenM) (eC (.int 6)))))
      (sRet (eC (.bl false)))
      sNext)
    (sRet (eBin eqM (eScLen (iSeq (eVar 0)) [1] [1] gNm bYes (eVar 1)) (fun ρ A => ((aCons (eVar 0) aNil) ρ A).bind lenM))))
def F_are_parents : FF := defM 2 b_are_parents
/-- 0:thing 1:most 2:sign -/
def b_is_text : FS :=
    (sSeq (sIf (bOr (bNot (tB' (fun ρ A => ((aCons (eVar 0) (aCons (eC (.ty "str")) aNil)) ρ A).bind (isiG own_)))) (tB' (eBin gtM (fun ρ A => ((aCons (eVar 0) aNil) ρ A).bind lenM) (eVar 1))))
      (sRet (eC (.bl false)))
      sNext)
    (sRet (fun ρ A => ((aCons (eFrz (aLk (eVar 0) (aLc (iAny (eVar 0)) [2] [2] gNm (qElt bYes (eOr (eChain leM leM (eC (.str " ")) (eVar 2) (eC (.str "~"))) (eBin eqM (eVar 2) (eC (.str "\n")))))))) aNil) ρ A).bind (allM fun bs => bs.all id))))
def F_is_text : FF := defM 3 b_is_text
/-- 0:thing -/
def b_is_whole : FS :=
    (sRet (eAnd (fun ρ A => ((aCons (eVar 0) (aCons (eC (.ty "int")) aNil)) ρ A).bind (isiG own_)) (eNot (fun ρ A => ((aCons (eVar 0) (aCons (eC (.ty "bool")) aNil)) ρ A).bind (isiG own_)))))
def F_is_whole : FF := defM 1 b_is_whole
/-- 0:thing 1:least -/
def b_is_count : FS :=
    (sRet (eAnd (eCall 1 0 (fun ms _ => ms) F_is_whole (pA (aCons (eVar 0) aNil))) (eBin geM (eVar 0) (eVar 1))))
def F_is_count : FF := defM 2 b_is_count
/-- 0:thing -/
def b_is_time : FS :=
    (sRet (eAnd (eCall 1 0 (fun ms _ => ms ++ [.int 0]) F_is_count (pA (aCons (eVar 0) aNil))) (eBin leM (eVar 0) (eC (.int 1000000000000)))))
def F_is_time : FF := defM 1 b_is_time
/-- 0:thing -/
def b_is_author : FS :=
    (sRet (eAnd (fun ρ A => ((aCons (eVar 0) (aCons (eC (.ty "str")) aNil)) ρ A).bind (isiG own_)) (eAnd (eChain leM leM (eC (.int 1)) (fun ρ A => ((aCons (eVar 0) aNil) ρ A).bind lenM) (eC (.int 12))) (eCall 2 0 (fun ms _ => ms) F_has_only (pA (aCons (eVar 0) (aCons (eC (.str "abcdefghijklmnopqrstuvwxyz")) aNil)))))))
def F_is_author : FF := defM 1 b_is_author
/-- 0:self 1:tree 2:parents 3:author 4:time 5:message -/
def b_Commit___init__ : FS :=
    (sSeq (sIf (bOr (bNot (tB' (eCall 1 0 (fun ms _ => ms) F_is_id (pA (aCons (eVar 1) aNil))))) (bNot (tB' (eCall 1 0 (fun ms _ => ms) F_are_parents (pA (aCons (eVar 2) aNil))))))
      (sRaise "BadName" mk_BadName (eC (.str "tree or parents")))
      sNext)
    (sSeq (sIf (bOr (bNot (tB' (eCall 1 0 (fun ms _ => ms) F_is_author (pA (aCons (eVar 3) aNil))))) (bOr (bNot (tB' (eCall 1 0 (fun ms _ => ms) F_is_time (pA (aCons (eVar 4) aNil))))) (bNot (tB' (eCall 2 0 (fun ms _ => ms) F_is_text (pA (aCons (eVar 5) (aCons (eC (.int 200)) aNil))))))))
      (sRaise "BadName" mk_BadName (eC (.str "author, time or message")))
      sNext)
    (sFld "Commit" "held" (eVar 0) (eTup (aCons (eVar 1) (aCons (eVar 2) (aCons (eVar 3) (aCons (eVar 4) (aCons (eVar 5) aNil)))))))))
def F_Commit___init__ : FF := defM 6 b_Commit___init__
/-- 0:self 1:store 2:cut -/
def b_History___init__ : FS :=
    (sSeq (sIf (bNot (tB' (eCall 1 0 (fun ms _ => ms) F_are_ids (pA (aCons (eVar 2) aNil)))))
      (sRaise "BadName" mk_BadName (eC (.str "cut")))
      sNext)
    (sSeq (sFld "History" "held" (eVar 0) (eVar 1))
    (sSeq (sFld "History" "ends" (eVar 0) (eVar 2))
    (sSeq (sFld "History" "known" (eVar 0) eDict0)
    (sFld "History" "depths" (eVar 0) eDict0)))))
def F_History___init__ : FF := defM 3 b_History___init__
/-- 0:_law_source 1:_law_most 2:_law_store 3:_law_tree 4:_law_facts 5:_law_names 6:_law_at 7:_law_near 8:_law_parents 9:_law_time_here 10:_law_made -/
def b__law_history : FS :=
    (sSeq (sSet 2 (eMake "Store" 0 0 (fun ms _ => ms ++ [.bl false]) F_Store___init__ pN))
    (sSeq (sSet 3 (eMeth "Store" "put" 2 0 (fun ms _ => ms) F_Store_put (eVar 2) (pA (aCons (eMake "Tree" 1 0 (fun ms _ => ms) F_Tree___init__ (pA (aCons eDict0 aNil))) aNil))))
    (sSeq (sPar 4 5 (aCons eDict0 (aCons (eRef (aLst aNil)) aNil)))
    (sSeq (sFor (Mv.iRng1 (aCons (eBin addM (eC (.int 1)) (eCall 2 0 (fun ms _ => ms) F__law_draw (pA (aCons (eVar 0) (aCons (eVar 1) aNil))))) aNil)) [6] gNm
      (sSeq (sSet 7 (eFrz (aSl (eVar 5) (oSome (eUn negM (eBin addM (eC (.int 1)) (eCall 2 0 (fun ms _ => ms) F__law_draw (pA (aCons (eVar 0) (aCons (eC (.int 8)) aNil))))))) oNone)))
      (sSeq (sSet 8 (fun ρ A => ((aCons (eFrz (aSl (eCall 2 0 (fun ms _ => ms) F__law_shuffled (pA (aCons (eVar 0) (aCons (eVar 7) aNil)))) oNone (oSome (eBin ixM (eFrz (aLst (aCons (eC (.int 0)) (aCons (eC (.int 1)) (aCons (eC (.int 1)) (aCons (eC (.int 1)) (aCons (eC (.int 2)) (aCons (eC (.int 3)) (aCons (eC (.int 4)) (aCons (eC (.int 6)) aNil)))))))))) (eCall 2 0 (fun ms _ => ms) F__law_draw (pA (aCons (eVar 0) (aCons (eC (.int 8)) aNil)))))))) aNil) ρ A).bind tupleM))
      (sSeq (sSet 9 (eCall 2 0 (fun ms _ => ms) F__law_draw (pA (aCons (eVar 0) (aCons (eC (.int 3)) aNil)))))
      (sSeq (sSet 10 (eMake "Commit" 2 3 (fun ms zs => plan [.kw 0, .kw 1, .kw 2] ms [.tup []] [] zs) F_Commit___init__ (pAK (aCons (eVar 3) (aCons (eVar 8) aNil)) (aCons (eC (.str "a")) (aCons (eVar 9) (aCons (fun ρ A => ((aCons (eVar 6) aNil) ρ A).bind strM) aNil))))))
      (sIf (bAnd (tB' (eBin neM (eCall 1 0 (fun ms _ => ms ++ [.bl false]) F_id_of (pA (aCons (eVar 10) aNil))) (eVar 3))) (tB' (eBin notInM (eCall 1 0 (fun ms _ => ms ++ [.bl false]) F_id_of (pA (aCons (eVar 10) aNil))) (eVar 4))))
        (sSeq (sSub (eTup (aCons (eVar 8) (aCons (eVar 9) aNil))) (eVar 4) (eMeth "Store" "put" 2 0 (fun ms _ => ms) F_Store_put (eVar 2) (pA (aCons (eVar 10) aNil))))
        (sExpr (eApp (eVar 5) (eCall 1 0 (fun ms _ => ms ++ [.bl false]) F_id_of (pA (aCons (eVar 10) aNil))))))
        sNext))))))
    (sRet (eTup (aCons (eMake "History" 1 0 (fun ms zs => plan [.kd 0] ms [] [.tup []] zs) F_History___init__ (pA (aCons (eVar 2) aNil))) (aCons (eVar 4) aNil))))))))
def F__law_history : FF := defM 11 b__law_history
/-- 0:_law_facts 1:_law_found 2:_law_name 3:_law_parent -/
def b__law_reached : FS :=
    (sSeq (sSet 1 eDict0)
    (sSeq (sLk (eVar 0) (sFor (iAny (eVar 0)) [2] gNm
      (sSeq (sSub (eDisp [((eVar 2), (eC (.bl true)))]) (eVar 1) (eVar 2))
      (sLk (eBin ixM (eBin ixM (eVar 0) (eVar 2)) (eC (.int 0))) (sFor (iAny (eBin ixM (eBin ixM (eVar 0) (eVar 2)) (eC (.int 0)))) [3] gNm
        (sExpr (eUpd (eBin ixM (eVar 1) (eVar 2)) (eBin ixM (eVar 1) (eVar 3)))))))))
    (sRet (eVar 1))))
def F__law_reached : FF := defM 4 b__law_reached
/-- 0:self 1:history -/
def b_Search___init__ : FS :=
    (sSeq (sFld "Search" "past" (eVar 0) (eVar 1))
    (sFld "Search" "marks" (eVar 0) (eRef (aLst aNil))))
def F_Search___init__ : FF := defM 2 b_Search___init__
/-- 0:_law_reached_here* 1:_law_marks 2:_law_bad* 3:_law_good* 4:_law_found 5:_law_word 6:_law_name* 7:_law_one* -/
def b__law_candidates : FS :=
    (sSeq (sSet 2 (eFrz (aLc (iFrz (eVar 1)) [5, 6] [5, 6] (gTupM 2 (gConsM gNm (gConsM gNm gNilM))) (qElt (tB' (eBin eqM (eVar 5) (eC (.str "bad")))) (eVar 6)))))
    (sSeq (sSet 3 (eFrz (aLc (iFrz (eVar 1)) [5, 6] [5, 6] (gTupM 2 (gConsM gNm (gConsM gNm gNilM))) (qElt (tB' (eBin eqM (eVar 5) (eC (.str "good")))) (eVar 6)))))
    (sSeq (sIf (tB' (eBin eqM (eVar 2) (eFrz (aLst aNil))))
      (sRet (eC (.ptp [])))
      sNext)
    (sSeq (sLk (eVar 0) (sSet 4 (eFrz (aLc (iAny (eVar 0)) [6] [6] gNm (qElt (tB' (fun ρ A => ((aCons (eFrz (aLc (iFrz (eVar 2)) [7] [7] gNm (qElt bYes (eBin inM (eVar 6) (eBin ixM (eVar 0) (eVar 7)))))) aNil) ρ A).bind (allM fun bs => bs.all id))) (eVar 6))))))
    (sRet (fun ρ A => ((aCons (eFrz (fun ρ A => ((aCons (eFrz (aLc (iFrz (eVar 4)) [6] [6] gNm (qElt (bNot (tB' (fun ρ A => ((aCons (eFrz (aLc (iFrz (eVar 3)) [7] [7] gNm (qElt bYes (eBin inM (eVar 6) (eBin ixM (eVar 0) (eVar 7)))))) aNil) ρ A).bind (allM fun bs => bs.any id)))) (eVar 6)))) aNil) ρ A).bind sortedL)) aNil) ρ A).bind tupleM))))))
def F__law_candidates : FF := defM 8 b__law_candidates
/-- 0:self 1:name -/
def b_Store___getitem__ : FS :=
    (sSeq (sIf (bOr (bNot (tB' (fun ρ A => ((aCons (eVar 1) (aCons (eC (.ty "str")) aNil)) ρ A).bind (isiG own_)))) (tB' (eBin notInM (eVar 1) (eFld "Store" "kept" (eVar 0)))))
      (sRaise "NoObject" mk_NoObject (eVar 1))
      sNext)
    (sRet (eBin ixM (eFld "Store" "kept" (eVar 0)) (eVar 1))))
def F_Store___getitem__ : FF := defM 2 b_Store___getitem__
/-- 0:store 1:name 2:thing -/
def b_commit_of : FS :=
    (sSeq (sSet 2 (eGetI "Store" F_Store___getitem__ (eVar 0) (eVar 1)))
    (sSeq (sIf (bNot (tB' (fun ρ A => ((aCons (eVar 2) (aCons (eC (.glo "Commit")) aNil)) ρ A).bind (isiG own_))))
      (sRaise "BadObject" mk_BadObject (eC (.int 0)))
      sNext)
    (sRet (eVar 2))))
def F_commit_of : FF := defM 3 b_commit_of
/-- 0:self 1:name -/
def b_Store___contains__ : FS :=
    (sRet (eAnd (fun ρ A => ((aCons (eVar 1) (aCons (eC (.ty "str")) aNil)) ρ A).bind (isiG own_)) (eBin inM (eVar 1) (eFld "Store" "kept" (eVar 0)))))
def F_Store___contains__ : FF := defM 2 b_Store___contains__
/-- 0:self* 1:starts 2:found 3:ahead 4:name 5:thing 6:absent -/
def b_History_searched : FS :=
    (sSeq (sSet 2 eDict0)
    (sSeq (sSet 3 (eRef (fun ρ A => ((aCons (eVar 1) aNil) ρ A).bind listL)))
    (sSeq (sWhile (tB' (eBin neM (eVar 3) (eFrz (aLst aNil))))
      (sSeq (sSet 4 (ePopL (eVar 3)))
      (sIf (tB' (eBin notInM (eVar 4) (eVar 2)))
        (sSeq (sSub (eC (.bl true)) (eVar 2) (eVar 4))
        (sSeq (sSet 5 (eIf (tB' (inO "Store" F_Store___contains__ false (eVar 4) (eFld "History" "held" (eVar 0)))) (eGetI "Store" F_Store___getitem__ (eFld "History" "held" (eVar 0)) (eVar 4)) (eC .non)))
        (sExpr (eExt (eVar 3) (eIf (bAnd (tB' (fun ρ A => ((aCons (eVar 5) (aCons (eC (.glo "Commit")) aNil)) ρ A).bind (isiG own_))) (tB' (eBin notInM (eVar 4) (eFld "History" "ends" (eVar 0))))) (eProp "Commit" F_Commit_parents (eVar 5)) (eC (.ptp [])))))))
        sNext)))
    (sSeq (sLk (eVar 2) (sSet 6 (eFrz (aLc (iAny (eVar 2)) [4] [4] gNm (qElt (tB' (inO "Store" F_Store___contains__ true (eVar 4) (eFld "History" "held" (eVar 0)))) (eVar 4))))))
    (sSeq (sIf (tB' (eBin neM (eVar 6) (eFrz (aLst aNil))))
      sBad
      sNext)
    (sSeq (sLk (eVar 2) (sFor (iAny (eVar 2)) [4] gNm
      (sExpr (eCall 2 0 (fun ms _ => ms) F_commit_of (pA (aCons (eFld "History" "held" (eVar 0)) (aCons (eVar 4) aNil)))))))
    (sRet (eVar 2))))))))
def F_History_searched : FF := defM 7 b_History_searched
/-- 0:self 1:name -/
def b_History_below : FS :=
    (sSeq (sExpr (eCall 2 0 (fun ms _ => ms) F_commit_of (pA (aCons (eFld "History" "held" (eVar 0)) (aCons (eVar 1) aNil)))))
    (sSeq (sIf (tB' (eBin notInM (eVar 1) (eFld "History" "known" (eVar 0))))
      (sSub (eMeth "History" "searched" 2 0 (fun ms _ => ms) F_History_searched (eVar 0) (pA (aCons (eFrz (aLst (aCons (eVar 1) aNil))) aNil))) (eFld "History" "known" (eVar 0)) (eVar 1))
      sNext)
    (sRet (eBin ixM (eFld "History" "known" (eVar 0)) (eVar 1)))))
def F_History_below : FF := defM 2 b_History_below
/-- 0:self 1:word* 2:one 3:name -/
def b_Search_marked : FS :=
    (sRet (eFrz (aLk (eFld "Search" "marks" (eVar 0)) (aLc (iAny (eFld "Search" "marks" (eVar 0))) [2, 3] [2, 3] (gTupM 2 (gConsM gNm (gConsM gNm gNilM))) (qElt (tB' (eBin eqM (eVar 2) (eVar 1))) (eVar 3))))))
def F_Search_marked : FF := defM 4 b_Search_marked
/-- 0:self* 1:bad* 2:good* 3:found 4:name* 5:one* -/
def b_Search_candidates : FS :=
    (sSeq (sAsg (eTup (aCons (eMeth "Search" "marked" 2 0 (fun ms _ => ms) F_Search_marked (eVar 0) (pA (aCons (eC (.str "bad")) aNil))) (aCons (eMeth "Search" "marked" 2 0 (fun ms _ => ms) F_Search_marked (eVar 0) (pA (aCons (eC (.str "good")) aNil))) aNil))) [1, 2] (gTupM 2 (gConsM gNm (gConsM gNm gNilM))))
    (sSeq (sIf (tB' (eBin eqM (eVar 1) (eFrz (aLst aNil))))
      (sRet (eC (.ptp [])))
      sNext)
    (sSeq (sLk (eMeth "History" "below" 2 0 (fun ms _ => ms) F_History_below (eFld "Search" "past" (eVar 0)) (pA (aCons (eBin ixM (eVar 1) (eC (.int 0))) aNil))) (sSet 3 (eFrz (aLc (iAny (eMeth "History" "below" 2 0 (fun ms _ => ms) F_History_below (eFld "Search" "past" (eVar 0)) (pA (aCons (eBin ixM (eVar 1) (eC (.int 0))) aNil)))) [4] [4] gNm (qElt (tB' (fun ρ A => ((aCons (eFrz (aLc (iFrz (eVar 1)) [5] [5] gNm (qElt bYes (eBin inM (eVar 4) (eMeth "History" "below" 2 0 (fun ms _ => ms) F_History_below (eFld "Search" "past" (eVar 0)) (pA (aCons (eVar 5) aNil))))))) aNil) ρ A).bind (allM fun bs => bs.all id))) (eVar 4))))))
    (sRet (fun ρ A => ((aCons (eFrz (fun ρ A => ((aCons (eFrz (aLc (iFrz (eVar 3)) [4] [4] gNm (qElt (bNot (tB' (fun ρ A => ((aCons (eFrz (aLc (iFrz (eVar 2)) [5] [5] gNm (qElt bYes (eBin inM (eVar 4) (eMeth "History" "below" 2 0 (fun ms _ => ms) F_History_below (eFld "Search" "past" (eVar 0)) (pA (aCons (eVar 5) aNil))))))) aNil) ρ A).bind (allM fun bs => bs.any id)))) (eVar 4)))) aNil) ρ A).bind sortedL)) aNil) ρ A).bind tupleM)))))
def F_Search_candidates : FF := defM 6 b_Search_candidates
/-- 0:self 1:word 2:name -/
def b_Search_mark : FS :=
    (sSeq (sExpr (eMeth "History" "below" 2 0 (fun ms _ => ms) F_History_below (eFld "Search" "past" (eVar 0)) (pA (aCons (eVar 2) aNil))))
    (sSeq (sExpr (eApp (eFld "Search" "marks" (eVar 0)) (eTup (aCons (eVar 1) (aCons (eVar 2) aNil)))))
    (sIf (bAnd (tB' (eBin neM (eVar 1) (eC (.str "skip")))) (bAnd (tB' (eBin neM (eMeth "Search" "marked" 2 0 (fun ms _ => ms) F_Search_marked (eVar 0) (pA (aCons (eC (.str "bad")) aNil))) (eFrz (aLst aNil)))) (tB' (eBin eqM (eMeth "Search" "candidates" 1 0 (fun ms _ => ms) F_Search_candidates (eVar 0) pN) (eC (.ptp []))))))
      (sSeq (sExpr (ePopL (eFld "Search" "marks" (eVar 0))))
      (sRaise "BadMark" mk_BadMark (eC (.str "no candidates would be left"))))
      sNext)))
def F_Search_mark : FF := defM 3 b_Search_mark
/-- 0:self 1:name -/
def b_Search_bad : FS :=
    (sExpr (eMeth "Search" "mark" 3 0 (fun ms _ => ms) F_Search_mark (eVar 0) (pA (aCons (eC (.str "bad")) (aCons (eVar 1) aNil)))))
def F_Search_bad : FF := defM 2 b_Search_bad
/-- 0:self 1:name -/
def b_Search_good : FS :=
    (sExpr (eMeth "Search" "mark" 3 0 (fun ms _ => ms) F_Search_mark (eVar 0) (pA (aCons (eC (.str "good")) (aCons (eVar 1) aNil)))))
def F_Search_good : FF := defM 2 b_Search_good
/-- 0:self 1:name -/
def b_Search_skip : FS :=
    (sExpr (eMeth "Search" "mark" 3 0 (fun ms _ => ms) F_Search_mark (eVar 0) (pA (aCons (eC (.str "skip")) (aCons (eVar 1) aNil)))))
def F_Search_skip : FF := defM 2 b_Search_skip
/-- 0:self -/
def b_Search_undo : FS :=
    (sSeq (sIf (tB' (eBin eqM (eFld "Search" "marks" (eVar 0)) (eFrz (aLst aNil))))
      (sRaise "BadMark" mk_BadMark (eC (.str "no marks")))
      sNext)
    (sExpr (ePopL (eFld "Search" "marks" (eVar 0)))))
def F_Search_undo : FF := defM 1 b_Search_undo
/-- 0:_law_search 1:_law_word 2:_law_name -/
def b__law_called : FS :=
    (sSeq (sTry (sIf (tB' (eBin eqM (eVar 1) (eC (.str "bad"))))
        (sExpr (eMeth "Search" "bad" 2 0 (fun ms _ => ms) F_Search_bad (eVar 0) (pA (aCons (eVar 2) aNil))))
        (sIf (tB' (eBin eqM (eVar 1) (eC (.str "good"))))
          (sExpr (eMeth "Search" "good" 2 0 (fun ms _ => ms) F_Search_good (eVar 0) (pA (aCons (eVar 2) aNil))))
          (sIf (tB' (eBin eqM (eVar 1) (eC (.str "skip"))))
            (sExpr (eMeth "Search" "skip" 2 0 (fun ms _ => ms) F_Search_skip (eVar 0) (pA (aCons (eVar 2) aNil))))
            (sExpr (eMeth "Search" "undo" 1 0 (fun ms _ => ms) F_Search_undo (eVar 0) pN)))))
      [⟨errNames, subE "BadMark", none, fun _ fs => (sRet (eC (.bl false)))⟩])
    (sRet (eC (.bl true))))
def F__law_called : FF := defM 3 b__law_called
/-- 0:_law_source 1:_law_history_here 2:_law_facts 3:_law_reached_here 4:_law_names 5:_law_search 6:_law_marks 7:_law_turn 8:_law_word 9:_law_name 10:_law_later 11:_law_is_due 12:_law_told 13:_law_one 14:_law_other -/
def b__law_right : FS :=
    (sSeq (sAsg (eCall 2 0 (fun ms _ => ms) F__law_history (pA (aCons (eVar 0) (aCons (eC (.int 12)) aNil)))) [1, 2] (gTupM 2 (gConsM gNm (gConsM gNm gNilM))))
    (sSeq (sPar 3 4 (aCons (eCall 1 0 (fun ms _ => ms) F__law_reached (pA (aCons (eVar 2) aNil))) (aCons (eFrz (fun ρ A => ((aCons (eVar 2) aNil) ρ A).bind listD)) aNil)))
    (sSeq (sPar 5 6 (aCons (eMake "Search" 1 0 (fun ms _ => ms) F_Search___init__ (pA (aCons (eVar 1) aNil))) (aCons (eFrz (aLst aNil)) aNil)))
    (sSeq (sFor (Mv.iRng1 (aCons (eC (.int 16)) aNil)) [7] gNm
      (sSeq (sSet 8 (eBin ixM (eFrz (aLst (aCons (eC (.str "bad")) (aCons (eC (.str "good")) (aCons (eC (.str "good")) (aCons (eC (.str "skip")) (aCons (eC (.str "undo")) (aCons (eC (.str "bad")) aNil)))))))) (eCall 2 0 (fun ms _ => ms) F__law_draw (pA (aCons (eVar 0) (aCons (eC (.int 6)) aNil))))))
      (sSeq (sSet 9 (eBin ixM (eVar 4) (eCall 2 0 (fun ms _ => ms) F__law_draw (pA (aCons (eVar 0) (aCons (fun ρ A => ((aCons (eVar 4) aNil) ρ A).bind lenM) aNil))))))
      (sSeq (sSet 10 (eIf (tB' (eBin eqM (eVar 8) (eC (.str "undo")))) (eFrz (aSl (eVar 6) oNone (oSome (eUn negM (eC (.int 1)))))) (eFrz (aCat (eVar 6) (eFrz (aLst (aCons (eTup (aCons (eVar 8) (aCons (eVar 9) aNil))) aNil)))))))
      (sSeq (sSet 11 (eIf (tB' (eBin eqM (eVar 8) (eC (.str "undo")))) (eBin neM (eVar 6) (eFrz (aLst aNil))) (eC (.bl true))))
      (sSeq (sIf (bAnd (tB' (eBin inM (eVar 8) (eTup (aCons (eC (.str "bad")) (aCons (eC (.str "good")) aNil))))) (tB' (eBin inM (eC (.str "bad")) (eFrz (aLc (iFrz (eVar 10)) [13, 14] [13, 14] (gTupM 2 (gConsM gNm (gConsM gNm gNilM))) (qElt bYes (eVar 13)))))))
        (sSet 11 (eBin neM (eCall 2 0 (fun ms _ => ms) F__law_candidates (pA (aCons (eVar 3) (aCons (eVar 10) aNil)))) (eC (.ptp []))))
        sNext)
      (sSeq (sIf (tB' (eBin neM (eCall 3 0 (fun ms _ => ms) F__law_called (pA (aCons (eVar 5) (aCons (eVar 8) (aCons (eVar 9) aNil))))) (eVar 11)))
        (sRet (eC (.bl false)))
        sNext)
      (sSeq (sSet 6 (eIf (tB' (eVar 11)) (eVar 10) (eVar 6)))
      (sSeq (sSet 12 (eMeth "Search" "candidates" 1 0 (fun ms _ => ms) F_Search_candidates (eVar 5) pN))
      (sIf (bOr (bNot (tB' (fun ρ A => ((aCons (eVar 12) (aCons (eC (.ty "tuple")) aNil)) ρ A).bind (isiG own_)))) (tB' (eBin neM (eVar 12) (eCall 2 0 (fun ms _ => ms) F__law_candidates (pA (aCons (eVar 3) (aCons (eVar 6) aNil)))))))
        (sRet (eC (.bl false)))
        sNext))))))))))
    (sRet (eC (.bl true)))))))
def F__law_right : FF := defM 15 b__law_right
/-- 0:_law_script 1:_law_k 2:_law_cell -/
def b_law : FS :=
    (sSeq (sFor (Mv.iEnumM (aCons (eFrz (aSl (eFrz (aCat (eVar 0) (eFrz (aLst (aCons (eC (.int 0)) aNil))))) oNone (oSome (eC (.int 4))))) aNil)) [1, 2] (gTupM 2 (gConsM gNm (gConsM gNm gNilM)))
      (sIf (bNot (tB' (eCall 1 0 (fun ms _ => ms) F__law_right (pA (aCons (eRef (aLst (aCons (eBin mulM (eVar 2) (fun ρ A => ((aCons (eBin geM (eVar 2) (eBin powM (eC (.int 10)) (eC (.int 18)))) aNil) ρ A).bind intM)) (aCons (eBin addM (eBin modM (fun ρ A => ((aCons (eVar 2) aNil) ρ A).bind intM) (eC (.int 2147483647))) (eBin mulM (eC (.int 7919)) (eVar 1))) (aCons (eC (.int 0)) aNil))))) aNil)))))
        (sRet (eC (.bl false)))
        sNext))
    (sRet (eC (.bl true))))
def F_law : FF := defM 3 b_law
end Rf
namespace K56
open PySem PySem.Spec PyProof.Rows L2 Fk Mv Rf
abbrev PP : Program := PySem.Challenge.pw_forkhaul_k56_candidates_of_searches
theorem topS : (PP.main.scope.names.lookup ("super" : Str)).isSome = false := by decide +kernel
section
variable {w : World} {K : PySem.W.Frag} {mg : Str → Option Value} {base : Heap}
theorem Ctx.exf (T : Ctx K mg) (i : Nat) {b : Bool} (h : (exl K)[i]? = some b := by rfl) : b = true := List.all_eq_true.mp (show (exl K).all id = true from T.y.ex) b (List.mem_of_getElem? h)
theorem Ctx.err (T : Ctx K mg) (i : Nat) {e : ErrD} (h : errs[i]? = some e := by rfl) : ErrOk K e := ErrD.get (List.all_eq_true.mp (T.exf 0) e (List.mem_of_getElem? h))
/-- the def over ValueError, with its default -/
theorem scF : ScI i_ForkError.scope i_ForkError.params "why" := ⟨by rfl, by rfl, by rfl, by rfl, by rfl, by rfl, by rfl, by decide +kernel, ⟨_, rfl, rfl⟩, by decide, by decide⟩
structure RootF (w : World) (K : PySem.W.Frag) (mg : Str → Option Value) (fd : FuncData) : Prop where
  s : SupFn PP K (fI K "ForkError") fd (He.ga K "ForkError")
  d : De1 fd "why" "why"
  b : ∀ (s : Shared) (a v : Value), K.In s.heap → BindsTo s fd ⟨[a, v], []⟩ [("self", a), ("why", v)]
  bk : ∀ (s : Shared) (a v : Value), K.In s.heap → BindsTo s fd ⟨[a], [("why", v)]⟩ [("self", a), ("why", v)]
  b0 : ∃ d : Value, RelV (.str "") d ∧ ∀ (s : Shared) (a : Value), K.In s.heap → BindsTo s fd ⟨[a], []⟩ [("self", a), ("why", d)]
theorem rootF (T : Ctx K mg) : ∃ fd, RootF w K mg fd := by
  obtain ⟨e, c⟩ := T.y.ini 0 (d := i_ForkError) rfl
  obtain ⟨fd, S, n1, clo, dV, n9, n10, n11, n12, n13, n14, rfl, hD⟩ := IniD.get (P := PP) e c scF topS
  have De : De1 ⟨n1, i_ForkError.qual, i_ForkError.params, .stmts i_ForkError.body, i_ForkError.scope, mainGlobals, clo, dV, n9, n10, n11, n12, n13, n14, builtinsNs⟩ "why" "why" := ⟨⟨_, _, _, _, _, _, _, _, _, _, fun f L => _, rfl, fun f L => by rfl⟩, scF.ky, fun x hx => of_decide_eq_true (List.all_eq_true.mp scF.cell x hx), scF.hy, scF.hyd, scF.co, scF.gen⟩
  rcases hD with ⟨e0, _⟩ | ⟨_, TT, o, its, m, rfl, lT, oT, rT⟩
  · cases e0
  · obtain ⟨d, rfl, rd⟩ := vals1 (x := V.str "") rT
    refine ⟨_, S, De, fun s a v X => BindsTo.of_looks fun M => ?_, fun s a v X => BindsTo.of_looks fun M => ?_, d, rd, fun s a X => BindsTo.of_looks fun M => ?_⟩
    · obtain ⟨k, e1, e2⟩ : ∃ k, bindArgs ⟨n1, i_ForkError.qual, i_ForkError.params, .stmts i_ForkError.body, i_ForkError.scope, mainGlobals, clo, .ref TT, n9, n10, n11, n12, n13, n14, builtinsNs⟩ ⟨[a, v], []⟩ = seqItems? (.ref TT) >>= k ∧ k (some [d].toArray) = pure [(("self" : Str), a), (("why" : Str), v)] := ⟨_, rfl, by kernel_rfl⟩
      rw [e1]
      exact looks_items X lT oT (.of_pure e2)
    · obtain ⟨k, e1, e2⟩ : ∃ k, bindArgs ⟨n1, i_ForkError.qual, i_ForkError.params, .stmts i_ForkError.body, i_ForkError.scope, mainGlobals, clo, .ref TT, n9, n10, n11, n12, n13, n14, builtinsNs⟩ ⟨[a], [("why", v)]⟩ = seqItems? (.ref TT) >>= k ∧ k (some [d].toArray) = pure [(("self" : Str), a), (("why" : Str), v)] := ⟨_, rfl, by kernel_rfl⟩
      rw [e1]
      exact looks_items X lT oT (.of_pure e2)
    · obtain ⟨k, e1, e2⟩ : ∃ k, bindArgs ⟨n1, i_ForkError.qual, i_ForkError.params, .stmts i_ForkError.body, i_ForkError.scope, mainGlobals, clo, .ref TT, n9, n10, n11, n12, n13, n14, builtinsNs⟩ ⟨[a], []⟩ = seqItems? (.ref TT) >>= k ∧ k (some [d].toArray) = pure [(("self" : Str), a), (("why" : Str), d)] := ⟨_, rfl, by kernel_rfl⟩
      rw [e1]
      exact looks_items X lT oT (.of_pure e2)
theorem mkW (T : Ctx K mg) {e : ErrD} (E : ErrOk K e) (h1 : e.own = "ForkError") (h2 : e.root = "ForkError") (h3 : e.fld2 = "why") : Mkr PP w K mg base (He.ga K e.cls) "why" fun x => [("why", x)] := by
  obtain ⟨fd, r⟩ := rootF (w := w) T
  have i1 := E.i1
  have ini := E.ini
  have ty := E.ty
  rw [h2, h3] at i1
  rw [h1] at ini ty
  exact ⟨eb e.key, fI K "ForkError", fd, E.c, ini, ty, (ini1 r.s r.d T.f_super i1).mono (by decide), r.b, r.bk⟩
/-- a def with one parameter and no default -/
theorem bind2 {n1 y : Str} {d : IniD} {clo : List (Str × Addr)} {dV n9 n10 n11 : Value} {n12 : Option Addr} {n13 n14 : Value} (hd : d.dfl = []) (hD : DflV K dV (d.dfl.map (He.Dv.v K)))
    (h1 : ∀ a v : Value, bindArgs ⟨n1, d.qual, d.params, .stmts d.body, d.scope, mainGlobals, clo, .none, n9, n10, n11, n12, n13, n14, builtinsNs⟩ ⟨[a, v], []⟩ = pure [(("self" : Str), a), (y, v)])
    (h2 : ∀ a v : Value, bindArgs ⟨n1, d.qual, d.params, .stmts d.body, d.scope, mainGlobals, clo, .none, n9, n10, n11, n12, n13, n14, builtinsNs⟩ ⟨[a], [(y, v)]⟩ = pure [(("self" : Str), a), (y, v)]) :
    (∀ (s : Shared) (a v : Value), K.In s.heap → BindsTo s ⟨n1, d.qual, d.params, .stmts d.body, d.scope, mainGlobals, clo, dV, n9, n10, n11, n12, n13, n14, builtinsNs⟩ ⟨[a, v], []⟩ [("self", a), (y, v)]) ∧
    ∀ (s : Shared) (a v : Value), K.In s.heap → BindsTo s ⟨n1, d.qual, d.params, .stmts d.body, d.scope, mainGlobals, clo, dV, n9, n10, n11, n12, n13, n14, builtinsNs⟩ ⟨[a], [(y, v)]⟩ [("self", a), (y, v)] := by
  rw [hd] at hD
  rcases hD with ⟨_, rfl⟩ | ⟨e, _⟩
  · exact ⟨fun s a v _ => .of_eq (h1 a v), fun s a v _ => .of_eq (h2 a v)⟩
  · exact absurd rfl e
theorem sc_BadObject : ScI i_BadObject.scope i_BadObject.params "at" := ⟨by rfl, by rfl, by rfl, by rfl, by rfl, by rfl, by rfl, by decide +kernel, ⟨_, rfl, rfl⟩, by decide, by decide⟩
theorem mkr_BadObject (T : Ctx K mg) : Mkr PP w K mg base (He.ga K "BadObject") "at" fun x => [("at", x), ("why", .str "not an object")] := by
  obtain ⟨fd, r⟩ := rootF (w := w) T
  obtain ⟨e, c⟩ := T.y.ini 1 (d := i_BadObject) rfl
  obtain ⟨fd1, S, n1, clo, dV, n9, n10, n11, n12, n13, n14, rfl, hD⟩ := IniD.get (P := PP) e c sc_BadObject topS
  have E := T.err 3 (e := e_BadObject)
  have De : De2 ⟨n1, i_BadObject.qual, i_BadObject.params, .stmts i_BadObject.body, i_BadObject.scope, mainGlobals, clo, dV, n9, n10, n11, n12, n13, n14, builtinsNs⟩ "at" "at" "not an object" := ⟨⟨_, _, _, _, _, _, _, _, _, _, _, fun f L => _, rfl, fun f L => by rfl⟩, sc_BadObject.ky, fun x hx => of_decide_eq_true (List.all_eq_true.mp sc_BadObject.cell x hx), sc_BadObject.hy, sc_BadObject.hyd, sc_BadObject.co, sc_BadObject.gen⟩
  obtain ⟨b1, b2⟩ := bind2 (d := i_BadObject) (y := "at") (n1 := n1) (clo := clo) (n9 := n9) (n10 := n10) (n11 := n11) (n12 := n12) (n13 := n13) (n14 := n14) rfl hD (fun _ _ => by kernel_rfl) (fun _ _ => by kernel_rfl)
  exact ⟨ebV, fI K "BadObject", _, E.c, E.ini, E.ty, ini2 S De r.s r.d r.b T.f_super (E.i2 (by decide)), b1, b2⟩
theorem sc_Clash : ScI i_Clash.scope i_Clash.params "name" := ⟨by rfl, by rfl, by rfl, by rfl, by rfl, by rfl, by rfl, by decide +kernel, ⟨_, rfl, rfl⟩, by decide, by decide⟩
theorem mkr_Clash (T : Ctx K mg) : Mkr PP w K mg base (He.ga K "Clash") "name" fun x => [("name", x), ("why", .str "another object has this id")] := by
  obtain ⟨fd, r⟩ := rootF (w := w) T
  obtain ⟨e, c⟩ := T.y.ini 2 (d := i_Clash) rfl
  obtain ⟨fd1, S, n1, clo, dV, n9, n10, n11, n12, n13, n14, rfl, hD⟩ := IniD.get (P := PP) e c sc_Clash topS
  have E := T.err 4 (e := e_Clash)
  have De : De2 ⟨n1, i_Clash.qual, i_Clash.params, .stmts i_Clash.body, i_Clash.scope, mainGlobals, clo, dV, n9, n10, n11, n12, n13, n14, builtinsNs⟩ "name" "name" "another object has this id" := ⟨⟨_, _, _, _, _, _, _, _, _, _, _, fun f L => _, rfl, fun f L => by rfl⟩, sc_Clash.ky, fun x hx => of_decide_eq_true (List.all_eq_true.mp sc_Clash.cell x hx), sc_Clash.hy, sc_Clash.hyd, sc_Clash.co, sc_Clash.gen⟩
  obtain ⟨b1, b2⟩ := bind2 (d := i_Clash) (y := "name") (n1 := n1) (clo := clo) (n9 := n9) (n10 := n10) (n11 := n11) (n12 := n12) (n13 := n13) (n14 := n14) rfl hD (fun _ _ => by kernel_rfl) (fun _ _ => by kernel_rfl)
  exact ⟨ebV, fI K "Clash", _, E.c, E.ini, E.ty, ini2 S De r.s r.d r.b T.f_super (E.i2 (by decide)), b1, b2⟩
theorem sc_NoObject : ScI i_NoObject.scope i_NoObject.params "name" := ⟨by rfl, by rfl, by rfl, by rfl, by rfl, by rfl, by rfl, by decide +kernel, ⟨_, rfl, rfl⟩, by decide, by decide⟩
theorem mkr_NoObject (T : Ctx K mg) : Mkr PP w K mg base (He.ga K "NoObject") "name" fun x => [("name", x)] := by
  obtain ⟨e, c⟩ := T.y.ini 3 (d := i_NoObject) rfl
  obtain ⟨fd1, S, n1, clo, dV, n9, n10, n11, n12, n13, n14, rfl, hD⟩ := IniD.get (P := PP) e c sc_NoObject topS
  have E := T.err 5 (e := e_NoObject)
  have De : De1 ⟨n1, i_NoObject.qual, i_NoObject.params, .stmts i_NoObject.body, i_NoObject.scope, mainGlobals, clo, dV, n9, n10, n11, n12, n13, n14, builtinsNs⟩ "name" "name" := ⟨⟨_, _, _, _, _, _, _, _, _, _, fun f L => _, rfl, fun f L => by rfl⟩, sc_NoObject.ky, fun x hx => of_decide_eq_true (List.all_eq_true.mp sc_NoObject.cell x hx), sc_NoObject.hy, sc_NoObject.hyd, sc_NoObject.co, sc_NoObject.gen⟩
  obtain ⟨b1, b2⟩ := bind2 (d := i_NoObject) (y := "name") (n1 := n1) (clo := clo) (n9 := n9) (n10 := n10) (n11 := n11) (n12 := n12) (n13 := n13) (n14 := n14) rfl hD (fun _ _ => by kernel_rfl) (fun _ _ => by kernel_rfl)
  exact ⟨ebK, fI K "NoObject", _, E.c, E.ini, E.ty, (ini1 S De T.f_super E.i1).mono (by decide), b1, b2⟩
theorem mkr_ForkError (T : Ctx K mg) : Mkr PP w K mg base (He.ga K "ForkError") "why" fun x => [("why", x)] := mkW T (T.err 0 (e := e_ForkError)) rfl rfl rfl
theorem rk_ForkError {K : PySem.W.Frag} {ι : Io} {H : Hp} {m : MV} {u : V} (r : RV K ι H m u) : RFs K ι H (mk_ForkError m) [("why", u)] := .cons r .nil
theorem mkr_BadName (T : Ctx K mg) : Mkr PP w K mg base (He.ga K "BadName") "why" fun x => [("why", x)] := mkW T (T.err 1 (e := e_BadName)) rfl rfl rfl
theorem rk_BadName {K : PySem.W.Frag} {ι : Io} {H : Hp} {m : MV} {u : V} (r : RV K ι H m u) : RFs K ι H (mk_BadName m) [("why", u)] := .cons r .nil
theorem mkr_BadMark (T : Ctx K mg) : Mkr PP w K mg base (He.ga K "BadMark") "why" fun x => [("why", x)] := mkW T (T.err 2 (e := e_BadMark)) rfl rfl rfl
theorem rk_BadMark {K : PySem.W.Frag} {ι : Io} {H : Hp} {m : MV} {u : V} (r : RV K ι H m u) : RFs K ι H (mk_BadMark m) [("why", u)] := .cons r .nil
theorem rk_BadObject {K : PySem.W.Frag} {ι : Io} {H : Hp} {m : MV} {u : V} (r : RV K ι H m u) : RFs K ι H (mk_BadObject m) [("at", u), ("why", .str "not an object")] := .cons r (.cons (.str _) .nil)
theorem rk_Clash {K : PySem.W.Frag} {ι : Io} {H : Hp} {m : MV} {u : V} (r : RV K ι H m u) : RFs K ι H (mk_Clash m) [("name", u), ("why", .str "another object has this id")] := .cons r (.cons (.str _) .nil)
theorem rk_NoObject {K : PySem.W.Frag} {ι : Io} {H : Hp} {m : MV} {u : V} (r : RV K ι H m u) : RFs K ι H (mk_NoObject m) [("name", u)] := .cons r .nil
theorem Ctx.exm (T : Ctx K mg) (i j : Nat) {e x : ErrD} (h : errs[i]? = some e := by rfl) (h' : hxs[j]? = some x := by rfl) : PySem.W.exmOne K (.ref (He.ga K e.cls)) (.ref (He.ga K x.cls)) = some (subE x.cls e.cls) := by
  have h4 := T.exf 6
  exact of_decide_eq_true (List.all_eq_true.mp (List.all_eq_true.mp h4 e (List.mem_of_getElem? h)) x (List.mem_of_getElem? h'))
theorem mem_all {α : Type} {p : α → Prop} : ∀ {l : List α}, l.foldr (fun a r => p a ∧ r) True → ∀ c ∈ l, p c
  | [], _, _, h => by cases h
  | a :: l, ⟨h1, h2⟩, c, h => by
    cases h with
    | head => exact h1
    | tail _ h => exact mem_all h2 c h
theorem Ctx.xf (T : Ctx K mg) : ∀ c ∈ errNames, XfC K (He.ga K c) := mem_all ⟨(T.err 0 (e := e_ForkError)).xf, (T.err 1 (e := e_BadName)).xf, (T.err 2 (e := e_BadMark)).xf, (T.err 3 (e := e_BadObject)).xf, (T.err 4 (e := e_Clash)).xf, (T.err 5 (e := e_NoObject)).xf, trivial⟩
theorem Ctx.exm_BadMark (T : Ctx K mg) : ∀ c ∈ errNames, PySem.W.exmOne K (.ref (He.ga K c)) (.ref (He.ga K "BadMark")) = some (subE "BadMark" c) := mem_all ⟨T.exm 0 0 (e := e_ForkError) (x := e_BadMark), T.exm 1 0 (e := e_BadName) (x := e_BadMark), T.exm 2 0 (e := e_BadMark) (x := e_BadMark), T.exm 3 0 (e := e_BadObject) (x := e_BadMark), T.exm 4 0 (e := e_Clash) (x := e_BadMark), T.exm 5 0 (e := e_NoObject) (x := e_BadMark), trivial⟩
theorem Ctx.tup_ (T : Ctx K mg) (i : Nat) {x : Str} {vs : List He.Dv} (h : tups[i]? = some (x, vs)) : He.tupB K x vs = true := List.all_eq_true.mp (T.exf 4) (x, vs) (List.mem_of_getElem? h)
theorem Ctx.t_KINDS {X : Cx} {W : Wi} {pos : Pos} (T : Ctx X.K X.mg) (hg : Gl X "KINDS") : PE X (.Name "KINDS" pos) (tM X.K W (eC (.tup [.str "file", .str "exec", .str "dir"]))) :=
  m_c (pe_glob (v := .ref (He.ga X.K "KINDS")) hg T.g_KINDS rfl) fun _ _ => .tup (.inr (He.tupB_ok (T.tup_ (x := "KINDS") (vs := [.str "file", .str "exec", .str "dir"]) 0 rfl) H0)) (.cons (.str _) (.cons (.str _) (.cons (.str _) .nil)))
theorem Ctx.prop (T : Ctx K mg) (i : Nat) {c x : Str} (h : props[i]? = some (c, x) := by rfl) : PropOf K (He.ga K c) x (prA K (He.ga K c) x) (prG K (He.ga K c) x) := prB_ok (List.all_eq_true.mp (T.exf 1) (c, x) (List.mem_of_getElem? h))
theorem Ctx.emp (T : Ctx K mg) (i : Nat) {a : PySem.W.Frag → Addr} (h : emps[i]? = some a := by rfl) : emT K (a K) = true := List.all_eq_true.mp (T.exf 5) a (List.mem_of_getElem? h)
theorem Ctx.kcl (T : Ctx K mg) : ∀ C ∈ own, Cls K (He.ga K C) := mem_all ⟨T.k_Blob, T.k_Tree, T.k_Commit, T.k_Tag, T.k_History, T.k_Search, T.k_Store, trivial⟩
theorem Ctx.kit (T : Ctx K mg) : Kit K own_ := kit_all (own := own) T.kcl (T.exf 2)
theorem Ctx.nem (T : Ctx K mg) {C : Str} (h : C ∈ own) : NeM K (He.ga K C) := ne_all (T.exf 2) (T.exf 3) h
theorem mem_of_lookup {a : Addr} {o : Obj} : ∀ {K : PySem.W.Frag}, K.lookup a = some o → (a, o) ∈ K
  | [], h => by cases h
  | p :: K, h => by
    rw [List.lookup_cons] at h
    split at h
    · rename_i e
      cases h
      have e2 : a = p.1 := by simpa using e
      rw [e2]
      exact List.mem_cons_self ..
    · exact List.mem_cons_of_mem _ (mem_of_lookup h)
theorem Ctx.noL (T : Ctx K mg) {a : Addr} {o : Obj} (h : K.lookup a = some o) : o.cls ≠ .type "list" := by
  have h5 := T.exf 7
  have := mem_of_lookup h
  have q := List.all_eq_true.mp h5 _ this
  exact fun z => by rw [z] at q; simp at q
end
end K56
namespace K56
open PySem PySem.Spec PyProof.Rows L2 Fk Mv Rf
section
variable {w : World} {K : PySem.W.Frag} {mg : Str → Option Value} {base : Heap}
theorem dflT_Commit___init___parents (T : Ctx K mg) {ι : Io} {H : Hp} : RV K ι H (.tup []) (.ref (He.dflAt ("Commit", some "__init__") 0 K)) := emT_rv (T.emp 0) ι H
theorem dflT_History___init___cut (T : Ctx K mg) {ι : Io} {H : Hp} : RV K ι H (.tup []) (.ref (Fk.kwdAt ("History", some "__init__") "cut" K)) := emT_rv (T.emp 1) ι H
abbrev N_Store___init__ : List Str := ["self", "short"]
theorem sc_Store___init__ : FnScope N_Store___init__ ["self", "short"] (defScope s_Store___init__) := ⟨rfl, rfl, rfl, by decide +kernel, rfl, by decide +kernel, by decide +kernel⟩
theorem kb_Store___init___1 {K : PySem.W.Frag} : KB K d_Store___init__ ["self", "short"] 1 [] (fun ms _ => ms ++ [.bl false]) := fun fd F => kbm_dfl (FunD.binds0 (ps := ["self", "short"]) F 1 (by intro h; cases h) rfl fun _ _ _ _ _ _ us ks h1 h2 => match us, h1, ks, h2 with | [_], _, [_], _ => ⟨_, _, _, _, _, _, rfl, rfl, rfl⟩) (fun _ _ => (.cons (.bl _) .nil)) rfl
theorem ok_Store___init__ (T : Ctx K mg) : OkM PP w K mg base 1 d_Store___init__ ["self", "short"] F_Store___init__ := ok_M (T.c.def_ 43 (d := d_Store___init__) rfl) sc_Store___init__ fun cdv A outer s H E hr tk pp => by
  have nd := sc_Store___init__.nd
  exact (mss_cons (ms_fld (m_var 0) (m_bool T.f_bool (ma_cons (m_var 1) ma_nil)) T.k_Store T.n_Store_short)
    (mss_one (ms_fld (m_var 0) m_dict0 T.k_Store T.n_Store_kept)))
abbrev N_is_object : List Str := ["thing"]
theorem sc_is_object : FnScope N_is_object ["thing"] (defScope s_is_object) := ⟨rfl, rfl, rfl, by decide +kernel, rfl, by decide +kernel, by decide +kernel⟩
theorem bn_is_object {K : PySem.W.Frag} : BN K d_is_object ["thing"] := fun fd F => FunD.bindsN F fun _ _ _ _ _ _ us hl => match us, hl with | [_], _ => rfl
theorem kb_is_object_1 {K : PySem.W.Frag} : KB K d_is_object ["thing"] 1 [] (fun ms _ => ms) := bn_is_object.kb
theorem ok_is_object (T : Ctx K mg) : OkM PP w K mg base 1 d_is_object ["thing"] F_is_object := ok_M (T.c.def_ 20 (d := d_is_object) rfl) sc_is_object fun cdv A outer s H E hr tk pp => by
  have nd := sc_is_object.nd
  exact (mss_one (ms_ret (m_isiT T.kit T.f_isinstance (m_var 0) (ma_cons (m_glo T.g_Blob) (ma_cons (m_glo T.g_Tree) (ma_cons (m_glo T.g_Commit) (ma_cons (m_glo T.g_Tag) ma_nil)))))))
abbrev N_sum_of : List Str := ["data", "short", "number", "modulus", "byte"]
theorem sc_sum_of : FnScope N_sum_of ["data", "short"] (defScope s_sum_of) := ⟨rfl, rfl, rfl, by decide +kernel, rfl, by decide +kernel, by decide +kernel⟩
theorem kb_sum_of_1_short {K : PySem.W.Frag} : KB K d_sum_of ["data", "short"] 1 ["short"] (gkw [none] [0]) := fun fd F => by
  obtain ⟨mv, B⟩ := FunD.kbinds0 (ps := ["data", "short"]) F 1 ["short"] [] (fun us _ ws => us ++ ws) (by intro h; cases h) (by intro q h; cases h) (fun r _ r2 => r.append r2) fun _ _ _ _ _ _ us mv ws h1 h2 h3 => match us, h1, mv, h2, ws, h3 with | [_], _, [], _, [_], _ => rfl
  refine kbm_kw ⟨_, B⟩ fun {ι H ms zs vs ws} h1 h2 r1 r2 => ?_
  match zs, h2, r2 with
  | [_], _, .cons a .nil => exact ⟨r1.append (.cons a .nil), by rw [List.length_append, ← r1.length, h1]; rfl⟩
theorem ok_sum_of (T : Ctx K mg) : OkM PP w K mg base 4 d_sum_of ["data", "short"] F_sum_of := ok_M (T.c.def_ 41 (d := d_sum_of) rfl) sc_sum_of fun cdv A outer s H E hr tk pp => by
  have nd := sc_sum_of.nd
  exact (mss_cons (ms_if (mt_not (mt_val (m_isiG T.kit T.f_isinstance (ma_cons (m_var 0) (ma_cons (m_ty T.f_bytes bt_bytes) ma_nil)))))
      (mss_one (ms_raise (c := "BadName") rfl tk (mkr_BadName T) (hr.mono (by decide)) T.g_BadName m_str rk_BadName))
      mss_nil)
    (mss_cons (ms_set (i := 2) nd m_int)
    (mss_cons (ms_set (i := 3) nd (m_if (mt_val (m_var 1)) (m_c (T.c_SHORT rfl) fun _ _ => .int _) (m_c (T.c_LONG rfl) fun _ _ => .int _)))
    (mss_cons (ms_for (is := [4]) pp rfl (mi_byt (m_var 0)) (tg_name (i := 4) nd)
      (mss_one (ms_set (i := 2) nd (m_op op_modM (m_int1 T.f_int (ma_cons (m_op op_addM (m_op op_addM (m_op op_mulM (m_var 2) (m_c (T.c_FACTOR rfl) fun _ _ => .int _)) (m_var 4)) m_int) ma_nil)) (m_var 3)))))
    (mss_one (ms_ret (m_js1 (m_hex (m_var 2)))))))))
abbrev N_Blob_text : List Str := ["self"]
theorem sc_Blob_text : FnScope N_Blob_text ["self"] (defScope s_Blob_text) := ⟨rfl, rfl, rfl, by decide +kernel, rfl, by decide +kernel, by decide +kernel⟩
theorem bp_Blob_text {K : PySem.W.Frag} : BP K g_Blob_text ["self"] := fun fd F => FunD.bindsN F fun _ _ _ _ _ _ us hl => match us, hl with | [_], _ => rfl
theorem okp_Blob_text (T : Ctx K mg) : OkP PP w K mg base 1 g_Blob_text ["self"] F_Blob_text := ok_P (T.z.get 0 (d := g_Blob_text) rfl) sc_Blob_text fun cdv A outer s H E hr tk pp => by
  have nd := sc_Blob_text.nd
  exact (mss_one (ms_ret (m_fld (m_var 0) T.k_Blob T.n_Blob_held)))
abbrev N_Tree_entries : List Str := ["self", "name", "kind", "target"]
theorem sc_Tree_entries : FnScope N_Tree_entries ["self"] (defScope s_Tree_entries) := ⟨rfl, rfl, rfl, by decide +kernel, rfl, by decide +kernel, by decide +kernel⟩
theorem bp_Tree_entries {K : PySem.W.Frag} : BP K g_Tree_entries ["self"] := fun fd F => FunD.bindsN F fun _ _ _ _ _ _ us hl => match us, hl with | [_], _ => rfl
theorem okp_Tree_entries (T : Ctx K mg) : OkP PP w K mg base 1 g_Tree_entries ["self"] F_Tree_entries := ok_P (T.z.get 1 (d := g_Tree_entries) rfl) sc_Tree_entries fun cdv A outer s H E hr tk pp => by
  have nd := sc_Tree_entries.nd
  exact (mss_one (ms_ret (m_dc (own := [("name", 1), ("kind", 2), ("target", 3)]) (is := [1, 2, 3]) rfl nd (mi_tup (m_fld (m_var 0) T.k_Tree T.n_Tree_held)) (blkOk_by (own := [("name", 1), ("kind", 2), ("target", 3)]) (N := N_Tree_entries) (sc := defScope s_Tree_entries) (by decide +kernel)) (by decide) (fun _ _ _ _ _ => (tg_tup rfl (tgs_cons (tg_name (i := 1) nd) (tgs_cons (tg_name (i := 2) nd) (tgs_cons (tg_name (i := 3) nd) tgs_nil))))) (fun _ _ _ _ _ => mts_nil) (fun _ _ _ _ _ => (m_var 1)) (fun _ _ _ _ _ => (m_tup (ma_cons (m_var 2) (ma_cons (m_var 3) ma_nil)))))))
abbrev N_encode_tree : List Str := ["tree", "lines", "name", "kind", "target"]
theorem sc_encode_tree : FnScope N_encode_tree ["tree"] (defScope s_encode_tree) := ⟨rfl, rfl, rfl, by decide +kernel, rfl, by decide +kernel, by decide +kernel⟩
theorem bn_encode_tree {K : PySem.W.Frag} : BN K d_encode_tree ["tree"] := fun fd F => FunD.bindsN F fun _ _ _ _ _ _ us hl => match us, hl with | [_], _ => rfl
theorem kb_encode_tree_1 {K : PySem.W.Frag} : KB K d_encode_tree ["tree"] 1 [] (fun ms _ => ms) := bn_encode_tree.kb
theorem ok_encode_tree (T : Ctx K mg) : OkM PP w K mg base 3 d_encode_tree ["tree"] F_encode_tree := ok_M (T.c.def_ 38 (d := d_encode_tree) rfl) sc_encode_tree fun cdv A outer s H E hr tk pp => by
  have nd := sc_encode_tree.nd
  exact (mss_cons (ms_set (i := 1) nd (m_ref (ml_lst (ma_cons m_str ma_nil))))
    (mss_cons (ms_for (is := [2, 3, 4]) pp rfl (mi_items (m_fz (c_prop (C := "Tree") (okp_Tree_entries T) bp_Tree_entries rfl (hr.mono (by decide)) T.k_Tree (T.prop 1) (m_var 0)))) (tg_tup rfl (tgs_cons (tg_name (i := 2) nd) (tgs_cons (tg_tup rfl (tgs_cons (tg_name (i := 3) nd) (tgs_cons (tg_name (i := 4) nd) tgs_nil))) tgs_nil)))
      (mss_one (ms_expr (m_append (m_var 1) (m_js (fs := [(eFmt (eVar 3)), (eC (.str " ")), (eFmt (eVar 2)), (eC (.str " ")), (eFmt (eVar 4)), (eC (.str "\n"))]) (.cons (m_fmt (m_var 3)) (.cons m_str (.cons (m_fmt (m_var 2)) (.cons m_str (.cons (m_fmt (m_var 4)) (.cons m_str .nil)))))))))))
    (mss_one (ms_ret (m_join m_str (m_var 1))))))
abbrev N_Commit_tree : List Str := ["self"]
theorem sc_Commit_tree : FnScope N_Commit_tree ["self"] (defScope s_Commit_tree) := ⟨rfl, rfl, rfl, by decide +kernel, rfl, by decide +kernel, by decide +kernel⟩
theorem bp_Commit_tree {K : PySem.W.Frag} : BP K g_Commit_tree ["self"] := fun fd F => FunD.bindsN F fun _ _ _ _ _ _ us hl => match us, hl with | [_], _ => rfl
theorem okp_Commit_tree (T : Ctx K mg) : OkP PP w K mg base 1 g_Commit_tree ["self"] F_Commit_tree := ok_P (T.z.get 2 (d := g_Commit_tree) rfl) sc_Commit_tree fun cdv A outer s H E hr tk pp => by
  have nd := sc_Commit_tree.nd
  exact (mss_one (ms_ret (m_ix (ix_M hr) (m_fld (m_var 0) T.k_Commit T.n_Commit_held) m_int)))
abbrev N_Commit_parents : List Str := ["self"]
theorem sc_Commit_parents : FnScope N_Commit_parents ["self"] (defScope s_Commit_parents) := ⟨rfl, rfl, rfl, by decide +kernel, rfl, by decide +kernel, by decide +kernel⟩
theorem bp_Commit_parents {K : PySem.W.Frag} : BP K g_Commit_parents ["self"] := fun fd F => FunD.bindsN F fun _ _ _ _ _ _ us hl => match us, hl with | [_], _ => rfl
theorem okp_Commit_parents (T : Ctx K mg) : OkP PP w K mg base 1 g_Commit_parents ["self"] F_Commit_parents := ok_P (T.z.get 3 (d := g_Commit_parents) rfl) sc_Commit_parents fun cdv A outer s H E hr tk pp => by
  have nd := sc_Commit_parents.nd
  exact (mss_one (ms_ret (m_ix (ix_M hr) (m_fld (m_var 0) T.k_Commit T.n_Commit_held) m_int)))
abbrev N_Commit_time : List Str := ["self"]
theorem sc_Commit_time : FnScope N_Commit_time ["self"] (defScope s_Commit_time) := ⟨rfl, rfl, rfl, by decide +kernel, rfl, by decide +kernel, by decide +kernel⟩
theorem bp_Commit_time {K : PySem.W.Frag} : BP K g_Commit_time ["self"] := fun fd F => FunD.bindsN F fun _ _ _ _ _ _ us hl => match us, hl with | [_], _ => rfl
theorem okp_Commit_time (T : Ctx K mg) : OkP PP w K mg base 1 g_Commit_time ["self"] F_Commit_time := ok_P (T.z.get 5 (d := g_Commit_time) rfl) sc_Commit_time fun cdv A outer s H E hr tk pp => by
  have nd := sc_Commit_time.nd
  exact (mss_one (ms_ret (m_ix (ix_M hr) (m_fld (m_var 0) T.k_Commit T.n_Commit_held) m_int)))
abbrev N_Commit_author : List Str := ["self"]
theorem sc_Commit_author : FnScope N_Commit_author ["self"] (defScope s_Commit_author) := ⟨rfl, rfl, rfl, by decide +kernel, rfl, by decide +kernel, by decide +kernel⟩
theorem bp_Commit_author {K : PySem.W.Frag} : BP K g_Commit_author ["self"] := fun fd F => FunD.bindsN F fun _ _ _ _ _ _ us hl => match us, hl with | [_], _ => rfl
theorem okp_Commit_author (T : Ctx K mg) : OkP PP w K mg base 1 g_Commit_author ["self"] F_Commit_author := ok_P (T.z.get 4 (d := g_Commit_author) rfl) sc_Commit_author fun cdv A outer s H E hr tk pp => by
  have nd := sc_Commit_author.nd
  exact (mss_one (ms_ret (m_ix (ix_M hr) (m_fld (m_var 0) T.k_Commit T.n_Commit_held) m_int)))
abbrev N_Commit_message : List Str := ["self"]
theorem sc_Commit_message : FnScope N_Commit_message ["self"] (defScope s_Commit_message) := ⟨rfl, rfl, rfl, by decide +kernel, rfl, by decide +kernel, by decide +kernel⟩
theorem bp_Commit_message {K : PySem.W.Frag} : BP K g_Commit_message ["self"] := fun fd F => FunD.bindsN F fun _ _ _ _ _ _ us hl => match us, hl with | [_], _ => rfl
theorem okp_Commit_message (T : Ctx K mg) : OkP PP w K mg base 1 g_Commit_message ["self"] F_Commit_message := ok_P (T.z.get 6 (d := g_Commit_message) rfl) sc_Commit_message fun cdv A outer s H E hr tk pp => by
  have nd := sc_Commit_message.nd
  exact (mss_one (ms_ret (m_ix (ix_M hr) (m_fld (m_var 0) T.k_Commit T.n_Commit_held) m_int)))
abbrev N_encode_commit : List Str := ["commit", "lines", "one"]
theorem sc_encode_commit : FnScope N_encode_commit ["commit"] (defScope s_encode_commit) := ⟨rfl, rfl, rfl, by decide +kernel, rfl, by decide +kernel, by decide +kernel⟩
theorem bn_encode_commit {K : PySem.W.Frag} : BN K d_encode_commit ["commit"] := fun fd F => FunD.bindsN F fun _ _ _ _ _ _ us hl => match us, hl with | [_], _ => rfl
theorem kb_encode_commit_1 {K : PySem.W.Frag} : KB K d_encode_commit ["commit"] 1 [] (fun ms _ => ms) := bn_encode_commit.kb
theorem ok_encode_commit (T : Ctx K mg) : OkM PP w K mg base 3 d_encode_commit ["commit"] F_encode_commit := ok_M (T.c.def_ 39 (d := d_encode_commit) rfl) sc_encode_commit fun cdv A outer s H E hr tk pp => by
  have nd := sc_encode_commit.nd
  exact (mss_cons (ms_set (i := 1) nd (m_ref (ml_lst (ma_cons m_str (ma_cons (m_js (fs := [(eC (.str "tree ")), (eFmt (eProp "Commit" F_Commit_tree (eVar 0))), (eC (.str "\n"))]) (.cons m_str (.cons (m_fmt (c_prop (C := "Commit") (okp_Commit_tree T) bp_Commit_tree rfl (hr.mono (by decide)) T.k_Commit (T.prop 2) (m_var 0))) (.cons m_str .nil)))) ma_nil)))))
    (mss_cons (ms_expr (m_extend (m_var 1) (m_frz (ml_lc (own := [("one", 2)]) (is := [2]) (g := gNm) rfl nd (mi_tup (c_prop (C := "Commit") (okp_Commit_parents T) bp_Commit_parents rfl (hr.mono (by decide)) T.k_Commit (T.prop 3) (m_var 0))) (blkOk_by (own := [("one", 2)]) (N := N_encode_commit) (sc := defScope s_encode_commit) (by decide +kernel)) (by decide) (fun _ _ _ _ _ => (tg_name (i := 2) nd)) (fun _ _ _ _ _ => mts_nil) (fun _ _ _ _ _ => (m_js (fs := [(eC (.str "parent ")), (eFmt (eVar 2)), (eC (.str "\n"))]) (.cons m_str (.cons (m_fmt (m_var 2)) (.cons m_str .nil)))))))))
    (mss_cons (ms_expr (m_append (m_var 1) (m_js (fs := [(eC (.str "author ")), (eFmt (eProp "Commit" F_Commit_author (eVar 0))), (eC (.str "\ntime ")), (eFmt (eProp "Commit" F_Commit_time (eVar 0))), (eC (.str "\n\n"))]) (.cons m_str (.cons (m_fmt (c_prop (C := "Commit") (okp_Commit_author T) bp_Commit_author rfl (hr.mono (by decide)) T.k_Commit (T.prop 4) (m_var 0))) (.cons m_str (.cons (m_fmt (c_prop (C := "Commit") (okp_Commit_time T) bp_Commit_time rfl (hr.mono (by decide)) T.k_Commit (T.prop 5) (m_var 0))) (.cons m_str .nil))))))))
    (mss_one (ms_ret (m_op op_addM (m_join m_str (m_var 1)) (c_prop (C := "Commit") (okp_Commit_message T) bp_Commit_message rfl (hr.mono (by decide)) T.k_Commit (T.prop 6) (m_var 0))))))))
abbrev N_Tag_message : List Str := ["self"]
theorem sc_Tag_message : FnScope N_Tag_message ["self"] (defScope s_Tag_message) := ⟨rfl, rfl, rfl, by decide +kernel, rfl, by decide +kernel, by decide +kernel⟩
theorem bp_Tag_message {K : PySem.W.Frag} : BP K g_Tag_message ["self"] := fun fd F => FunD.bindsN F fun _ _ _ _ _ _ us hl => match us, hl with | [_], _ => rfl
theorem okp_Tag_message (T : Ctx K mg) : OkP PP w K mg base 1 g_Tag_message ["self"] F_Tag_message := ok_P (T.z.get 9 (d := g_Tag_message) rfl) sc_Tag_message fun cdv A outer s H E hr tk pp => by
  have nd := sc_Tag_message.nd
  exact (mss_one (ms_ret (m_ix (ix_M hr) (m_fld (m_var 0) T.k_Tag T.n_Tag_held) m_int)))
abbrev N_Tag_label : List Str := ["self"]
theorem sc_Tag_label : FnScope N_Tag_label ["self"] (defScope s_Tag_label) := ⟨rfl, rfl, rfl, by decide +kernel, rfl, by decide +kernel, by decide +kernel⟩
theorem bp_Tag_label {K : PySem.W.Frag} : BP K g_Tag_label ["self"] := fun fd F => FunD.bindsN F fun _ _ _ _ _ _ us hl => match us, hl with | [_], _ => rfl
theorem okp_Tag_label (T : Ctx K mg) : OkP PP w K mg base 1 g_Tag_label ["self"] F_Tag_label := ok_P (T.z.get 8 (d := g_Tag_label) rfl) sc_Tag_label fun cdv A outer s H E hr tk pp => by
  have nd := sc_Tag_label.nd
  exact (mss_one (ms_ret (m_ix (ix_M hr) (m_fld (m_var 0) T.k_Tag T.n_Tag_held) m_int)))
abbrev N_Tag_target : List Str := ["self"]
theorem sc_Tag_target : FnScope N_Tag_target ["self"] (defScope s_Tag_target) := ⟨rfl, rfl, rfl, by decide +kernel, rfl, by decide +kernel, by decide +kernel⟩
theorem bp_Tag_target {K : PySem.W.Frag} : BP K g_Tag_target ["self"] := fun fd F => FunD.bindsN F fun _ _ _ _ _ _ us hl => match us, hl with | [_], _ => rfl
theorem okp_Tag_target (T : Ctx K mg) : OkP PP w K mg base 1 g_Tag_target ["self"] F_Tag_target := ok_P (T.z.get 7 (d := g_Tag_target) rfl) sc_Tag_target fun cdv A outer s H E hr tk pp => by
  have nd := sc_Tag_target.nd
  exact (mss_one (ms_ret (m_ix (ix_M hr) (m_fld (m_var 0) T.k_Tag T.n_Tag_held) m_int)))
abbrev N_encode : List Str := ["thing", "text"]
theorem sc_encode : FnScope N_encode ["thing"] (defScope s_encode) := ⟨rfl, rfl, rfl, by decide +kernel, rfl, by decide +kernel, by decide +kernel⟩
theorem bn_encode {K : PySem.W.Frag} : BN K d_encode ["thing"] := fun fd F => FunD.bindsN F fun _ _ _ _ _ _ us hl => match us, hl with | [_], _ => rfl
theorem kb_encode_1 {K : PySem.W.Frag} : KB K d_encode ["thing"] 1 [] (fun ms _ => ms) := bn_encode.kb
theorem ok_encode (T : Ctx K mg) : OkM PP w K mg base 4 d_encode ["thing"] F_encode := ok_M (T.c.def_ 40 (d := d_encode) rfl) sc_encode fun cdv A outer s H E hr tk pp => by
  have nd := sc_encode.nd
  exact (mss_cons (ms_if (mt_not (mt_val (c_call (ok_is_object T) kb_is_object_1 (hr.mono (by decide)) T.g_is_object tk (am_p (ma_cons (m_var 0) ma_nil)))))
      (mss_one (ms_raise (c := "BadName") rfl tk (mkr_BadName T) (hr.mono (by decide)) T.g_BadName m_str rk_BadName))
      mss_nil)
    (mss_cons (ms_if (mt_val (m_isiG T.kit T.f_isinstance (ma_cons (m_var 0) (ma_cons (m_glo T.g_Blob) ma_nil))))
      (mss_one (ms_set (i := 1) nd (m_op op_addM m_str (c_prop (C := "Blob") (okp_Blob_text T) bp_Blob_text rfl (hr.mono (by decide)) T.k_Blob (T.prop 0) (m_var 0)))))
      (mss_one (ms_if (mt_val (m_isiG T.kit T.f_isinstance (ma_cons (m_var 0) (ma_cons (m_glo T.g_Tree) ma_nil))))
        (mss_one (ms_set (i := 1) nd (c_call (ok_encode_tree T) kb_encode_tree_1 (hr.mono (by decide)) T.g_encode_tree tk (am_p (ma_cons (m_var 0) ma_nil)))))
        (mss_one (ms_if (mt_val (m_isiG T.kit T.f_isinstance (ma_cons (m_var 0) (ma_cons (m_glo T.g_Commit) ma_nil))))
          (mss_one (ms_set (i := 1) nd (c_call (ok_encode_commit T) kb_encode_commit_1 (hr.mono (by decide)) T.g_encode_commit tk (am_p (ma_cons (m_var 0) ma_nil)))))
          (mss_one (ms_set (i := 1) nd (m_js (fs := [(eC (.str "tag\ntarget ")), (eFmt (eProp "Tag" F_Tag_target (eVar 0))), (eC (.str "\nlabel ")), (eFmt (eProp "Tag" F_Tag_label (eVar 0))), (eC (.str "\n\n")), (eFmt (eProp "Tag" F_Tag_message (eVar 0)))]) (.cons m_str (.cons (m_fmt (c_prop (C := "Tag") (okp_Tag_target T) bp_Tag_target rfl (hr.mono (by decide)) T.k_Tag (T.prop 7) (m_var 0))) (.cons m_str (.cons (m_fmt (c_prop (C := "Tag") (okp_Tag_label T) bp_Tag_label rfl (hr.mono (by decide)) T.k_Tag (T.prop 8) (m_var 0))) (.cons m_str (.cons (m_fmt (c_prop (C := "Tag") (okp_Tag_message T) bp_Tag_message rfl (hr.mono (by decide)) T.k_Tag (T.prop 9) (m_var 0))) .nil))))))))))))))
    (mss_one (ms_ret (m_encode (m_var 1))))))
abbrev N_id_of : List Str := ["thing", "short"]
theorem sc_id_of : FnScope N_id_of ["thing", "short"] (defScope s_id_of) := ⟨rfl, rfl, rfl, by decide +kernel, rfl, by decide +kernel, by decide +kernel⟩
theorem kb_id_of_1_short {K : PySem.W.Frag} : KB K d_id_of ["thing", "short"] 1 ["short"] (gkw [none] [0]) := fun fd F => by
  obtain ⟨mv, B⟩ := FunD.kbinds0 (ps := ["thing", "short"]) F 1 ["short"] [] (fun us _ ws => us ++ ws) (by intro h; cases h) (by intro q h; cases h) (fun r _ r2 => r.append r2) fun _ _ _ _ _ _ us mv ws h1 h2 h3 => match us, h1, mv, h2, ws, h3 with | [_], _, [], _, [_], _ => rfl
  refine kbm_kw ⟨_, B⟩ fun {ι H ms zs vs ws} h1 h2 r1 r2 => ?_
  match zs, h2, r2 with
  | [_], _, .cons a .nil => exact ⟨r1.append (.cons a .nil), by rw [List.length_append, ← r1.length, h1]; rfl⟩
theorem kb_id_of_1 {K : PySem.W.Frag} : KB K d_id_of ["thing", "short"] 1 [] (fun ms _ => ms ++ [.bl false]) := fun fd F => kbm_dfl (FunD.binds0 (ps := ["thing", "short"]) F 1 (by intro h; cases h) rfl fun _ _ _ _ _ _ us ks h1 h2 => match us, h1, ks, h2 with | [_], _, [_], _ => ⟨_, _, _, _, _, _, rfl, rfl, rfl⟩) (fun _ _ => (.cons (.bl _) .nil)) rfl
theorem ok_id_of (T : Ctx K mg) : OkM PP w K mg base 5 d_id_of ["thing", "short"] F_id_of := ok_M (T.c.def_ 42 (d := d_id_of) rfl) sc_id_of fun cdv A outer s H E hr tk pp => by
  have nd := sc_id_of.nd
  exact (mss_one (ms_ret (c_call (ok_sum_of T) kb_sum_of_1_short (hr.mono (by decide)) T.g_sum_of tk (am_pk (ma_cons (c_call (ok_encode T) kb_encode_1 (hr.mono (by decide)) T.g_encode tk (am_p (ma_cons (m_var 0) ma_nil))) ma_nil) (mk_cons (m_var 1) mk_nil)))))
abbrev N_Blob___eq__ : List Str := ["self", "other"]
theorem sc_Blob___eq__ : FnScope N_Blob___eq__ ["self", "other"] (defScope s_Blob___eq__) := ⟨rfl, rfl, rfl, by decide +kernel, rfl, by decide +kernel, by decide +kernel⟩
theorem bn_Blob___eq__ {K : PySem.W.Frag} : BN K d_Blob___eq__ ["self", "other"] := fun fd F => FunD.bindsN F fun _ _ _ _ _ _ us hl => match us, hl with | [_, _], _ => rfl
theorem ok_Blob___eq__ (T : Ctx K mg) : OkM PP w K mg base 1 d_Blob___eq__ ["self", "other"] F_Blob___eq__ := ok_M (T.c.def_ 11 (d := d_Blob___eq__) rfl) sc_Blob___eq__ fun cdv A outer s H E hr tk pp => by
  have nd := sc_Blob___eq__.nd
  exact (mss_one (ms_ret (m_and (m_isiG T.kit T.f_isinstance (ma_cons (m_var 1) (ma_cons (m_glo T.g_Blob) ma_nil))) (m_one (m_cmp (op_eqM hr) (m_fld (m_var 0) T.k_Blob T.n_Blob_held) (m_fld (m_var 1) T.k_Blob T.n_Blob_held))))))
abbrev N_Tree___eq__ : List Str := ["self", "other"]
theorem sc_Tree___eq__ : FnScope N_Tree___eq__ ["self", "other"] (defScope s_Tree___eq__) := ⟨rfl, rfl, rfl, by decide +kernel, rfl, by decide +kernel, by decide +kernel⟩
theorem bn_Tree___eq__ {K : PySem.W.Frag} : BN K d_Tree___eq__ ["self", "other"] := fun fd F => FunD.bindsN F fun _ _ _ _ _ _ us hl => match us, hl with | [_, _], _ => rfl
theorem ok_Tree___eq__ (T : Ctx K mg) : OkM PP w K mg base 1 d_Tree___eq__ ["self", "other"] F_Tree___eq__ := ok_M (T.c.def_ 14 (d := d_Tree___eq__) rfl) sc_Tree___eq__ fun cdv A outer s H E hr tk pp => by
  have nd := sc_Tree___eq__.nd
  exact (mss_one (ms_ret (m_and (m_isiG T.kit T.f_isinstance (ma_cons (m_var 1) (ma_cons (m_glo T.g_Tree) ma_nil))) (m_one (m_cmp (op_eqM hr) (m_fld (m_var 0) T.k_Tree T.n_Tree_held) (m_fld (m_var 1) T.k_Tree T.n_Tree_held))))))
abbrev N_Commit___eq__ : List Str := ["self", "other"]
theorem sc_Commit___eq__ : FnScope N_Commit___eq__ ["self", "other"] (defScope s_Commit___eq__) := ⟨rfl, rfl, rfl, by decide +kernel, rfl, by decide +kernel, by decide +kernel⟩
theorem bn_Commit___eq__ {K : PySem.W.Frag} : BN K d_Commit___eq__ ["self", "other"] := fun fd F => FunD.bindsN F fun _ _ _ _ _ _ us hl => match us, hl with | [_, _], _ => rfl
theorem ok_Commit___eq__ (T : Ctx K mg) : OkM PP w K mg base 1 d_Commit___eq__ ["self", "other"] F_Commit___eq__ := ok_M (T.c.def_ 17 (d := d_Commit___eq__) rfl) sc_Commit___eq__ fun cdv A outer s H E hr tk pp => by
  have nd := sc_Commit___eq__.nd
  exact (mss_one (ms_ret (m_and (m_isiG T.kit T.f_isinstance (ma_cons (m_var 1) (ma_cons (m_glo T.g_Commit) ma_nil))) (m_one (m_cmp (op_eqM hr) (m_fld (m_var 0) T.k_Commit T.n_Commit_held) (m_fld (m_var 1) T.k_Commit T.n_Commit_held))))))
abbrev N_Tag___eq__ : List Str := ["self", "other"]
theorem sc_Tag___eq__ : FnScope N_Tag___eq__ ["self", "other"] (defScope s_Tag___eq__) := ⟨rfl, rfl, rfl, by decide +kernel, rfl, by decide +kernel, by decide +kernel⟩
theorem bn_Tag___eq__ {K : PySem.W.Frag} : BN K d_Tag___eq__ ["self", "other"] := fun fd F => FunD.bindsN F fun _ _ _ _ _ _ us hl => match us, hl with | [_, _], _ => rfl
theorem ok_Tag___eq__ (T : Ctx K mg) : OkM PP w K mg base 1 d_Tag___eq__ ["self", "other"] F_Tag___eq__ := ok_M (T.c.def_ 19 (d := d_Tag___eq__) rfl) sc_Tag___eq__ fun cdv A outer s H E hr tk pp => by
  have nd := sc_Tag___eq__.nd
  exact (mss_one (ms_ret (m_and (m_isiG T.kit T.f_isinstance (ma_cons (m_var 1) (ma_cons (m_glo T.g_Tag) ma_nil))) (m_one (m_cmp (op_eqM hr) (m_fld (m_var 0) T.k_Tag T.n_Tag_held) (m_fld (m_var 1) T.k_Tag T.n_Tag_held))))))
theorem eqt {X : Cx} (T : Ctx X.K X.mg) (h : X.prog = PP) : EqT X own_ 1 eq_T := by
  obtain ⟨⟩ := X
  cases h
  exact (eqT_cons (C := "Blob") (by decide) (eq_M (ok_Blob___eq__ T) bn_Blob___eq__ rfl T.m_Blob___eq__ (by decide)) (T.nem (by decide)) (eqT_cons (C := "Tree") (by decide) (eq_M (ok_Tree___eq__ T) bn_Tree___eq__ rfl T.m_Tree___eq__ (by decide)) (T.nem (by decide)) (eqT_cons (C := "Commit") (by decide) (eq_M (ok_Commit___eq__ T) bn_Commit___eq__ rfl T.m_Commit___eq__ (by decide)) (T.nem (by decide)) (eqT_cons (C := "Tag") (by decide) (eq_M (ok_Tag___eq__ T) bn_Tag___eq__ rfl T.m_Tag___eq__ (by decide)) (T.nem (by decide)) eqT_nil))))
abbrev N_Store_put : List Str := ["self", "thing", "name"]
theorem sc_Store_put : FnScope N_Store_put ["self", "thing"] (defScope s_Store_put) := ⟨rfl, rfl, rfl, by decide +kernel, rfl, by decide +kernel, by decide +kernel⟩
theorem bn_Store_put {K : PySem.W.Frag} : BN K d_Store_put ["self", "thing"] := fun fd F => FunD.bindsN F fun _ _ _ _ _ _ us hl => match us, hl with | [_, _], _ => rfl
theorem kb_Store_put_2 {K : PySem.W.Frag} : KB K d_Store_put ["self", "thing"] 2 [] (fun ms _ => ms) := bn_Store_put.kb
theorem ok_Store_put (T : Ctx K mg) : OkM PP w K mg base 6 d_Store_put ["self", "thing"] F_Store_put := ok_M (T.c.def_ 44 (d := d_Store_put) rfl) sc_Store_put fun cdv A outer s H E hr tk pp => by
  have nd := sc_Store_put.nd
  exact (mss_cons (ms_if (mt_not (mt_val (c_call (ok_is_object T) kb_is_object_1 (hr.mono (by decide)) T.g_is_object tk (am_p (ma_cons (m_var 1) ma_nil)))))
      (mss_one (ms_raise (c := "BadName") rfl tk (mkr_BadName T) (hr.mono (by decide)) T.g_BadName m_str rk_BadName))
      mss_nil)
    (mss_cons (ms_set (i := 2) nd (c_call (ok_id_of T) kb_id_of_1_short (hr.mono (by decide)) T.g_id_of tk (am_pk (ma_cons (m_var 1) ma_nil) (mk_cons (m_fld (m_var 0) T.k_Store T.n_Store_short) mk_nil))))
    (mss_cons (ms_if (mt_cmp (op_neG T.kit (eqt T rfl) (hr.mono (by decide)) (op_neM hr)) (m_get2 hr (m_fld (m_var 0) T.k_Store T.n_Store_kept) (m_var 2) (m_var 1)) (m_var 1))
      (mss_one (ms_raise (c := "Clash") rfl tk (mkr_Clash T) (hr.mono (by decide)) T.g_Clash (m_var 2) rk_Clash))
      mss_nil)
    (mss_cons (ms_sub hr (m_var 1) (m_fld (m_var 0) T.k_Store T.n_Store_kept) (m_var 2))
    (mss_one (ms_ret (m_var 2)))))))
abbrev N_has_only : List Str := ["text", "signs", "sign"]
theorem sc_has_only : FnScope N_has_only ["text", "signs"] (defScope s_has_only) := ⟨rfl, rfl, rfl, by decide +kernel, rfl, by decide +kernel, by decide +kernel⟩
theorem bn_has_only {K : PySem.W.Frag} : BN K d_has_only ["text", "signs"] := fun fd F => FunD.bindsN F fun _ _ _ _ _ _ us hl => match us, hl with | [_, _], _ => rfl
theorem kb_has_only_2 {K : PySem.W.Frag} : KB K d_has_only ["text", "signs"] 2 [] (fun ms _ => ms) := bn_has_only.kb
theorem ok_has_only (T : Ctx K mg) : OkM PP w K mg base 1 d_has_only ["text", "signs"] F_has_only := ok_M (T.c.def_ 4 (d := d_has_only) rfl) sc_has_only fun cdv A outer s H E hr tk pp => by
  have nd := sc_has_only.nd
  exact (mss_one (ms_ret (m_all rfl T.f_all (ma_cons (m_frz (ml_lk (ml_lc (own := [("sign", 2)]) (is := [2]) (g := gNm) rfl nd (mi_any (m_var 0)) (blkOk_by (own := [("sign", 2)]) (N := N_has_only) (sc := defScope s_has_only) (by decide +kernel)) (by decide) (fun _ _ _ _ _ => (tg_name (i := 2) nd)) (fun _ _ _ _ _ => mts_nil) (fun _ _ _ _ _ => (m_cmp (op_inM hr) (m_var 2) (m_var 1)))))) ma_nil))))
abbrev N_is_id : List Str := ["thing"]
theorem sc_is_id : FnScope N_is_id ["thing"] (defScope s_is_id) := ⟨rfl, rfl, rfl, by decide +kernel, rfl, by decide +kernel, by decide +kernel⟩
theorem bn_is_id {K : PySem.W.Frag} : BN K d_is_id ["thing"] := fun fd F => FunD.bindsN F fun _ _ _ _ _ _ us hl => match us, hl with | [_], _ => rfl
theorem kb_is_id_1 {K : PySem.W.Frag} : KB K d_is_id ["thing"] 1 [] (fun ms _ => ms) := bn_is_id.kb
theorem ok_is_id (T : Ctx K mg) : OkM PP w K mg base 2 d_is_id ["thing"] F_is_id := ok_M (T.c.def_ 5 (d := d_is_id) rfl) sc_is_id fun cdv A outer s H E hr tk pp => by
  have nd := sc_is_id.nd
  exact (mss_one (ms_ret (m_and (m_isiG T.kit T.f_isinstance (ma_cons (m_var 0) (ma_cons (m_ty T.f_str bt_str) ma_nil))) (m_and (m_cmp (op_eqM hr) (m_len T.f_len (ma_cons (m_var 0) ma_nil)) (m_c (T.c_ID_LENGTH rfl) fun _ _ => .int _)) (m_one (c_call (ok_has_only T) kb_has_only_2 (hr.mono (by decide)) T.g_has_only tk (am_p (ma_cons (m_var 0) (ma_cons (m_c (T.c_HEX rfl) fun _ _ => .str _) ma_nil)))))))))
abbrev N_is_entry : List Str := ["thing"]
theorem sc_is_entry : FnScope N_is_entry ["thing"] (defScope s_is_entry) := ⟨rfl, rfl, rfl, by decide +kernel, rfl, by decide +kernel, by decide +kernel⟩
theorem bn_is_entry {K : PySem.W.Frag} : BN K d_is_entry ["thing"] := fun fd F => FunD.bindsN F fun _ _ _ _ _ _ us hl => match us, hl with | [_], _ => rfl
theorem kb_is_entry_1 {K : PySem.W.Frag} : KB K d_is_entry ["thing"] 1 [] (fun ms _ => ms) := bn_is_entry.kb
theorem ok_is_entry (T : Ctx K mg) : OkM PP w K mg base 3 d_is_entry ["thing"] F_is_entry := ok_M (T.c.def_ 12 (d := d_is_entry) rfl) sc_is_entry fun cdv A outer s H E hr tk pp => by
  have nd := sc_is_entry.nd
  exact (mss_cons (ms_if (PW.pt (mw_or (mt_not (mt_val (m_isiG T.kit T.f_isinstance (ma_cons (m_var 0) (ma_cons (m_ty T.f_tuple bt_tuple) ma_nil))))) (mw_or1 (mt_cmp (op_neM hr) (m_len T.f_len (ma_cons (m_var 0) ma_nil)) m_int))))
      (mss_one (ms_ret m_bl))
      mss_nil)
    (mss_one (ms_ret (m_and (m_isiG T.kit T.f_isinstance (ma_cons (m_ix (ix_M hr) (m_var 0) m_int) (ma_cons (m_ty T.f_str bt_str) ma_nil))) (m_and (m_cmp (op_inM hr) (m_ix (ix_M hr) (m_var 0) m_int) (T.t_KINDS rfl)) (m_one (c_call (ok_is_id T) kb_is_id_1 (hr.mono (by decide)) T.g_is_id tk (am_p (ma_cons (m_ix (ix_M hr) (m_var 0) m_int) ma_nil)))))))))
abbrev N_is_segment : List Str := ["thing"]
theorem sc_is_segment : FnScope N_is_segment ["thing"] (defScope s_is_segment) := ⟨rfl, rfl, rfl, by decide +kernel, rfl, by decide +kernel, by decide +kernel⟩
theorem bn_is_segment {K : PySem.W.Frag} : BN K d_is_segment ["thing"] := fun fd F => FunD.bindsN F fun _ _ _ _ _ _ us hl => match us, hl with | [_], _ => rfl
theorem kb_is_segment_1 {K : PySem.W.Frag} : KB K d_is_segment ["thing"] 1 [] (fun ms _ => ms) := bn_is_segment.kb
theorem ok_is_segment (T : Ctx K mg) : OkM PP w K mg base 2 d_is_segment ["thing"] F_is_segment := ok_M (T.c.def_ 6 (d := d_is_segment) rfl) sc_is_segment fun cdv A outer s H E hr tk pp => by
  have nd := sc_is_segment.nd
  exact (mss_cons (ms_if (PW.pt (mw_or (mt_not (mt_val (m_isiG T.kit T.f_isinstance (ma_cons (m_var 0) (ma_cons (m_ty T.f_str bt_str) ma_nil))))) (mw_or1 (mt_not (mt_chain op_leM op_leM m_int (m_len T.f_len (ma_cons (m_var 0) ma_nil)) (m_c (T.c_MOST_SEGMENT rfl) fun _ _ => .int _))))))
      (mss_one (ms_ret m_bl))
      mss_nil)
    (mss_one (ms_ret (m_and (c_call (ok_has_only T) kb_has_only_2 (hr.mono (by decide)) T.g_has_only tk (am_p (ma_cons (m_var 0) (ma_cons (m_op op_addM (m_op op_addM (m_c (T.c_SMALL rfl) fun _ _ => .str _) (m_c (T.c_DIGITS rfl) fun _ _ => .str _)) m_str) ma_nil)))) (m_and (m_cmp (op_neM hr) (m_var 0) m_str) (m_one (m_cmp (op_notInM hr) m_str (m_var 0))))))))
abbrev N_Tree___init__ : List Str := ["self", "entries", "name", "entry"]
theorem sc_Tree___init__ : FnScope N_Tree___init__ ["self", "entries"] (defScope s_Tree___init__) := ⟨rfl, rfl, rfl, by decide +kernel, rfl, by decide +kernel, by decide +kernel⟩
theorem bn_Tree___init__ {K : PySem.W.Frag} : BN K d_Tree___init__ ["self", "entries"] := fun fd F => FunD.bindsN F fun _ _ _ _ _ _ us hl => match us, hl with | [_, _], _ => rfl
theorem kb_Tree___init___2 {K : PySem.W.Frag} : KB K d_Tree___init__ ["self", "entries"] 2 [] (fun ms _ => ms) := bn_Tree___init__.kb
theorem ok_Tree___init__ (T : Ctx K mg) : OkM PP w K mg base 4 d_Tree___init__ ["self", "entries"] F_Tree___init__ := ok_M (T.c.def_ 13 (d := d_Tree___init__) rfl) sc_Tree___init__ fun cdv A outer s H E hr tk pp => by
  have nd := sc_Tree___init__.nd
  exact (mss_cons (ms_if (PW.pt (mw_or (mt_not (mt_val (m_isiG T.kit T.f_isinstance (ma_cons (m_var 1) (ma_cons (m_ty T.f_dict bt_dict) ma_nil))))) (mw_or1 (mt_cmp op_gtM (m_len T.f_len (ma_cons (m_var 1) ma_nil)) (m_c (T.c_MOST_ENTRIES rfl) fun _ _ => .int _)))))
      (mss_one (ms_raise (c := "BadName") rfl tk (mkr_BadName T) (hr.mono (by decide)) T.g_BadName m_str rk_BadName))
      mss_nil)
    (mss_cons (ms_if (mt_not (mt_val (m_all rfl T.f_all (ma_cons (m_frz (ml_lk (ml_lc (own := [("name", 2), ("entry", 3)]) (is := [2, 3]) (g := (gTupM 2 (gConsM gNm (gConsM gNm gNilM)))) rfl nd (mi_items (m_var 1)) (blkOk_by (own := [("name", 2), ("entry", 3)]) (N := N_Tree___init__) (sc := defScope s_Tree___init__) (by decide +kernel)) (by decide) (fun _ _ _ _ _ => (tg_tup rfl (tgs_cons (tg_name (i := 2) nd) (tgs_cons (tg_name (i := 3) nd) tgs_nil)))) (fun _ _ _ _ _ => mts_nil) (fun _ _ _ _ _ => (m_and (c_call (ok_is_segment T) kb_is_segment_1 (hr.mono (by decide)) T.g_is_segment tk0 (am_p (ma_cons (m_var 2) ma_nil))) (m_one (c_call (ok_is_entry T) kb_is_entry_1 (hr.mono (by decide)) T.g_is_entry tk0 (am_p (ma_cons (m_var 3) ma_nil))))))))) ma_nil))))
      (mss_one (ms_raise (c := "BadName") rfl tk (mkr_BadName T) (hr.mono (by decide)) T.g_BadName m_str rk_BadName))
      mss_nil)
    (mss_one (ms_fld (m_var 0) (m_tuple T.f_tuple (ma_cons (m_frz (ml_lc (own := [("name", 2)]) (is := [2]) (g := gNm) rfl nd (mi_frz (m_frz (ml_sorted rfl T.f_sorted (ma_cons (m_var 1) ma_nil)))) (blkOk_by (own := [("name", 2)]) (N := N_Tree___init__) (sc := defScope s_Tree___init__) (by decide +kernel)) (by decide) (fun _ _ _ _ _ => (tg_name (i := 2) nd)) (fun _ _ _ _ _ => mts_nil) (fun _ _ _ _ _ => (m_tup (ma_cons (m_var 2) (ma_cons (m_ix (ix_M hr) (m_ix (ix_M hr) (m_var 1) (m_var 2)) m_int) (ma_cons (m_ix (ix_M hr) (m_ix (ix_M hr) (m_var 1) (m_var 2)) m_int) ma_nil))))))) ma_nil)) T.k_Tree T.n_Tree_held))))
abbrev N__law_draw : List Str := ["_law_source", "_law_size", "_law_digit", "_law_number"]
theorem sc__law_draw : FnScope N__law_draw ["_law_source", "_law_size"] (defScope s__law_draw) := ⟨rfl, rfl, rfl, by decide +kernel, rfl, by decide +kernel, by decide +kernel⟩
theorem bn__law_draw {K : PySem.W.Frag} : BN K d__law_draw ["_law_source", "_law_size"] := fun fd F => FunD.bindsN F fun _ _ _ _ _ _ us hl => match us, hl with | [_, _], _ => rfl
theorem kb__law_draw_2 {K : PySem.W.Frag} : KB K d__law_draw ["_law_source", "_law_size"] 2 [] (fun ms _ => ms) := bn__law_draw.kb
theorem ok__law_draw (T : Ctx K mg) : OkM PP w K mg base 1 d__law_draw ["_law_source", "_law_size"] F__law_draw := ok_M (T.c.def_ 50 (d := d__law_draw) rfl) sc__law_draw fun cdv A outer s H E hr tk pp => by
  have nd := sc__law_draw.nd
  exact (mss_cons (ms_if (mt_cmp op_gtM (m_ix (ix_M hr) (m_var 0) m_int) m_int)
      (mss_cons (ms_set (i := 2) nd (m_op op_modM (m_int1 T.f_int (ma_cons (m_ix (ix_M hr) (m_var 0) m_int) ma_nil)) (m_var 1)))
      (mss_cons (ms_sub hr (m_op op_fdivM (m_ix (ix_M hr) (m_var 0) m_int) (m_var 1)) (m_var 0) m_int)
      (mss_one (ms_ret (m_var 2)))))
      mss_nil)
    (mss_cons (ms_sub hr (m_op op_addM (m_ix (ix_M hr) (m_var 0) m_int) m_int) (m_var 0) m_int)
    (mss_cons (ms_set (i := 3) nd (m_op op_modM (m_int1 T.f_int (ma_cons (m_op op_mulM (m_op op_addM (m_op op_addM (m_ix (ix_M hr) (m_var 0) m_int) (m_op op_mulM m_int (m_ix (ix_M hr) (m_var 0) m_int))) m_int) m_int) ma_nil)) m_int))
    (mss_cons (ms_set (i := 3) nd (m_op op_modM (m_int1 T.f_int (ma_cons (m_op op_mulM (m_var 3) (m_op op_addM (m_op op_fdivM (m_var 3) m_int) m_int)) ma_nil)) m_int))
    (mss_one (ms_ret (m_op op_modM (m_int1 T.f_int (ma_cons (m_op op_modM (m_int1 T.f_int (ma_cons (m_op op_mulM (m_var 3) (m_op op_addM (m_op op_fdivM (m_var 3) m_int) m_int)) ma_nil)) m_int) ma_nil)) (m_var 1))))))))
abbrev N__law_shuffled : List Str := ["_law_source", "_law_items", "_law_left", "_law_found"]
theorem sc__law_shuffled : FnScope N__law_shuffled ["_law_source", "_law_items"] (defScope s__law_shuffled) := ⟨rfl, rfl, rfl, by decide +kernel, rfl, by decide +kernel, by decide +kernel⟩
theorem bn__law_shuffled {K : PySem.W.Frag} : BN K d__law_shuffled ["_law_source", "_law_items"] := fun fd F => FunD.bindsN F fun _ _ _ _ _ _ us hl => match us, hl with | [_, _], _ => rfl
theorem kb__law_shuffled_2 {K : PySem.W.Frag} : KB K d__law_shuffled ["_law_source", "_law_items"] 2 [] (fun ms _ => ms) := bn__law_shuffled.kb
theorem ok__law_shuffled (T : Ctx K mg) : OkM PP w K mg base 2 d__law_shuffled ["_law_source", "_law_items"] F__law_shuffled := ok_M (T.c.def_ 51 (d := d__law_shuffled) rfl) sc__law_shuffled fun cdv A outer s H E hr tk pp => by
  have nd := sc__law_shuffled.nd
  exact (mss_cons (ms_par (i := 2) (j := 3) rfl nd (ma_cons (m_ref (ml_list T.f_list (ma_cons (m_var 1) ma_nil))) (ma_cons (m_ref (ml_lst ma_nil)) ma_nil)))
    (mss_cons (ms_while pp (mt_cmp (op_neM hr) (m_var 2) (m_frz (ml_lst ma_nil)))
      (mss_one (ms_expr (m_append (m_var 3) (m_popAt (m_var 2) (c_call (ok__law_draw T) kb__law_draw_2 (hr.mono (by decide)) T.g__law_draw tk (am_p (ma_cons (m_var 0) (ma_cons (m_len T.f_len (ma_cons (m_var 2) ma_nil)) ma_nil)))))))))
    (mss_one (ms_ret (m_var 3)))))
abbrev N_are_ids : List Str := ["thing", "one"]
theorem sc_are_ids : FnScope N_are_ids ["thing"] (defScope s_are_ids) := ⟨rfl, rfl, rfl, by decide +kernel, rfl, by decide +kernel, by decide +kernel⟩
theorem bn_are_ids {K : PySem.W.Frag} : BN K d_are_ids ["thing"] := fun fd F => FunD.bindsN F fun _ _ _ _ _ _ us hl => match us, hl with | [_], _ => rfl
theorem kb_are_ids_1 {K : PySem.W.Frag} : KB K d_are_ids ["thing"] 1 [] (fun ms _ => ms) := bn_are_ids.kb
theorem ok_are_ids (T : Ctx K mg) : OkM PP w K mg base 3 d_are_ids ["thing"] F_are_ids := ok_M (T.c.def_ 9 (d := d_are_ids) rfl) sc_are_ids fun cdv A outer s H E hr tk pp => by
  have nd := sc_are_ids.nd
  exact (mss_one (ms_ret (m_and (m_isiG T.kit T.f_isinstance (ma_cons (m_var 0) (ma_cons (m_ty T.f_tuple bt_tuple) ma_nil))) (m_one (m_all rfl T.f_all (ma_cons (m_frz (ml_lc (own := [("one", 1)]) (is := [1]) (g := gNm) rfl nd (mi_tup (m_var 0)) (blkOk_by (own := [("one", 1)]) (N := N_are_ids) (sc := defScope s_are_ids) (by decide +kernel)) (by decide) (fun _ _ _ _ _ => (tg_name (i := 1) nd)) (fun _ _ _ _ _ => mts_nil) (fun _ _ _ _ _ => (c_call (ok_is_id T) kb_is_id_1 (hr.mono (by decide)) T.g_is_id tk0 (am_p (ma_cons (m_var 1) ma_nil)))))) ma_nil))))))
abbrev N_are_parents : List Str := ["thing", "one"]
theorem sc_are_parents : FnScope N_are_parents ["thing"] (defScope s_are_parents) := ⟨rfl, rfl, rfl, by decide +kernel, rfl, by decide +kernel, by decide +kernel⟩
theorem bn_are_parents {K : PySem.W.Frag} : BN K d_are_parents ["thing"] := fun fd F => FunD.bindsN F fun _ _ _ _ _ _ us hl => match us, hl with | [_], _ => rfl
theorem kb_are_parents_1 {K : PySem.W.Frag} : KB K d_are_parents ["thing"] 1 [] (fun ms _ => ms) := bn_are_parents.kb
theorem ok_are_parents (T : Ctx K mg) : OkM PP w K mg base 4 d_are_parents ["thing"] F_are_parents := ok_M (T.c.def_ 15 (d := d_are_parents) rfl) sc_are_parents fun cdv A outer s H E hr tk pp => by
  have nd := sc_are_parents.nd
  exact (mss_cons (ms_if (PW.pt (mw_or (mt_not (mt_val (c_call (ok_are_ids T) kb_are_ids_1 (hr.mono (by decide)) T.g_are_ids tk (am_p (ma_cons (m_var 0) ma_nil))))) (mw_or1 (mt_cmp op_gtM (m_len T.f_len (ma_cons (m_var 0) ma_nil)) (m_c (T.c_MOST_PARENTS rfl) fun _ _ => .int _)))))
      (mss_one (ms_ret m_bl))
      mss_nil)
    (mss_one (ms_ret (m_cmp (op_eqM hr) (m_lenSc (own := [("one", 1)]) (is := [1]) T.f_len rfl nd (mi_tup (m_var 0)) (blkOk_by (own := [("one", 1)]) (N := N_are_parents) (sc := defScope s_are_parents) (by decide +kernel)) (by decide) (fun _ _ _ _ _ => (tg_name (i := 1) nd)) (fun _ _ _ _ _ => mts_nil) (fun _ _ _ _ _ => (m_var 1))) (m_len T.f_len (ma_cons (m_var 0) ma_nil))))))
abbrev N_is_text : List Str := ["thing", "most", "sign"]
theorem sc_is_text : FnScope N_is_text ["thing", "most"] (defScope s_is_text) := ⟨rfl, rfl, rfl, by decide +kernel, rfl, by decide +kernel, by decide +kernel⟩
theorem kb_is_text_2 {K : PySem.W.Frag} : KB K d_is_text ["thing", "most"] 2 [] (fun ms _ => ms) := fun fd F => by
  obtain ⟨ds, r, B⟩ := FunD.binds1 (ps := ["thing", "most"]) F 2 1 (by intro h; cases h) rfl fun _ _ _ _ _ _ _ us its h1 h2 => match us, h1, its, h2 with | [_, _], _, [_], _ => ⟨_, rfl, rfl⟩
  cases r
  exact kbm_all B
theorem ok_is_text (T : Ctx K mg) : OkM PP w K mg base 1 d_is_text ["thing", "most"] F_is_text := ok_M (T.c.def_ 8 (d := d_is_text) rfl) sc_is_text fun cdv A outer s H E hr tk pp => by
  have nd := sc_is_text.nd
  exact (mss_cons (ms_if (PW.pt (mw_or (mt_not (mt_val (m_isiG T.kit T.f_isinstance (ma_cons (m_var 0) (ma_cons (m_ty T.f_str bt_str) ma_nil))))) (mw_or1 (mt_cmp op_gtM (m_len T.f_len (ma_cons (m_var 0) ma_nil)) (m_var 1)))))
      (mss_one (ms_ret m_bl))
      mss_nil)
    (mss_one (ms_ret (m_all rfl T.f_all (ma_cons (m_frz (ml_lk (ml_lc (own := [("sign", 2)]) (is := [2]) (g := gNm) rfl nd (mi_any (m_var 0)) (blkOk_by (own := [("sign", 2)]) (N := N_is_text) (sc := defScope s_is_text) (by decide +kernel)) (by decide) (fun _ _ _ _ _ => (tg_name (i := 2) nd)) (fun _ _ _ _ _ => mts_nil) (fun _ _ _ _ _ => (m_or (m_chain op_leM op_leM m_str (m_var 2) m_str) (m_one (m_cmp (op_eqM hr) (m_var 2) m_str))))))) ma_nil)))))
abbrev N_is_whole : List Str := ["thing"]
theorem sc_is_whole : FnScope N_is_whole ["thing"] (defScope s_is_whole) := ⟨rfl, rfl, rfl, by decide +kernel, rfl, by decide +kernel, by decide +kernel⟩
theorem bn_is_whole {K : PySem.W.Frag} : BN K d_is_whole ["thing"] := fun fd F => FunD.bindsN F fun _ _ _ _ _ _ us hl => match us, hl with | [_], _ => rfl
theorem kb_is_whole_1 {K : PySem.W.Frag} : KB K d_is_whole ["thing"] 1 [] (fun ms _ => ms) := bn_is_whole.kb
theorem ok_is_whole (T : Ctx K mg) : OkM PP w K mg base 1 d_is_whole ["thing"] F_is_whole := ok_M (T.c.def_ 1 (d := d_is_whole) rfl) sc_is_whole fun cdv A outer s H E hr tk pp => by
  have nd := sc_is_whole.nd
  exact (mss_one (ms_ret (m_and (m_isiG T.kit T.f_isinstance (ma_cons (m_var 0) (ma_cons (m_ty T.f_int bt_int) ma_nil))) (m_one (m_not (m_isiG T.kit T.f_isinstance (ma_cons (m_var 0) (ma_cons (m_ty T.f_bool bt_bool) ma_nil))))))))
abbrev N_is_count : List Str := ["thing", "least"]
theorem sc_is_count : FnScope N_is_count ["thing", "least"] (defScope s_is_count) := ⟨rfl, rfl, rfl, by decide +kernel, rfl, by decide +kernel, by decide +kernel⟩
theorem kb_is_count_1 {K : PySem.W.Frag} : KB K d_is_count ["thing", "least"] 1 [] (fun ms _ => ms ++ [.int 0]) := fun fd F => kbm_dfl (FunD.binds1 (ps := ["thing", "least"]) F 1 0 (by intro h; cases h) rfl fun _ _ _ _ _ _ _ us its h1 h2 => match us, h1, its, h2 with | [_], _, [_], _ => ⟨_, rfl, rfl⟩) (fun _ _ => (.cons (.int _) .nil)) rfl
theorem ok_is_count (T : Ctx K mg) : OkM PP w K mg base 2 d_is_count ["thing", "least"] F_is_count := ok_M (T.c.def_ 2 (d := d_is_count) rfl) sc_is_count fun cdv A outer s H E hr tk pp => by
  have nd := sc_is_count.nd
  exact (mss_one (ms_ret (m_and (c_call (ok_is_whole T) kb_is_whole_1 (hr.mono (by decide)) T.g_is_whole tk (am_p (ma_cons (m_var 0) ma_nil))) (m_one (m_cmp op_geM (m_var 0) (m_var 1))))))
abbrev N_is_time : List Str := ["thing"]
theorem sc_is_time : FnScope N_is_time ["thing"] (defScope s_is_time) := ⟨rfl, rfl, rfl, by decide +kernel, rfl, by decide +kernel, by decide +kernel⟩
theorem bn_is_time {K : PySem.W.Frag} : BN K d_is_time ["thing"] := fun fd F => FunD.bindsN F fun _ _ _ _ _ _ us hl => match us, hl with | [_], _ => rfl
theorem kb_is_time_1 {K : PySem.W.Frag} : KB K d_is_time ["thing"] 1 [] (fun ms _ => ms) := bn_is_time.kb
theorem ok_is_time (T : Ctx K mg) : OkM PP w K mg base 3 d_is_time ["thing"] F_is_time := ok_M (T.c.def_ 3 (d := d_is_time) rfl) sc_is_time fun cdv A outer s H E hr tk pp => by
  have nd := sc_is_time.nd
  exact (mss_one (ms_ret (m_and (c_call (ok_is_count T) kb_is_count_1 (hr.mono (by decide)) T.g_is_count tk (am_p (ma_cons (m_var 0) ma_nil))) (m_one (m_cmp op_leM (m_var 0) (m_c (T.c_MOST_TIME rfl) fun _ _ => .int _))))))
abbrev N_is_author : List Str := ["thing"]
theorem sc_is_author : FnScope N_is_author ["thing"] (defScope s_is_author) := ⟨rfl, rfl, rfl, by decide +kernel, rfl, by decide +kernel, by decide +kernel⟩
theorem bn_is_author {K : PySem.W.Frag} : BN K d_is_author ["thing"] := fun fd F => FunD.bindsN F fun _ _ _ _ _ _ us hl => match us, hl with | [_], _ => rfl
theorem kb_is_author_1 {K : PySem.W.Frag} : KB K d_is_author ["thing"] 1 [] (fun ms _ => ms) := bn_is_author.kb
theorem ok_is_author (T : Ctx K mg) : OkM PP w K mg base 2 d_is_author ["thing"] F_is_author := ok_M (T.c.def_ 7 (d := d_is_author) rfl) sc_is_author fun cdv A outer s H E hr tk pp => by
  have nd := sc_is_author.nd
  exact (mss_one (ms_ret (m_and (m_isiG T.kit T.f_isinstance (ma_cons (m_var 0) (ma_cons (m_ty T.f_str bt_str) ma_nil))) (m_and (m_chain op_leM op_leM m_int (m_len T.f_len (ma_cons (m_var 0) ma_nil)) (m_c (T.c_MOST_SEGMENT rfl) fun _ _ => .int _)) (m_one (c_call (ok_has_only T) kb_has_only_2 (hr.mono (by decide)) T.g_has_only tk (am_p (ma_cons (m_var 0) (ma_cons (m_c (T.c_SMALL rfl) fun _ _ => .str _) ma_nil)))))))))
abbrev N_Commit___init__ : List Str := ["self", "tree", "parents", "author", "time", "message"]
theorem sc_Commit___init__ : FnScope N_Commit___init__ ["self", "tree", "parents", "author", "time", "message"] (defScope s_Commit___init__) := ⟨rfl, rfl, rfl, by decide +kernel, rfl, by decide +kernel, by decide +kernel⟩
theorem kb_Commit___init___3_author_time_message {K : PySem.W.Frag} {mg : Str → Option Value} (T : Ctx K mg) : KB K d_Commit___init__ ["self", "tree", "parents", "author", "time", "message"] 3 ["author", "time", "message"] (fun ms zs => plan [.kw 0, .kw 1, .kw 2] ms [.tup []] [] zs) := fun fd F => kbm_plan (kb_d (ps := ["self", "tree", "parents", "author", "time", "message"]) F 3 ["author", "time", "message"] [.kw 0, .kw 1, .kw 2] (by intro h; cases h) fun _ _ _ _ _ _ _ us its ws h1 h2 h3 => match us, h1, its, h2, ws, h3 with | [_, _, _], _, [_], _, [_, _, _], _ => ⟨_, rfl, rfl⟩) (fun _ _ => (.cons (dflT_Commit___init___parents T) .nil)) (fun _ _ => .nil) (by decide) rfl
theorem ok_Commit___init__ (T : Ctx K mg) : OkM PP w K mg base 5 d_Commit___init__ ["self", "tree", "parents", "author", "time", "message"] F_Commit___init__ := ok_M (T.c.def_ 16 (d := d_Commit___init__) rfl) sc_Commit___init__ fun cdv A outer s H E hr tk pp => by
  have nd := sc_Commit___init__.nd
  exact (mss_cons (ms_if (PW.pt (mw_or (mt_not (mt_val (c_call (ok_is_id T) kb_is_id_1 (hr.mono (by decide)) T.g_is_id tk (am_p (ma_cons (m_var 1) ma_nil))))) (mw_or1 (mt_not (mt_val (c_call (ok_are_parents T) kb_are_parents_1 (hr.mono (by decide)) T.g_are_parents tk (am_p (ma_cons (m_var 2) ma_nil))))))))
      (mss_one (ms_raise (c := "BadName") rfl tk (mkr_BadName T) (hr.mono (by decide)) T.g_BadName m_str rk_BadName))
      mss_nil)
    (mss_cons (ms_if (PW.pt (mw_or (mt_not (mt_val (c_call (ok_is_author T) kb_is_author_1 (hr.mono (by decide)) T.g_is_author tk (am_p (ma_cons (m_var 3) ma_nil))))) (mw_or (mt_not (mt_val (c_call (ok_is_time T) kb_is_time_1 (hr.mono (by decide)) T.g_is_time tk (am_p (ma_cons (m_var 4) ma_nil))))) (mw_or1 (mt_not (mt_val (c_call (ok_is_text T) kb_is_text_2 (hr.mono (by decide)) T.g_is_text tk (am_p (ma_cons (m_var 5) (ma_cons (m_c (T.c_MOST_MESSAGE rfl) fun _ _ => .int _) ma_nil))))))))))
      (mss_one (ms_raise (c := "BadName") rfl tk (mkr_BadName T) (hr.mono (by decide)) T.g_BadName m_str rk_BadName))
      mss_nil)
    (mss_one (ms_fld (m_var 0) (m_tup (ma_cons (m_var 1) (ma_cons (m_var 2) (ma_cons (m_var 3) (ma_cons (m_var 4) (ma_cons (m_var 5) ma_nil)))))) T.k_Commit T.n_Commit_held))))
abbrev N_History___init__ : List Str := ["self", "store", "cut"]
theorem sc_History___init__ : FnScope N_History___init__ ["self", "store", "cut"] (defScope s_History___init__) := ⟨rfl, rfl, rfl, by decide +kernel, rfl, by decide +kernel, by decide +kernel⟩
theorem kb_History___init___2 {K : PySem.W.Frag} {mg : Str → Option Value} (T : Ctx K mg) : KB K d_History___init__ ["self", "store", "cut"] 2 [] (fun ms zs => plan [.kd 0] ms [] [.tup []] zs) := fun fd F => kbm_plan (kb_k (ps := ["self", "store", "cut"]) F 2 [] [("cut", .ref (Fk.kwdAt ("History", some "__init__") "cut" K))] [.kd 0] (by intro h; cases h) (fun q h => match q, h with | _, .head _ => (.head _)) fun _ _ _ _ _ _ us mv ws h1 h2 h3 => match us, h1, mv, h2, ws, h3 with | [_, _], _, [_], _, [], _ => ⟨_, _, _, _, _, _, rfl, rfl, rfl⟩) (fun _ _ => .nil) (fun _ _ => (.cons (dflT_History___init___cut T) .nil)) (by decide) rfl
theorem ok_History___init__ (T : Ctx K mg) : OkM PP w K mg base 4 d_History___init__ ["self", "store", "cut"] F_History___init__ := ok_M (T.c.def_ 22 (d := d_History___init__) rfl) sc_History___init__ fun cdv A outer s H E hr tk pp => by
  have nd := sc_History___init__.nd
  exact (mss_cons (ms_if (mt_not (mt_val (c_call (ok_are_ids T) kb_are_ids_1 (hr.mono (by decide)) T.g_are_ids tk (am_p (ma_cons (m_var 2) ma_nil)))))
      (mss_one (ms_raise (c := "BadName") rfl tk (mkr_BadName T) (hr.mono (by decide)) T.g_BadName m_str rk_BadName))
      mss_nil)
    (mss_cons (ms_fld (m_var 0) (m_var 1) T.k_History T.n_History_held)
    (mss_cons (ms_fld (m_var 0) (m_var 2) T.k_History T.n_History_ends)
    (mss_cons (ms_fld (m_var 0) m_dict0 T.k_History T.n_History_known)
    (mss_one (ms_fld (m_var 0) m_dict0 T.k_History T.n_History_depths))))))
abbrev N__law_history : List Str := ["_law_source", "_law_most", "_law_store", "_law_tree", "_law_facts", "_law_names", "_law_at", "_law_near", "_law_parents", "_law_time_here", "_law_made"]
theorem sc__law_history : FnScope N__law_history ["_law_source", "_law_most"] (defScope s__law_history) := ⟨rfl, rfl, rfl, by decide +kernel, rfl, by decide +kernel, by decide +kernel⟩
theorem bn__law_history {K : PySem.W.Frag} : BN K d__law_history ["_law_source", "_law_most"] := fun fd F => FunD.bindsN F fun _ _ _ _ _ _ us hl => match us, hl with | [_, _], _ => rfl
theorem kb__law_history_2 {K : PySem.W.Frag} : KB K d__law_history ["_law_source", "_law_most"] 2 [] (fun ms _ => ms) := bn__law_history.kb
theorem ok__law_history (T : Ctx K mg) : OkM PP w K mg base 7 d__law_history ["_law_source", "_law_most"] F__law_history := ok_M (T.c.def_ 52 (d := d__law_history) rfl) sc__law_history fun cdv A outer s H E hr tk pp => by
  have nd := sc__law_history.nd
  exact (mss_cons (ms_set (i := 2) nd (c_make (C := "Store") (ok_Store___init__ T) kb_Store___init___1 (hr.mono (by decide)) T.mk_Store T.g_Store tk am_n))
    (mss_cons (ms_set (i := 3) nd (c_meth (C := "Store") (ok_Store_put T) kb_Store_put_2 (hr.mono (by decide)) T.k_Store T.m_Store_put tk (m_var 2) (am_p (ma_cons (c_make (C := "Tree") (ok_Tree___init__ T) kb_Tree___init___2 (hr.mono (by decide)) T.mk_Tree T.g_Tree tk (am_p (ma_cons m_dict0 ma_nil))) ma_nil))))
    (mss_cons (ms_par (i := 4) (j := 5) rfl nd (ma_cons m_dict0 (ma_cons (m_ref (ml_lst ma_nil)) ma_nil)))
    (mss_cons (ms_for (is := [6]) pp rfl (mi_range1 T.f_range (ma_cons (m_op op_addM m_int (c_call (ok__law_draw T) kb__law_draw_2 (hr.mono (by decide)) T.g__law_draw tk (am_p (ma_cons (m_var 0) (ma_cons (m_var 1) ma_nil))))) ma_nil)) (tg_name (i := 6) nd)
      (mss_cons (ms_set (i := 7) nd (m_frz (ml_slice (m_var 5) (mo_some (m_neg (m_op op_addM m_int (c_call (ok__law_draw T) kb__law_draw_2 (hr.mono (by decide)) T.g__law_draw tk (am_p (ma_cons (m_var 0) (ma_cons m_int ma_nil))))))) mo_none)))
      (mss_cons (ms_set (i := 8) nd (m_tuple T.f_tuple (ma_cons (m_frz (ml_slice (c_call (ok__law_shuffled T) kb__law_shuffled_2 (hr.mono (by decide)) T.g__law_shuffled tk (am_p (ma_cons (m_var 0) (ma_cons (m_var 7) ma_nil)))) mo_none (mo_some (m_ix (ix_M hr) (m_frz (ml_lst (ma_cons m_int (ma_cons m_int (ma_cons m_int (ma_cons m_int (ma_cons m_int (ma_cons m_int (ma_cons m_int (ma_cons m_int ma_nil)))))))))) (c_call (ok__law_draw T) kb__law_draw_2 (hr.mono (by decide)) T.g__law_draw tk (am_p (ma_cons (m_var 0) (ma_cons m_int ma_nil)))))))) ma_nil)))
      (mss_cons (ms_set (i := 9) nd (c_call (ok__law_draw T) kb__law_draw_2 (hr.mono (by decide)) T.g__law_draw tk (am_p (ma_cons (m_var 0) (ma_cons m_int ma_nil)))))
      (mss_cons (ms_set (i := 10) nd (c_make (C := "Commit") (ok_Commit___init__ T) (kb_Commit___init___3_author_time_message T) (hr.mono (by decide)) T.mk_Commit T.g_Commit tk (am_pk (ma_cons (m_var 3) (ma_cons (m_var 8) ma_nil)) (mk_cons m_str (mk_cons (m_var 9) (mk_cons (m_str1 T.f_str (ma_cons (m_var 6) ma_nil)) mk_nil))))))
      (mss_one (ms_if (PW.pt (mw_and (mt_cmp (op_neM hr) (c_call (ok_id_of T) kb_id_of_1 (hr.mono (by decide)) T.g_id_of tk (am_p (ma_cons (m_var 10) ma_nil))) (m_var 3)) (mw_and1 (mt_cmp (op_notInM hr) (c_call (ok_id_of T) kb_id_of_1 (hr.mono (by decide)) T.g_id_of tk (am_p (ma_cons (m_var 10) ma_nil))) (m_var 4)))))
        (mss_cons (ms_sub hr (m_tup (ma_cons (m_var 8) (ma_cons (m_var 9) ma_nil))) (m_var 4) (c_meth (C := "Store") (ok_Store_put T) kb_Store_put_2 (hr.mono (by decide)) T.k_Store T.m_Store_put tk (m_var 2) (am_p (ma_cons (m_var 10) ma_nil))))
        (mss_one (ms_expr (m_append (m_var 5) (c_call (ok_id_of T) kb_id_of_1 (hr.mono (by decide)) T.g_id_of tk (am_p (ma_cons (m_var 10) ma_nil)))))))
        mss_nil)))))))
    (mss_one (ms_ret (m_tup (ma_cons (c_make (C := "History") (ok_History___init__ T) (kb_History___init___2 T) (hr.mono (by decide)) T.mk_History T.g_History tk (am_p (ma_cons (m_var 2) ma_nil))) (ma_cons (m_var 4) ma_nil)))))))))
abbrev N__law_reached : List Str := ["_law_facts", "_law_found", "_law_name", "_law_parent"]
theorem sc__law_reached : FnScope N__law_reached ["_law_facts"] (defScope s__law_reached) := ⟨rfl, rfl, rfl, by decide +kernel, rfl, by decide +kernel, by decide +kernel⟩
theorem bn__law_reached {K : PySem.W.Frag} : BN K d__law_reached ["_law_facts"] := fun fd F => FunD.bindsN F fun _ _ _ _ _ _ us hl => match us, hl with | [_], _ => rfl
theorem kb__law_reached_1 {K : PySem.W.Frag} : KB K d__law_reached ["_law_facts"] 1 [] (fun ms _ => ms) := bn__law_reached.kb
theorem ok__law_reached (T : Ctx K mg) : OkM PP w K mg base 1 d__law_reached ["_law_facts"] F__law_reached := ok_M (T.c.def_ 53 (d := d__law_reached) rfl) sc__law_reached fun cdv A outer s H E hr tk pp => by
  have nd := sc__law_reached.nd
  exact (mss_cons (ms_set (i := 1) nd m_dict0)
    (mss_cons (ms_lk tk fun _ tk => (ms_for (is := [2]) pp rfl (mi_any (m_var 0)) (tg_name (i := 2) nd)
      (mss_cons (ms_sub hr (m_disp (ps := [((eVar 2), (eC (.bl true)))]) (pps_cons (m_var 2) m_bl pps_nil)) (m_var 1) (m_var 2))
      (mss_one (ms_lk tk fun _ tk => (ms_for (is := [3]) pp rfl (mi_any (m_ix (ix_M hr) (m_ix (ix_M hr) (m_var 0) (m_var 2)) m_int)) (tg_name (i := 3) nd)
        (mss_one (ms_expr (m_update (m_ix (ix_M hr) (m_var 1) (m_var 2)) (m_ix (ix_M hr) (m_var 1) (m_var 3)))))))))))
    (mss_one (ms_ret (m_var 1)))))
abbrev N_Search___init__ : List Str := ["self", "history"]
theorem sc_Search___init__ : FnScope N_Search___init__ ["self", "history"] (defScope s_Search___init__) := ⟨rfl, rfl, rfl, by decide +kernel, rfl, by decide +kernel, by decide +kernel⟩
theorem bn_Search___init__ {K : PySem.W.Frag} : BN K d_Search___init__ ["self", "history"] := fun fd F => FunD.bindsN F fun _ _ _ _ _ _ us hl => match us, hl with | [_, _], _ => rfl
theorem kb_Search___init___2 {K : PySem.W.Frag} : KB K d_Search___init__ ["self", "history"] 2 [] (fun ms _ => ms) := bn_Search___init__.kb
theorem ok_Search___init__ (T : Ctx K mg) : OkM PP w K mg base 1 d_Search___init__ ["self", "history"] F_Search___init__ := ok_M (T.c.def_ 28 (d := d_Search___init__) rfl) sc_Search___init__ fun cdv A outer s H E hr tk pp => by
  have nd := sc_Search___init__.nd
  exact (mss_cons (ms_fld (m_var 0) (m_var 1) T.k_Search T.n_Search_past)
    (mss_one (ms_fld (m_var 0) (m_ref (ml_lst ma_nil)) T.k_Search T.n_Search_marks)))
abbrev N__law_candidates : List Str := ["_law_reached_here", "_law_marks", "_law_bad", "_law_good", "_law_found", "_law_word", "_law_name", "_law_one"]
theorem sc__law_candidates : FnScope N__law_candidates ["_law_reached_here", "_law_marks"] (defScope s__law_candidates) := ⟨rfl, rfl, rfl, by decide +kernel, rfl, by decide +kernel, by decide +kernel⟩
theorem bn__law_candidates {K : PySem.W.Frag} : BN K d__law_candidates ["_law_reached_here", "_law_marks"] := fun fd F => FunD.bindsN F fun _ _ _ _ _ _ us hl => match us, hl with | [_, _], _ => rfl
theorem kb__law_candidates_2 {K : PySem.W.Frag} : KB K d__law_candidates ["_law_reached_here", "_law_marks"] 2 [] (fun ms _ => ms) := bn__law_candidates.kb
theorem ok__law_candidates (T : Ctx K mg) : OkM PP w K mg base 1 d__law_candidates ["_law_reached_here", "_law_marks"] F__law_candidates := ok_M (T.c.def_ 54 (d := d__law_candidates) rfl) sc__law_candidates fun cdv A outer s H E hr tk pp => by
  have nd := sc__law_candidates.nd
  exact (mss_cons (ms_set (i := 2) nd (m_frz (ml_lc (own := [("_law_word", 5), ("_law_name", 6)]) (is := [5, 6]) (g := (gTupM 2 (gConsM gNm (gConsM gNm gNilM)))) rfl nd (mi_frz (m_var 1)) (blkOk_by (own := [("_law_word", 5), ("_law_name", 6)]) (N := N__law_candidates) (sc := defScope s__law_candidates) (by decide +kernel)) (by decide) (fun _ _ _ _ _ => (tg_tup rfl (tgs_cons (tg_name (i := 5) nd) (tgs_cons (tg_name (i := 6) nd) tgs_nil)))) (fun _ _ _ _ _ => (mts_one (mt_cmp (op_eqM hr) (m_var 5) m_str))) (fun _ _ _ _ _ => (m_var 6)))))
    (mss_cons (ms_set (i := 3) nd (m_frz (ml_lc (own := [("_law_word", 5), ("_law_name", 6)]) (is := [5, 6]) (g := (gTupM 2 (gConsM gNm (gConsM gNm gNilM)))) rfl nd (mi_frz (m_var 1)) (blkOk_by (own := [("_law_word", 5), ("_law_name", 6)]) (N := N__law_candidates) (sc := defScope s__law_candidates) (by decide +kernel)) (by decide) (fun _ _ _ _ _ => (tg_tup rfl (tgs_cons (tg_name (i := 5) nd) (tgs_cons (tg_name (i := 6) nd) tgs_nil)))) (fun _ _ _ _ _ => (mts_one (mt_cmp (op_eqM hr) (m_var 5) m_str))) (fun _ _ _ _ _ => (m_var 6)))))
    (mss_cons (ms_if (mt_cmp (op_eqM hr) (m_var 2) (m_frz (ml_lst ma_nil)))
      (mss_one (ms_ret m_tup0))
      mss_nil)
    (mss_cons (ms_lk tk fun _ tk => (ms_setLc (i := 4) (own := [("_law_name", 6)]) (is := [6]) (g := gNm) rfl nd rfl rfl (sw_true rfl rfl rfl (by decide +kernel)) (mi_any (m_var 0)) (blkOk_by (own := [("_law_name", 6)]) (N := N__law_candidates) (sc := defScope s__law_candidates) (by decide +kernel)) (by decide) (fun _ _ _ _ _ => (tg_name (i := 6) nd)) (fun _ _ _ _ _ => (mts_one (mt_val (m_all rfl T.f_all (ma_cons (m_frz (ml_lc (own := [("_law_one", 7)]) (is := [7]) (g := gNm) rfl nd (mi_frz (m_var 2)) (by show BlkOk N__law_candidates ⟨_, _, _, _, _⟩ _ _; exact blkOk_by (own := [("_law_one", 7)]) (N := N__law_candidates) (by kernel_rfl)) (by decide) (fun _ _ _ _ _ => (tg_name (i := 7) nd)) (fun _ _ _ _ _ => mts_nil) (fun _ _ _ _ _ => (m_cmp (op_inM hr) (m_var 6) (m_ix (ix_M hr) (m_var 0) (m_var 7)))))) ma_nil))))) (fun _ _ _ _ _ => (m_var 6))))
    (mss_one (ms_ret (m_tuple T.f_tuple (ma_cons (m_frz (ml_sorted rfl T.f_sorted (ma_cons (m_frz (ml_lc (own := [("_law_name", 6)]) (is := [6]) (g := gNm) rfl nd (mi_frz (m_var 4)) (blkOk_by (own := [("_law_name", 6)]) (N := N__law_candidates) (sc := defScope s__law_candidates) (by decide +kernel)) (by decide) (fun _ _ _ _ _ => (tg_name (i := 6) nd)) (fun _ _ _ _ _ => (mts_one (mt_not (mt_val (m_any rfl T.f_any (ma_cons (m_frz (ml_lc (own := [("_law_one", 7)]) (is := [7]) (g := gNm) rfl nd (mi_frz (m_var 3)) (by show BlkOk N__law_candidates ⟨_, _, _, _, _⟩ _ _; exact blkOk_by (own := [("_law_one", 7)]) (N := N__law_candidates) (by kernel_rfl)) (by decide) (fun _ _ _ _ _ => (tg_name (i := 7) nd)) (fun _ _ _ _ _ => mts_nil) (fun _ _ _ _ _ => (m_cmp (op_inM hr) (m_var 6) (m_ix (ix_M hr) (m_var 0) (m_var 7)))))) ma_nil)))))) (fun _ _ _ _ _ => (m_var 6)))) ma_nil))) ma_nil))))))))
abbrev N_Store___getitem__ : List Str := ["self", "name"]
theorem sc_Store___getitem__ : FnScope N_Store___getitem__ ["self", "name"] (defScope s_Store___getitem__) := ⟨rfl, rfl, rfl, by decide +kernel, rfl, by decide +kernel, by decide +kernel⟩
theorem bn_Store___getitem__ {K : PySem.W.Frag} : BN K d_Store___getitem__ ["self", "name"] := fun fd F => FunD.bindsN F fun _ _ _ _ _ _ us hl => match us, hl with | [_, _], _ => rfl
theorem ok_Store___getitem__ (T : Ctx K mg) : OkM PP w K mg base 4 d_Store___getitem__ ["self", "name"] F_Store___getitem__ := ok_M (T.c.def_ 46 (d := d_Store___getitem__) rfl) sc_Store___getitem__ fun cdv A outer s H E hr tk pp => by
  have nd := sc_Store___getitem__.nd
  exact (mss_cons (ms_if (PW.pt (mw_or (mt_not (mt_val (m_isiG T.kit T.f_isinstance (ma_cons (m_var 1) (ma_cons (m_ty T.f_str bt_str) ma_nil))))) (mw_or1 (mt_cmp (op_notInM hr) (m_var 1) (m_fld (m_var 0) T.k_Store T.n_Store_kept)))))
      (mss_one (ms_raise (c := "NoObject") rfl tk (mkr_NoObject T) (hr.mono (by decide)) T.g_NoObject (m_var 1) rk_NoObject))
      mss_nil)
    (mss_one (ms_ret (m_ix (ix_M hr) (m_fld (m_var 0) T.k_Store T.n_Store_kept) (m_var 1)))))
abbrev N_commit_of : List Str := ["store", "name", "thing"]
theorem sc_commit_of : FnScope N_commit_of ["store", "name"] (defScope s_commit_of) := ⟨rfl, rfl, rfl, by decide +kernel, rfl, by decide +kernel, by decide +kernel⟩
theorem bn_commit_of {K : PySem.W.Frag} : BN K d_commit_of ["store", "name"] := fun fd F => FunD.bindsN F fun _ _ _ _ _ _ us hl => match us, hl with | [_, _], _ => rfl
theorem kb_commit_of_2 {K : PySem.W.Frag} : KB K d_commit_of ["store", "name"] 2 [] (fun ms _ => ms) := bn_commit_of.kb
theorem ok_commit_of (T : Ctx K mg) : OkM PP w K mg base 6 d_commit_of ["store", "name"] F_commit_of := ok_M (T.c.def_ 21 (d := d_commit_of) rfl) sc_commit_of fun cdv A outer s H E hr tk pp => by
  have nd := sc_commit_of.nd
  exact (mss_cons (ms_set (i := 2) nd (c_getitem (C := "Store") (ok_Store___getitem__ T) (bn_Store___getitem__) rfl (hr.mono (by decide)) T.m_Store___getitem__ tk (m_var 0) (m_var 1)))
    (mss_cons (ms_if (mt_not (mt_val (m_isiG T.kit T.f_isinstance (ma_cons (m_var 2) (ma_cons (m_glo T.g_Commit) ma_nil)))))
      (mss_one (ms_raise (c := "BadObject") rfl tk (mkr_BadObject T) (hr.mono (by decide)) T.g_BadObject m_int rk_BadObject))
      mss_nil)
    (mss_one (ms_ret (m_var 2)))))
abbrev N_Store___contains__ : List Str := ["self", "name"]
theorem sc_Store___contains__ : FnScope N_Store___contains__ ["self", "name"] (defScope s_Store___contains__) := ⟨rfl, rfl, rfl, by decide +kernel, rfl, by decide +kernel, by decide +kernel⟩
theorem bn_Store___contains__ {K : PySem.W.Frag} : BN K d_Store___contains__ ["self", "name"] := fun fd F => FunD.bindsN F fun _ _ _ _ _ _ us hl => match us, hl with | [_, _], _ => rfl
theorem ok_Store___contains__ (T : Ctx K mg) : OkM PP w K mg base 1 d_Store___contains__ ["self", "name"] F_Store___contains__ := ok_M (T.c.def_ 45 (d := d_Store___contains__) rfl) sc_Store___contains__ fun cdv A outer s H E hr tk pp => by
  have nd := sc_Store___contains__.nd
  exact (mss_one (ms_ret (m_and (m_isiG T.kit T.f_isinstance (ma_cons (m_var 1) (ma_cons (m_ty T.f_str bt_str) ma_nil))) (m_one (m_cmp (op_inM hr) (m_var 1) (m_fld (m_var 0) T.k_Store T.n_Store_kept))))))
abbrev N_History_searched : List Str := ["self", "starts", "found", "ahead", "name", "thing", "absent"]
theorem sc_History_searched : FnScope N_History_searched ["self", "starts"] (defScope s_History_searched) := ⟨rfl, rfl, rfl, by decide +kernel, rfl, by decide +kernel, by decide +kernel⟩
theorem bn_History_searched {K : PySem.W.Frag} : BN K d_History_searched ["self", "starts"] := fun fd F => FunD.bindsN F fun _ _ _ _ _ _ us hl => match us, hl with | [_, _], _ => rfl
theorem kb_History_searched_2 {K : PySem.W.Frag} : KB K d_History_searched ["self", "starts"] 2 [] (fun ms _ => ms) := bn_History_searched.kb
theorem ok_History_searched (T : Ctx K mg) : OkM PP w K mg base 7 d_History_searched ["self", "starts"] F_History_searched := ok_M (T.c.def_ 26 (d := d_History_searched) rfl) sc_History_searched fun cdv A outer s H E hr tk pp => by
  have nd := sc_History_searched.nd
  exact (mss_cons (ms_set (i := 2) nd m_dict0)
    (mss_cons (ms_set (i := 3) nd (m_ref (ml_list T.f_list (ma_cons (m_var 1) ma_nil))))
    (mss_cons (ms_while pp (mt_cmp (op_neM hr) (m_var 3) (m_frz (ml_lst ma_nil)))
      (mss_cons (ms_set (i := 4) nd (m_popL (m_var 3)))
      (mss_one (ms_if (mt_cmp (op_notInM hr) (m_var 4) (m_var 2))
        (mss_cons (ms_sub hr m_bl (m_var 2) (m_var 4))
        (mss_cons (ms_set (i := 5) nd (m_if (mt_pc (c_inO (C := "Store") (ok_Store___contains__ T) (bn_Store___contains__) rfl (hr.mono (by decide)) T.m_Store___contains__ tk (m_var 4) (m_fld (m_var 0) T.k_History T.n_History_held))) (c_getitem (C := "Store") (ok_Store___getitem__ T) (bn_Store___getitem__) rfl (hr.mono (by decide)) T.m_Store___getitem__ tk (m_fld (m_var 0) T.k_History T.n_History_held) (m_var 4)) m_non))
        (mss_one (ms_expr (m_extend (m_var 3) (m_if (PW.pt (mw_and (mt_val (m_isiG T.kit T.f_isinstance (ma_cons (m_var 5) (ma_cons (m_glo T.g_Commit) ma_nil)))) (mw_and1 (mt_cmp (op_notInM hr) (m_var 4) (m_fld (m_var 0) T.k_History T.n_History_ends))))) (c_prop (C := "Commit") (okp_Commit_parents T) bp_Commit_parents rfl (hr.mono (by decide)) T.k_Commit (T.prop 3) (m_var 5)) m_tup0))))))
        mss_nil))))
    (mss_cons (ms_lk tk fun _ tk => (ms_setLc (i := 6) (own := [("name", 4)]) (is := [4]) (g := gNm) rfl nd rfl rfl (sw_true rfl rfl rfl (by decide +kernel)) (mi_any (m_var 2)) (blkOk_by (own := [("name", 4)]) (N := N_History_searched) (sc := defScope s_History_searched) (by decide +kernel)) (by decide) (fun _ _ _ _ _ => (tg_name (i := 4) nd)) (fun _ _ _ _ _ => (mts_one (mt_pc (c_notInO (C := "Store") (ok_Store___contains__ T) (bn_Store___contains__) rfl (hr.mono (by decide)) T.m_Store___contains__ tk0 (m_var 4) (m_fld (m_var 0) T.k_History T.n_History_held))))) (fun _ _ _ _ _ => (m_var 4))))
    (mss_cons (ms_if (mt_cmp (op_neM hr) (m_var 6) (m_frz (ml_lst ma_nil)))
      (mss_one ms_bad)
      mss_nil)
    (mss_cons (ms_lk tk fun _ tk => (ms_for (is := [4]) pp rfl (mi_any (m_var 2)) (tg_name (i := 4) nd)
      (mss_one (ms_expr (c_call (ok_commit_of T) kb_commit_of_2 (hr.mono (by decide)) T.g_commit_of tk (am_p (ma_cons (m_fld (m_var 0) T.k_History T.n_History_held) (ma_cons (m_var 4) ma_nil))))))))
    (mss_one (ms_ret (m_var 2)))))))))
abbrev N_History_below : List Str := ["self", "name"]
theorem sc_History_below : FnScope N_History_below ["self", "name"] (defScope s_History_below) := ⟨rfl, rfl, rfl, by decide +kernel, rfl, by decide +kernel, by decide +kernel⟩
theorem bn_History_below {K : PySem.W.Frag} : BN K d_History_below ["self", "name"] := fun fd F => FunD.bindsN F fun _ _ _ _ _ _ us hl => match us, hl with | [_, _], _ => rfl
theorem kb_History_below_2 {K : PySem.W.Frag} : KB K d_History_below ["self", "name"] 2 [] (fun ms _ => ms) := bn_History_below.kb
theorem ok_History_below (T : Ctx K mg) : OkM PP w K mg base 8 d_History_below ["self", "name"] F_History_below := ok_M (T.c.def_ 25 (d := d_History_below) rfl) sc_History_below fun cdv A outer s H E hr tk pp => by
  have nd := sc_History_below.nd
  exact (mss_cons (ms_expr (c_call (ok_commit_of T) kb_commit_of_2 (hr.mono (by decide)) T.g_commit_of tk (am_p (ma_cons (m_fld (m_var 0) T.k_History T.n_History_held) (ma_cons (m_var 1) ma_nil)))))
    (mss_cons (ms_if (mt_cmp (op_notInM hr) (m_var 1) (m_fld (m_var 0) T.k_History T.n_History_known))
      (mss_one (ms_sub hr (c_meth (C := "History") (ok_History_searched T) kb_History_searched_2 (hr.mono (by decide)) T.k_History T.m_History_searched tk (m_var 0) (am_p (ma_cons (m_frz (ml_lst (ma_cons (m_var 1) ma_nil))) ma_nil))) (m_fld (m_var 0) T.k_History T.n_History_known) (m_var 1)))
      mss_nil)
    (mss_one (ms_ret (m_ix (ix_M hr) (m_fld (m_var 0) T.k_History T.n_History_known) (m_var 1))))))
abbrev N_Search_marked : List Str := ["self", "word", "one", "name"]
theorem sc_Search_marked : FnScope N_Search_marked ["self", "word"] (defScope s_Search_marked) := ⟨rfl, rfl, rfl, by decide +kernel, rfl, by decide +kernel, by decide +kernel⟩
theorem bn_Search_marked {K : PySem.W.Frag} : BN K d_Search_marked ["self", "word"] := fun fd F => FunD.bindsN F fun _ _ _ _ _ _ us hl => match us, hl with | [_, _], _ => rfl
theorem kb_Search_marked_2 {K : PySem.W.Frag} : KB K d_Search_marked ["self", "word"] 2 [] (fun ms _ => ms) := bn_Search_marked.kb
theorem ok_Search_marked (T : Ctx K mg) : OkM PP w K mg base 1 d_Search_marked ["self", "word"] F_Search_marked := ok_M (T.c.def_ 29 (d := d_Search_marked) rfl) sc_Search_marked fun cdv A outer s H E hr tk pp => by
  have nd := sc_Search_marked.nd
  exact (mss_one (ms_ret (m_frz (ml_lk (ml_lc (own := [("one", 2), ("name", 3)]) (is := [2, 3]) (g := (gTupM 2 (gConsM gNm (gConsM gNm gNilM)))) rfl nd (mi_any (m_fld (m_var 0) T.k_Search T.n_Search_marks)) (blkOk_by (own := [("one", 2), ("name", 3)]) (N := N_Search_marked) (sc := defScope s_Search_marked) (by decide +kernel)) (by decide) (fun _ _ _ _ _ => (tg_tup rfl (tgs_cons (tg_name (i := 2) nd) (tgs_cons (tg_name (i := 3) nd) tgs_nil)))) (fun _ _ _ _ _ => (mts_one (mt_cmp (op_eqM hr) (m_var 2) (m_var 1)))) (fun _ _ _ _ _ => (m_var 3)))))))
abbrev N_Search_candidates : List Str := ["self", "bad", "good", "found", "name", "one"]
theorem sc_Search_candidates : FnScope N_Search_candidates ["self"] (defScope s_Search_candidates) := ⟨rfl, rfl, rfl, by decide +kernel, rfl, by decide +kernel, by decide +kernel⟩
theorem bn_Search_candidates {K : PySem.W.Frag} : BN K d_Search_candidates ["self"] := fun fd F => FunD.bindsN F fun _ _ _ _ _ _ us hl => match us, hl with | [_], _ => rfl
theorem kb_Search_candidates_1 {K : PySem.W.Frag} : KB K d_Search_candidates ["self"] 1 [] (fun ms _ => ms) := bn_Search_candidates.kb
theorem ok_Search_candidates (T : Ctx K mg) : OkM PP w K mg base 9 d_Search_candidates ["self"] F_Search_candidates := ok_M (T.c.def_ 35 (d := d_Search_candidates) rfl) sc_Search_candidates fun cdv A outer s H E hr tk pp => by
  have nd := sc_Search_candidates.nd
  exact (mss_cons (ms_asg (is := [1, 2]) (m_tup (ma_cons (c_meth (C := "Search") (ok_Search_marked T) kb_Search_marked_2 (hr.mono (by decide)) T.k_Search T.m_Search_marked tk (m_var 0) (am_p (ma_cons m_str ma_nil))) (ma_cons (c_meth (C := "Search") (ok_Search_marked T) kb_Search_marked_2 (hr.mono (by decide)) T.k_Search T.m_Search_marked tk (m_var 0) (am_p (ma_cons m_str ma_nil))) ma_nil))) (tg_tup rfl (tgs_cons (tg_name (i := 1) nd) (tgs_cons (tg_name (i := 2) nd) tgs_nil))))
    (mss_cons (ms_if (mt_cmp (op_eqM hr) (m_var 1) (m_frz (ml_lst ma_nil)))
      (mss_one (ms_ret m_tup0))
      mss_nil)
    (mss_cons (ms_lk tk fun _ tk => (ms_setLc (i := 3) (own := [("name", 4)]) (is := [4]) (g := gNm) rfl nd rfl rfl (sw_true rfl rfl rfl (by decide +kernel)) (mi_any (c_meth (C := "History") (ok_History_below T) kb_History_below_2 (hr.mono (by decide)) T.k_History T.m_History_below tk (m_fld (m_var 0) T.k_Search T.n_Search_past) (am_p (ma_cons (m_ix (ix_M hr) (m_var 1) m_int) ma_nil)))) (blkOk_by (own := [("name", 4)]) (N := N_Search_candidates) (sc := defScope s_Search_candidates) (by decide +kernel)) (by decide) (fun _ _ _ _ _ => (tg_name (i := 4) nd)) (fun _ _ _ _ _ => (mts_one (mt_val (m_all rfl T.f_all (ma_cons (m_frz (ml_lc (own := [("one", 5)]) (is := [5]) (g := gNm) rfl nd (mi_frz (m_var 1)) (by show BlkOk N_Search_candidates ⟨_, _, _, _, _⟩ _ _; exact blkOk_by (own := [("one", 5)]) (N := N_Search_candidates) (by kernel_rfl)) (by decide) (fun _ _ _ _ _ => (tg_name (i := 5) nd)) (fun _ _ _ _ _ => mts_nil) (fun _ _ _ _ _ => (m_cmp (op_inM hr) (m_var 4) (c_meth (C := "History") (ok_History_below T) kb_History_below_2 (hr.mono (by decide)) T.k_History T.m_History_below tk0 (m_fld (m_var 0) T.k_Search T.n_Search_past) (am_p (ma_cons (m_var 5) ma_nil))))))) ma_nil))))) (fun _ _ _ _ _ => (m_var 4))))
    (mss_one (ms_ret (m_tuple T.f_tuple (ma_cons (m_frz (ml_sorted rfl T.f_sorted (ma_cons (m_frz (ml_lc (own := [("name", 4)]) (is := [4]) (g := gNm) rfl nd (mi_frz (m_var 3)) (blkOk_by (own := [("name", 4)]) (N := N_Search_candidates) (sc := defScope s_Search_candidates) (by decide +kernel)) (by decide) (fun _ _ _ _ _ => (tg_name (i := 4) nd)) (fun _ _ _ _ _ => (mts_one (mt_not (mt_val (m_any rfl T.f_any (ma_cons (m_frz (ml_lc (own := [("one", 5)]) (is := [5]) (g := gNm) rfl nd (mi_frz (m_var 2)) (by show BlkOk N_Search_candidates ⟨_, _, _, _, _⟩ _ _; exact blkOk_by (own := [("one", 5)]) (N := N_Search_candidates) (by kernel_rfl)) (by decide) (fun _ _ _ _ _ => (tg_name (i := 5) nd)) (fun _ _ _ _ _ => mts_nil) (fun _ _ _ _ _ => (m_cmp (op_inM hr) (m_var 4) (c_meth (C := "History") (ok_History_below T) kb_History_below_2 (hr.mono (by decide)) T.k_History T.m_History_below tk0 (m_fld (m_var 0) T.k_Search T.n_Search_past) (am_p (ma_cons (m_var 5) ma_nil))))))) ma_nil)))))) (fun _ _ _ _ _ => (m_var 4)))) ma_nil))) ma_nil)))))))
abbrev N_Search_mark : List Str := ["self", "word", "name"]
theorem sc_Search_mark : FnScope N_Search_mark ["self", "word", "name"] (defScope s_Search_mark) := ⟨rfl, rfl, rfl, by decide +kernel, rfl, by decide +kernel, by decide +kernel⟩
theorem bn_Search_mark {K : PySem.W.Frag} : BN K d_Search_mark ["self", "word", "name"] := fun fd F => FunD.bindsN F fun _ _ _ _ _ _ us hl => match us, hl with | [_, _, _], _ => rfl
theorem kb_Search_mark_3 {K : PySem.W.Frag} : KB K d_Search_mark ["self", "word", "name"] 3 [] (fun ms _ => ms) := bn_Search_mark.kb
theorem ok_Search_mark (T : Ctx K mg) : OkM PP w K mg base 10 d_Search_mark ["self", "word", "name"] F_Search_mark := ok_M (T.c.def_ 30 (d := d_Search_mark) rfl) sc_Search_mark fun cdv A outer s H E hr tk pp => by
  have nd := sc_Search_mark.nd
  exact (mss_cons (ms_expr (c_meth (C := "History") (ok_History_below T) kb_History_below_2 (hr.mono (by decide)) T.k_History T.m_History_below tk (m_fld (m_var 0) T.k_Search T.n_Search_past) (am_p (ma_cons (m_var 2) ma_nil))))
    (mss_cons (ms_expr (m_append (m_fld (m_var 0) T.k_Search T.n_Search_marks) (m_tup (ma_cons (m_var 1) (ma_cons (m_var 2) ma_nil)))))
    (mss_one (ms_if (PW.pt (mw_and (mt_cmp (op_neM hr) (m_var 1) m_str) (mw_and (mt_cmp (op_neM hr) (c_meth (C := "Search") (ok_Search_marked T) kb_Search_marked_2 (hr.mono (by decide)) T.k_Search T.m_Search_marked tk (m_var 0) (am_p (ma_cons m_str ma_nil))) (m_frz (ml_lst ma_nil))) (mw_and1 (mt_cmp (op_eqM hr) (c_meth (C := "Search") (ok_Search_candidates T) kb_Search_candidates_1 (hr.mono (by decide)) T.k_Search T.m_Search_candidates tk (m_var 0) am_n) m_tup0)))))
      (mss_cons (ms_expr (m_popL (m_fld (m_var 0) T.k_Search T.n_Search_marks)))
      (mss_one (ms_raise (c := "BadMark") rfl tk (mkr_BadMark T) (hr.mono (by decide)) T.g_BadMark m_str rk_BadMark)))
      mss_nil))))
abbrev N_Search_bad : List Str := ["self", "name"]
theorem sc_Search_bad : FnScope N_Search_bad ["self", "name"] (defScope s_Search_bad) := ⟨rfl, rfl, rfl, by decide +kernel, rfl, by decide +kernel, by decide +kernel⟩
theorem bn_Search_bad {K : PySem.W.Frag} : BN K d_Search_bad ["self", "name"] := fun fd F => FunD.bindsN F fun _ _ _ _ _ _ us hl => match us, hl with | [_, _], _ => rfl
theorem kb_Search_bad_2 {K : PySem.W.Frag} : KB K d_Search_bad ["self", "name"] 2 [] (fun ms _ => ms) := bn_Search_bad.kb
theorem ok_Search_bad (T : Ctx K mg) : OkM PP w K mg base 11 d_Search_bad ["self", "name"] F_Search_bad := ok_M (T.c.def_ 31 (d := d_Search_bad) rfl) sc_Search_bad fun cdv A outer s H E hr tk pp => by
  have nd := sc_Search_bad.nd
  exact (mss_one (ms_expr (c_meth (C := "Search") (ok_Search_mark T) kb_Search_mark_3 (hr.mono (by decide)) T.k_Search T.m_Search_mark tk (m_var 0) (am_p (ma_cons m_str (ma_cons (m_var 1) ma_nil))))))
abbrev N_Search_good : List Str := ["self", "name"]
theorem sc_Search_good : FnScope N_Search_good ["self", "name"] (defScope s_Search_good) := ⟨rfl, rfl, rfl, by decide +kernel, rfl, by decide +kernel, by decide +kernel⟩
theorem bn_Search_good {K : PySem.W.Frag} : BN K d_Search_good ["self", "name"] := fun fd F => FunD.bindsN F fun _ _ _ _ _ _ us hl => match us, hl with | [_, _], _ => rfl
theorem kb_Search_good_2 {K : PySem.W.Frag} : KB K d_Search_good ["self", "name"] 2 [] (fun ms _ => ms) := bn_Search_good.kb
theorem ok_Search_good (T : Ctx K mg) : OkM PP w K mg base 11 d_Search_good ["self", "name"] F_Search_good := ok_M (T.c.def_ 32 (d := d_Search_good) rfl) sc_Search_good fun cdv A outer s H E hr tk pp => by
  have nd := sc_Search_good.nd
  exact (mss_one (ms_expr (c_meth (C := "Search") (ok_Search_mark T) kb_Search_mark_3 (hr.mono (by decide)) T.k_Search T.m_Search_mark tk (m_var 0) (am_p (ma_cons m_str (ma_cons (m_var 1) ma_nil))))))
abbrev N_Search_skip : List Str := ["self", "name"]
theorem sc_Search_skip : FnScope N_Search_skip ["self", "name"] (defScope s_Search_skip) := ⟨rfl, rfl, rfl, by decide +kernel, rfl, by decide +kernel, by decide +kernel⟩
theorem bn_Search_skip {K : PySem.W.Frag} : BN K d_Search_skip ["self", "name"] := fun fd F => FunD.bindsN F fun _ _ _ _ _ _ us hl => match us, hl with | [_, _], _ => rfl
theorem kb_Search_skip_2 {K : PySem.W.Frag} : KB K d_Search_skip ["self", "name"] 2 [] (fun ms _ => ms) := bn_Search_skip.kb
theorem ok_Search_skip (T : Ctx K mg) : OkM PP w K mg base 11 d_Search_skip ["self", "name"] F_Search_skip := ok_M (T.c.def_ 33 (d := d_Search_skip) rfl) sc_Search_skip fun cdv A outer s H E hr tk pp => by
  have nd := sc_Search_skip.nd
  exact (mss_one (ms_expr (c_meth (C := "Search") (ok_Search_mark T) kb_Search_mark_3 (hr.mono (by decide)) T.k_Search T.m_Search_mark tk (m_var 0) (am_p (ma_cons m_str (ma_cons (m_var 1) ma_nil))))))
abbrev N_Search_undo : List Str := ["self"]
theorem sc_Search_undo : FnScope N_Search_undo ["self"] (defScope s_Search_undo) := ⟨rfl, rfl, rfl, by decide +kernel, rfl, by decide +kernel, by decide +kernel⟩
theorem bn_Search_undo {K : PySem.W.Frag} : BN K d_Search_undo ["self"] := fun fd F => FunD.bindsN F fun _ _ _ _ _ _ us hl => match us, hl with | [_], _ => rfl
theorem kb_Search_undo_1 {K : PySem.W.Frag} : KB K d_Search_undo ["self"] 1 [] (fun ms _ => ms) := bn_Search_undo.kb
theorem ok_Search_undo (T : Ctx K mg) : OkM PP w K mg base 4 d_Search_undo ["self"] F_Search_undo := ok_M (T.c.def_ 34 (d := d_Search_undo) rfl) sc_Search_undo fun cdv A outer s H E hr tk pp => by
  have nd := sc_Search_undo.nd
  exact (mss_cons (ms_if (mt_cmp (op_eqM hr) (m_fld (m_var 0) T.k_Search T.n_Search_marks) (m_frz (ml_lst ma_nil)))
      (mss_one (ms_raise (c := "BadMark") rfl tk (mkr_BadMark T) (hr.mono (by decide)) T.g_BadMark m_str rk_BadMark))
      mss_nil)
    (mss_one (ms_expr (m_popL (m_fld (m_var 0) T.k_Search T.n_Search_marks)))))
abbrev N__law_called : List Str := ["_law_search", "_law_word", "_law_name"]
theorem sc__law_called : FnScope N__law_called ["_law_search", "_law_word", "_law_name"] (defScope s__law_called) := ⟨rfl, rfl, rfl, by decide +kernel, rfl, by decide +kernel, by decide +kernel⟩
theorem bn__law_called {K : PySem.W.Frag} : BN K d__law_called ["_law_search", "_law_word", "_law_name"] := fun fd F => FunD.bindsN F fun _ _ _ _ _ _ us hl => match us, hl with | [_, _, _], _ => rfl
theorem kb__law_called_3 {K : PySem.W.Frag} : KB K d__law_called ["_law_search", "_law_word", "_law_name"] 3 [] (fun ms _ => ms) := bn__law_called.kb
theorem ok__law_called (T : Ctx K mg) : OkM PP w K mg base 12 d__law_called ["_law_search", "_law_word", "_law_name"] F__law_called := ok_M (T.c.def_ 55 (d := d__law_called) rfl) sc__law_called fun cdv A outer s H E hr tk pp => by
  have nd := sc__law_called.nd
  exact (mss_cons (ms_try rfl rfl nd tk (fun _ pn xe tk pp =>
      (mss_one (ms_if (mt_cmp (op_eqM hr) (m_var 1) m_str)
        (mss_one (ms_expr (c_meth (C := "Search") (ok_Search_bad T) kb_Search_bad_2 (hr.mono (by decide)) T.k_Search T.m_Search_bad tk (m_var 0) (am_p (ma_cons (m_var 2) ma_nil)))))
        (mss_one (ms_if (mt_cmp (op_eqM hr) (m_var 1) m_str)
          (mss_one (ms_expr (c_meth (C := "Search") (ok_Search_good T) kb_Search_good_2 (hr.mono (by decide)) T.k_Search T.m_Search_good tk (m_var 0) (am_p (ma_cons (m_var 2) ma_nil)))))
          (mss_one (ms_if (mt_cmp (op_eqM hr) (m_var 1) m_str)
            (mss_one (ms_expr (c_meth (C := "Search") (ok_Search_skip T) kb_Search_skip_2 (hr.mono (by decide)) T.k_Search T.m_Search_skip tk (m_var 0) (am_p (ma_cons (m_var 2) ma_nil)))))
            (mss_one (ms_expr (c_meth (C := "Search") (ok_Search_undo T) kb_Search_undo_1 (hr.mono (by decide)) T.k_Search T.m_Search_undo tk (m_var 0) am_n))))))))))
      (.one ⟨rfl, by decide, .inl T.g_BadMark⟩ (T.exm_BadMark) rfl (fun a oe c d fs pn hz hf hc hs => (mss_one (ms_ret m_bl))) .nil) (fun _ _ => trivial) rfl)
    (mss_one (ms_ret m_bl)))
abbrev N__law_right : List Str := ["_law_source", "_law_history_here", "_law_facts", "_law_reached_here", "_law_names", "_law_search", "_law_marks", "_law_turn", "_law_word", "_law_name", "_law_later", "_law_is_due", "_law_told", "_law_one", "_law_other"]
theorem sc__law_right : FnScope N__law_right ["_law_source"] (defScope s__law_right) := ⟨rfl, rfl, rfl, by decide +kernel, rfl, by decide +kernel, by decide +kernel⟩
theorem bn__law_right {K : PySem.W.Frag} : BN K d__law_right ["_law_source"] := fun fd F => FunD.bindsN F fun _ _ _ _ _ _ us hl => match us, hl with | [_], _ => rfl
theorem kb__law_right_1 {K : PySem.W.Frag} : KB K d__law_right ["_law_source"] 1 [] (fun ms _ => ms) := bn__law_right.kb
theorem ok__law_right (T : Ctx K mg) : OkM PP w K mg base 13 d__law_right ["_law_source"] F__law_right := ok_M (T.c.def_ 56 (d := d__law_right) rfl) sc__law_right fun cdv A outer s H E hr tk pp => by
  have nd := sc__law_right.nd
  exact (mss_cons (ms_asg (is := [1, 2]) (c_call (ok__law_history T) kb__law_history_2 (hr.mono (by decide)) T.g__law_history tk (am_p (ma_cons (m_var 0) (ma_cons m_int ma_nil)))) (tg_tup rfl (tgs_cons (tg_name (i := 1) nd) (tgs_cons (tg_name (i := 2) nd) tgs_nil))))
    (mss_cons (ms_par (i := 3) (j := 4) rfl nd (ma_cons (c_call (ok__law_reached T) kb__law_reached_1 (hr.mono (by decide)) T.g__law_reached tk (am_p (ma_cons (m_var 2) ma_nil))) (ma_cons (m_frz (ml_listD rfl T.f_list (ma_cons (m_var 2) ma_nil))) ma_nil)))
    (mss_cons (ms_par (i := 5) (j := 6) rfl nd (ma_cons (c_make (C := "Search") (ok_Search___init__ T) kb_Search___init___2 (hr.mono (by decide)) T.mk_Search T.g_Search tk (am_p (ma_cons (m_var 1) ma_nil))) (ma_cons (m_frz (ml_lst ma_nil)) ma_nil)))
    (mss_cons (ms_for (is := [7]) pp rfl (mi_range1 T.f_range (ma_cons m_int ma_nil)) (tg_name (i := 7) nd)
      (mss_cons (ms_set (i := 8) nd (m_ix (ix_M hr) (m_frz (ml_lst (ma_cons m_str (ma_cons m_str (ma_cons m_str (ma_cons m_str (ma_cons m_str (ma_cons m_str ma_nil)))))))) (c_call (ok__law_draw T) kb__law_draw_2 (hr.mono (by decide)) T.g__law_draw tk (am_p (ma_cons (m_var 0) (ma_cons m_int ma_nil))))))
      (mss_cons (ms_set (i := 9) nd (m_ix (ix_M hr) (m_var 4) (c_call (ok__law_draw T) kb__law_draw_2 (hr.mono (by decide)) T.g__law_draw tk (am_p (ma_cons (m_var 0) (ma_cons (m_len T.f_len (ma_cons (m_var 4) ma_nil)) ma_nil))))))
      (mss_cons (ms_set (i := 10) nd (m_if (mt_cmp (op_eqM hr) (m_var 8) m_str) (m_frz (ml_slice (m_var 6) mo_none (mo_some (m_neg m_int)))) (m_frz (ml_cat (m_var 6) (m_frz (ml_lst (ma_cons (m_tup (ma_cons (m_var 8) (ma_cons (m_var 9) ma_nil))) ma_nil)))))))
      (mss_cons (ms_set (i := 11) nd (m_if (mt_cmp (op_eqM hr) (m_var 8) m_str) (m_cmp (op_neM hr) (m_var 6) (m_frz (ml_lst ma_nil))) m_bl))
      (mss_cons (ms_if (PW.pt (mw_and (mt_cmp (op_inM hr) (m_var 8) (m_tup (ma_cons m_str (ma_cons m_str ma_nil)))) (mw_and1 (mt_cmp (op_inM hr) m_str (m_frz (ml_lc (own := [("_law_one", 13), ("_law_other", 14)]) (is := [13, 14]) (g := (gTupM 2 (gConsM gNm (gConsM gNm gNilM)))) rfl nd (mi_frz (m_var 10)) (blkOk_by (own := [("_law_one", 13), ("_law_other", 14)]) (N := N__law_right) (sc := defScope s__law_right) (by decide +kernel)) (by decide) (fun _ _ _ _ _ => (tg_tup rfl (tgs_cons (tg_name (i := 13) nd) (tgs_cons (tg_name (i := 14) nd) tgs_nil)))) (fun _ _ _ _ _ => mts_nil) (fun _ _ _ _ _ => (m_var 13))))))))
        (mss_one (ms_set (i := 11) nd (m_cmp (op_neM hr) (c_call (ok__law_candidates T) kb__law_candidates_2 (hr.mono (by decide)) T.g__law_candidates tk (am_p (ma_cons (m_var 3) (ma_cons (m_var 10) ma_nil)))) m_tup0)))
        mss_nil)
      (mss_cons (ms_if (mt_cmp (op_neM hr) (c_call (ok__law_called T) kb__law_called_3 (hr.mono (by decide)) T.g__law_called tk (am_p (ma_cons (m_var 5) (ma_cons (m_var 8) (ma_cons (m_var 9) ma_nil))))) (m_var 11))
        (mss_one (ms_ret m_bl))
        mss_nil)
      (mss_cons (ms_set (i := 6) nd (m_if (mt_val (m_var 11)) (m_var 10) (m_var 6)))
      (mss_cons (ms_set (i := 12) nd (c_meth (C := "Search") (ok_Search_candidates T) kb_Search_candidates_1 (hr.mono (by decide)) T.k_Search T.m_Search_candidates tk (m_var 5) am_n))
      (mss_one (ms_if (PW.pt (mw_or (mt_not (mt_val (m_isiG T.kit T.f_isinstance (ma_cons (m_var 12) (ma_cons (m_ty T.f_tuple bt_tuple) ma_nil))))) (mw_or1 (mt_cmp (op_neM hr) (m_var 12) (c_call (ok__law_candidates T) kb__law_candidates_2 (hr.mono (by decide)) T.g__law_candidates tk (am_p (ma_cons (m_var 3) (ma_cons (m_var 6) ma_nil))))))))
        (mss_one (ms_ret m_bl))
        mss_nil)))))))))))
    (mss_one (ms_ret m_bl))))))
abbrev N_law : List Str := ["_law_script", "_law_k", "_law_cell"]
theorem sc_law : FnScope N_law ["_law_script"] (defScope s_law) := ⟨rfl, rfl, rfl, by decide +kernel, rfl, by decide +kernel, by decide +kernel⟩
theorem ok_law (T : Ctx K mg) : OkM PP w K mg base 14 d_law ["_law_script"] F_law := ok_M (T.c.def_ 57 (d := d_law) rfl) sc_law fun cdv A outer s H E hr tk pp => by
  have nd := sc_law.nd
  exact (mss_cons (ms_for (is := [1, 2]) pp rfl (mi_enum T.f_enumerate (ma_cons (m_frz (ml_slice (m_frz (ml_cat (m_var 0) (m_frz (ml_lst (ma_cons m_int ma_nil))))) mo_none (mo_some m_int))) ma_nil)) (tg_tup rfl (tgs_cons (tg_name (i := 1) nd) (tgs_cons (tg_name (i := 2) nd) tgs_nil)))
      (mss_one (ms_if (mt_not (mt_val (c_call (ok__law_right T) kb__law_right_1 (hr.mono (by decide)) T.g__law_right tk (am_p (ma_cons (m_ref (ml_lst (ma_cons (m_op op_mulM (m_var 2) (m_int1 T.f_int (ma_cons (m_cmp op_geM (m_var 2) (m_op op_powM m_int m_int)) ma_nil))) (ma_cons (m_op op_addM (m_op op_modM (m_int1 T.f_int (ma_cons (m_var 2) ma_nil)) m_int) (m_op op_mulM m_int (m_var 1))) (ma_cons m_int ma_nil))))) ma_nil)))))
        (mss_one (ms_ret m_bl))
        mss_nil)))
    (mss_one (ms_ret m_bl)))
end
end K56
/-! Sp0: how the plain functions are evaluated; heaps; loops -/
namespace Rp
open PySem PySem.Spec PyProof.Rows Mv Rf
/-! ### heaps -/
theorem app_at {A l : AH} {n : Nat} {o : MO} (h : A[n]? = some o) : (A ++ l)[n]? = some o := by
  rw [List.getElem?_append_left (List.getElem?_eq_some_iff.mp h).1]
  exact h
theorem new_at {A : AH} {o : MO} : (A ++ [o])[A.length]? = some o := by simp
theorem set_at {A : AH} {n : Nat} {o o' : MO} (h : A[n]? = some o) : (A.set n o')[n]? = some o' := by
  rw [List.getElem?_set_self (List.getElem?_eq_some_iff.mp h).1]
theorem set_ne {A : AH} {n m : Nat} {o : MO} (h : n ≠ m) : (A.set n o)[m]? = A[m]? := List.getElem?_set_ne h
theorem at_lt {A : AH} {n : Nat} {o : MO} (h : A[n]? = some o) : n < A.length := (List.getElem?_eq_some_iff.mp h).1
theorem at_ne {A : AH} {n m : Nat} {o o' : MO} (h : A[n]? = some o) (h' : A[m]? = some o') (d : o ≠ o') : n ≠ m := fun e => by
  rw [e, h'] at h
  cases h
  exact d rfl
/-- A' holds all of A but what stands at S -/
structure Fr (S : Nat → Prop) (A A' : AH) : Prop where
  len : A.length ≤ A'.length
  same : ∀ n o, ¬ S n → A[n]? = some o → A'[n]? = some o
theorem Fr.refl {S : Nat → Prop} {A : AH} : Fr S A A := ⟨Nat.le_refl _, fun _ _ _ h => h⟩
theorem Fr.trans {S : Nat → Prop} {A B C : AH} (h : Fr S A B) (h' : Fr S B C) : Fr S A C := ⟨Nat.le_trans h.len h'.len, fun n o s e => h'.same n o s (h.same n o s e)⟩
theorem Fr.mono {S T : Nat → Prop} {A B : AH} (h : Fr S A B) (i : ∀ n, S n → T n) : Fr T A B := ⟨h.len, fun n o s e => h.same n o (fun z => s (i n z)) e⟩
theorem Fr.app {S : Nat → Prop} {A l : AH} : Fr S A (A ++ l) := ⟨by simp, fun _ _ _ h => app_at h⟩
theorem Fr.set {S : Nat → Prop} {A : AH} {n : Nat} {o : MO} (h : S n) : Fr S A (A.set n o) := ⟨by simp, fun m q s e => by rw [set_ne (fun z => s (by rw [← z]; exact h))]; exact e⟩
/-- what is new may change -/
theorem Fr.cut {S : Nat → Prop} {A B C : AH} (h : Fr S A B) (h' : Fr (fun n => S n ∨ A.length ≤ n) B C) : Fr S A C :=
  ⟨Nat.le_trans h.len h'.len, fun n o s e => h'.same n o (fun z => z.elim s fun z => Nat.lt_irrefl _ (Nat.lt_of_lt_of_le (at_lt e) z)) (h.same n o s e)⟩
theorem bind_ok {α β : Type} {a : α} {A : AH} {k : α → AH → Rs β} : (Rs.ok a A).bind k = k a A := rfl
theorem bind_err {α β : Type} {c : Str} {fs : List (Str × MV)} {A : AH} {k : α → AH → Rs β} : (Rs.err c fs A : Rs α).bind k = .err c fs A := rfl
theorem bind_bad {α β : Type} {k : α → AH → Rs β} : (Rs.bad : Rs α).bind k = .bad := rfl
theorem fs_ok {α : Type} {a : α} {A : AH} {ρ : ME} {k : α → AH → Fs} : (Rs.ok a A).fs ρ k = k a A := rfl
theorem fs_err {α : Type} {c : Str} {fs : List (Str × MV)} {A : AH} {ρ : ME} {k : α → AH → Fs} : (Rs.err c fs A : Rs α).fs ρ k = .err c fs ρ A := rfl
theorem fs_bad {α : Type} {ρ : ME} {k : α → AH → Fs} : (Rs.bad : Rs α).fs ρ k = .bad := rfl
theorem sz0 : szL [] = true := rfl
theorem sz1 {a : MV} : szL [a] = true := rfl
theorem sz2 {a b : MV} : szL [a, b] = true := rfl
theorem sz3 {a b c : MV} : szL [a, b, c] = true := rfl
theorem sz4 {a b c d : MV} : szL [a, b, c, d] = true := rfl
theorem sz5 {a b c d e : MV} : szL [a, b, c, d, e] = true := rfl
/-! ### fields, methods -/
def fldM (C f : Str) (v : MV) (A : AH) : Rs MV := match insOf C A v with
  | some fs => (match fs.lookup f with
    | some x => .ok x A
    | none => .bad)
  | none => .bad
theorem eFld_def {C f : Str} {fo : FE} {ρ : ME} {A : AH} : eFld C f fo ρ A = (fo ρ A).bind (fldM C f) := rfl
def mthB (C m : Str) (v : MV) (A : AH) : Bool := match insOf C A v with
  | some fs => (fs.lookup m).isNone
  | none => false
theorem eMeth_def {C m : Str} {n k : Nat} {gm : List MV → List MV → List MV} {F : FF} {fo : FE} {fa : FP} {ρ : ME} {A : AH} : eMeth C m n k gm F fo fa ρ A = (fo ρ A).bind fun v A => if mthB C m v A = true then (fa ρ A).bind fun p A => if p.1.length + 1 = n ∧ p.2.length = k then F (gm (v :: p.1) p.2) A else .bad else .bad := by
  unfold eMeth mthB
  cases fo ρ A with
  | ok v B =>
    show (match insOf C B v with | some fs => _ | none => _) = if _ then _ else _
    cases insOf C B v with
    | none => rfl
    | some fs =>
      show (match fs.lookup m with | none => _ | some _ => _) = if (fs.lookup m).isNone = true then _ else _
      cases fs.lookup m <;> rfl
  | err c fs B => rfl
  | bad => rfl
theorem eMake_def {C : Str} {n m : Nat} {gm : List MV → List MV → List MV} {F : FF} {fa : FP} {ρ : ME} {A : AH} : eMake C n m gm F fa ρ A = (fa ρ A).bind fun p A => if p.1.length = n ∧ p.2.length = m then (F (gm (.ref A.length :: p.1) p.2) (A ++ [.ins C []])).bind fun v A' => (match v with
    | .non => .ok (.ref A.length) A'
    | _ => .bad) else .bad := rfl
def putFld (C f : Str) (v y : MV) (A : AH) : Option AH := match v with
  | .ref n => (match A[n]? with
    | some (.ins D fs) => if D = C ∧ fs.length < 900 then some (A.set n (.ins C (putFM f y fs))) else none
    | _ => none)
  | _ => none
theorem sFld_def {C f : Str} {fo fv : FE} {ρ : ME} {A : AH} : Mv.sFld C f fo fv ρ A = (fv ρ A).fs ρ fun y A => (fo ρ A).fs ρ fun v A => match putFld C f v y A with
  | some A' => .nx ρ A'
  | none => .bad := by
  unfold Mv.sFld
  congr 1
  funext y A
  congr 1
  funext v A
  unfold putFld
  cases v with
  | ref n =>
    dsimp only
    cases A[n]? with
    | none => rfl
    | some o => cases o with
      | ins D fs =>
        dsimp only
        by_cases h : D = C ∧ fs.length < 900
        · rw [if_pos h, if_pos h]
        · rw [if_neg h, if_neg h]
      | _ => rfl
  | _ => rfl
section
variable {A : AH} {n : Nat} {C f : Str} {fs : List (Str × MV)} {x y : MV}
theorem insOf_at (h : A[n]? = some (.ins C fs)) : insOf C A (.ref n) = some fs := by
  unfold insOf
  dsimp only
  rw [h]
  dsimp only
  rw [if_pos rfl]
theorem fld_at (h : A[n]? = some (.ins C fs)) (q : fs.lookup f = some x) : fldM C f (.ref n) A = .ok x A := by
  unfold fldM
  rw [insOf_at h]
  dsimp only
  rw [q]
theorem mth_at (h : A[n]? = some (.ins C fs)) (q : (fs.lookup f).isNone = true) : mthB C f (.ref n) A = true := by
  unfold mthB
  rw [insOf_at h]
  exact q
theorem putFld_at (h : A[n]? = some (.ins C fs)) (q : fs.length < 900) : putFld C f (.ref n) y A = some (A.set n (.ins C (putFM f y fs))) := by
  unfold putFld
  dsimp only
  rw [h]
  dsimp only
  rw [if_pos ⟨rfl, q⟩]
theorem dctV_at {kvs : List (L2.Key × MV)} (h : A[n]? = some (.dct kvs)) : dctV A (.ref n) = some kvs := by
  unfold dctV
  dsimp only
  rw [h]
theorem dctV_lk {kvs : List (L2.Key × MV)} (h : A[n]? = some (.lkd kvs)) : dctV A (.ref n) = some kvs := by
  unfold dctV
  dsimp only
  rw [h]
theorem lstV_at {xs : List MV} (h : A[n]? = some (.lst xs)) : lstV A (.ref n) = some xs := by
  unfold lstV
  dsimp only
  rw [h]
theorem ix_dct {kvs : List (L2.Key × MV)} {k : Str} (h : dctV A (.ref n) = some kvs) (q : valM kvs (.inr k) = some x) : ixM (.ref n) (.str k) A = .ok x A := by
  unfold ixM
  rw [h]
  dsimp only [keyOf]
  rw [q]
end
theorem ix_lst {A : AH} {s : Nat} {xs : List MV} {j : Int} {v : MV} (h : A[s]? = some (.lst xs)) (e : L2.atI xs j = some v) : ixM (.ref s) (.int j) A = .ok v A := by
  simp only [ixM, dctV, tupOf, lstV, h, e]
theorem ix_tup {A : AH} {xs : List MV} {j : Int} {v : MV} (e : L2.atI xs j = some v) : ixM (.tup xs) (.int j) A = .ok v A := by
  simp only [ixM, dctV, tupOf, e]
theorem set_src {A : AH} {s m : Nat} {xs : List MV} {j : Int} {v : MV} (h : A[s]? = some (.lst xs)) (e : L2.ixN xs.length j = some m) : setM (.ref s) (.int j) v A = some (A.set s (.lst (xs.set m v))) := by
  simp only [setM, dctW, lstW, h, e]
theorem emod_lt {x k : Int} (h : 0 < k) : 0 ≤ x % k ∧ x % k < k := ⟨Int.emod_nonneg _ (by omega), Int.emod_lt_of_pos _ h⟩
end Rp
/-! Sp1: comparisons; comprehensions; locks -/
namespace Rp
open PySem PySem.Spec PyProof.Rows Mv Rf
def oV : Option Str → MV
  | none => .non
  | some x => .str x
def spV (p : Str × Str) : MV := .tup [.str p.1, .str p.2]
theorem beq_dec {α : Type} [BEq α] [LawfulBEq α] [DecidableEq α] (a b : α) : (a == b) = decide (a = b) := by
  by_cases h : a = b
  · rw [decide_eq_true h, h]; exact beq_self_eq_true b
  · rw [decide_eq_false h]; exact beq_false_of_ne h
theorem eq_str {a b : Str} {A : AH} : eqM (.str a) (.str b) A = .ok (.bl (decide (a = b))) A := by
  have : PyData.eqv (.str a) (.str b) = decide (a = b) := by simp only [PyData.eqv]; exact beq_dec a b
  show (if okD (.str a) && okD (.str b) then Rs.ok (MV.bl (PyData.eqv (.str a) (.str b))) A else Rs.bad) = _
  rw [this]
  rfl
theorem ne_str {a b : Str} {A : AH} : neM (.str a) (.str b) A = .ok (.bl (!decide (a = b))) A := by
  have : PyData.eqv (.str a) (.str b) = decide (a = b) := by simp only [PyData.eqv]; exact beq_dec a b
  show (if okD (.str a) && okD (.str b) then Rs.ok (MV.bl (!PyData.eqv (.str a) (.str b))) A else Rs.bad) = _
  rw [this]
  rfl
theorem eq_int {a b : Int} {A : AH} : eqM (.int a) (.int b) A = .ok (.bl (decide (a = b))) A := by
  have : PyData.eqv (.int a) (.int b) = decide (a = b) := by simp only [PyData.eqv]; exact beq_dec a b
  show (if okD (.int a) && okD (.int b) then Rs.ok (MV.bl (PyData.eqv (.int a) (.int b))) A else Rs.bad) = _
  rw [this]
  rfl
theorem ne_int {a b : Int} {A : AH} : neM (.int a) (.int b) A = .ok (.bl (!decide (a = b))) A := by
  have : PyData.eqv (.int a) (.int b) = decide (a = b) := by simp only [PyData.eqv]; exact beq_dec a b
  show (if okD (.int a) && okD (.int b) then Rs.ok (MV.bl (!PyData.eqv (.int a) (.int b))) A else Rs.bad) = _
  rw [this]
  rfl
theorem ne_o {a b : Option Str} {A : AH} : neM (oV a) (oV b) A = .ok (.bl (!decide (a = b))) A := by
  cases a with
  | none => cases b with
    | none => rfl
    | some b => rfl
  | some a => cases b with
    | none => rfl
    | some b =>
      rw [show decide (some a = some b) = decide (a = b) by simp]
      exact ne_str
theorem eqv_sp (p q : Str × Str) : PyData.eqv (.tuple [.str p.1, .str p.2]) (.tuple [.str q.1, .str q.2]) = decide (p = q) := by
  obtain ⟨a, b⟩ := p
  obtain ⟨c, d⟩ := q
  rw [show decide ((a, b) = (c, d)) = (decide (a = c) && decide (b = d)) by simp]
  rw [← beq_dec, ← beq_dec]
  simp [PyData.eqv, PyData.eqvAll]
theorem ne_sp {p q : Str × Str} {A : AH} : neM (spV p) (spV q) A = .ok (.bl (!decide (p = q))) A := by
  show (if okD (.tuple [.str p.1, .str p.2]) && okD (.tuple [.str q.1, .str q.2]) then Rs.ok (MV.bl (!PyData.eqv (.tuple [.str p.1, .str p.2]) (.tuple [.str q.1, .str q.2]))) A else Rs.bad) = _
  rw [eqv_sp]
  rfl
/-- a thing is equal to itself -/
def good (v : MV) : Bool := match datM v with
  | some d => okD d
  | none => false
theorem datA_of {v : MV} {d : PyData} {A : AH} (h : datM v = some d) : datA A v = some d := by
  cases v with
  | ref n => simp only [datM] at h; cases h
  | _ => exact h
theorem ne_self {v : MV} {A : AH} (h : good v = true) : neM v v A = .ok (.bl false) A := by
  unfold good at h
  split at h
  · rename_i d e
    have p : d.plain = true := by unfold okD at h; simp at h; exact h.1
    unfold neM
    rw [datA_of e]
    simp only [h, Bool.and_self, if_true, SeqAt.eqv_refl_plain d p, Bool.not_true]
  · cases h
theorem eq_self {v : MV} {A : AH} (h : good v = true) : eqM v v A = .ok (.bl true) A := by
  unfold good at h
  split at h
  · rename_i d e
    have p : d.plain = true := by unfold okD at h; simp at h; exact h.1
    unfold eqM
    rw [datA_of e]
    simp only [h, Bool.and_self, if_true, SeqAt.eqv_refl_plain d p]
  · cases h
/-! ### picks -/
theorem atI_mem {xs : List MV} {d : Int} (h0 : 0 ≤ d) (h1 : d < xs.length) : ∃ v ∈ xs, L2.atI xs d = some v := by
  have hl : d.toNat < xs.length := by omega
  refine ⟨xs[d.toNat], List.getElem_mem hl, ?_⟩
  unfold L2.atI L2.ixN
  rw [if_pos h0, if_pos h1]
  exact List.getElem?_eq_getElem hl
/-! ### comprehensions that only read -/
section
variable {γ : Type} {is : List Nat} {g : MV → Option (List MV)} {q : FQ} {ρ : ME} {A : AH} {inj : γ → MV} {h : γ → List MV}
theorem qRun_ys : ∀ {ys : List γ}, (∀ y ∈ ys, ∃ ms, g (inj y) = some ms ∧ q (setAllM ρ is ms) A = .ok (h y) A) → qRun is g q (ys.map inj) ρ A = .ok (ys.flatMap h) A
  | [], _ => rfl
  | y :: ys, H => by
    obtain ⟨ms, e1, e2⟩ := H y (List.mem_cons_self ..)
    rw [List.map_cons]
    unfold qRun
    rw [e1]
    dsimp only
    rw [e2]
    dsimp only
    rw [qRun_ys fun z hz => H z (List.mem_cons_of_mem _ hz)]
    rfl
end
theorem szL_le {vs : List MV} (h : vs.length ≤ 1000) : szL vs = true := decide_eq_true (Nat.le_trans h (by decide))
/-- lists without doubles within another -/
theorem nodup_le : ∀ {l m : List Str}, l.Nodup → (∀ x ∈ l, x ∈ m) → l.length ≤ m.length
  | [], _, _, _ => Nat.zero_le _
  | x :: l, m, nd, h => by
    rw [List.nodup_cons] at nd
    have hm := h x (List.mem_cons_self ..)
    have := nodup_le (l := l) (m := m.erase x) nd.2 fun y hy => (List.mem_erase_of_ne (fun z => nd.1 (by rw [← z]; exact hy))).mpr (h y (List.mem_cons_of_mem _ hy))
    rw [List.length_erase_of_mem hm] at this
    have p : 0 < m.length := List.length_pos_of_mem hm
    rw [List.length_cons]
    omega
section
variable {γ : Type} {fi : FL} {own is : List Nat} {g : MV → Option (List MV)} {q : FQ} {ρ : ME} {A : AH} {inj : γ → MV} {h : γ → List MV} {ys : List γ}
theorem lc_ys (h1 : fi ρ A = .ok (ys.map inj) A) (H : ∀ y ∈ ys, ∃ ms, g (inj y) = some ms ∧ q (setAllM (wipeM ρ own) is ms) A = .ok (h y) A) (z : szL (ys.flatMap h) = true) : aLc fi own is g q ρ A = .ok (ys.flatMap h) A := by
  unfold aLc
  rw [h1, bind_ok, qRun_ys H]
  dsimp only
  rw [if_pos z]
end
theorem bls_map : ∀ bs : List Bool, blsOf (bs.map MV.bl) = some bs
  | [] => rfl
  | b :: bs => by
    show (blsOf (bs.map MV.bl)).map (b :: ·) = _
    rw [bls_map bs]
    rfl
theorem flat_bl {γ : Type} {f : γ → Bool} : ∀ {ys : List γ}, ys.flatMap (fun y => [MV.bl (f y)]) = (ys.map f).map MV.bl
  | [] => rfl
  | y :: ys => by rw [List.flatMap_cons, flat_bl (ys := ys)]; rfl
theorem flat_one {γ : Type} {f : γ → MV} : ∀ {ys : List γ}, ys.flatMap (fun y => [f y]) = ys.map f
  | [] => rfl
  | y :: ys => by rw [List.flatMap_cons, flat_one (ys := ys)]; rfl
theorem all_bls {f : List Bool → Bool} {bs : List Bool} {A : AH} : allM f [.lst (bs.map MV.bl)] A = .ok (.bl (f bs)) A := by
  unfold allM
  dsimp only [lstV]
  rw [bls_map]
theorem all_true {γ : Type} : ∀ {ys : List γ}, (ys.map fun _ => true).all id = true
  | [] => rfl
  | y :: ys => by rw [List.map_cons, List.all_cons, all_true]; rfl
/-- all([.. for y in ys]), each of them true -/
theorem lc_true {γ : Type} {fi : FL} {own is : List Nat} {g : MV → Option (List MV)} {q : FQ} {ρ : ME} {A : AH} {inj : γ → MV} {ys : List γ} (h1 : fi ρ A = .ok (ys.map inj) A) (H : ∀ y ∈ ys, ∃ ms, g (inj y) = some ms ∧ q (setAllM (wipeM ρ own) is ms) A = .ok [.bl true] A) (z : ys.length ≤ 1000) :
    aLc fi own is g q ρ A = .ok ((ys.map fun _ => true).map MV.bl) A := by
  rw [← flat_bl (f := fun _ => true)]
  exact lc_ys h1 H (by rw [flat_bl]; exact szL_le (by rw [List.length_map, List.length_map]; exact z))
section
variable {A : AH}
theorem set_back {n : Nat} {o o' : MO} (h : A[n]? = some o) : (A.set n o').set n o = A := by
  rw [List.set_set]
  apply List.ext_getElem?
  intro m
  by_cases z : n = m
  · subst z; rw [set_at h, h]
  · rw [set_ne z]
theorem set_same {n : Nat} {o : MO} (h : A[n]? = some o) : A.set n o = A := by
  have := set_back (o' := o) h
  rwa [List.set_set] at this
theorem locks_ok {g : FL} {ρ : ME} {v : List MV} (hg : ∀ B, g ρ B = .ok v B) : ∀ {ns : List Nat} {A : AH}, ns.Nodup → (∀ n ∈ ns, ∃ xs, A[n]? = some (.lst xs)) → aLocks ns g ρ A = .ok v A
  | [], A, _, _ => hg A
  | n :: ns, A, nd, h => by
    obtain ⟨xs, e⟩ := h n (List.mem_cons_self ..)
    rw [List.nodup_cons] at nd
    have ih := locks_ok hg (ns := ns) (A := A.set n (.lkl xs)) nd.2 fun m hm => by
      obtain ⟨ys, q⟩ := h m (List.mem_cons_of_mem _ hm)
      exact ⟨ys, by rw [set_ne (fun z => nd.1 (by rw [z]; exact hm))]; exact q⟩
    unfold aLocks aLock
    dsimp only
    rw [e]
    dsimp only [lkO]
    rw [ih]
    dsimp only
    rw [set_back e]
theorem lkd_ok {g : FL} {ρ : ME} {v : List MV} (hg : ∀ B, g ρ B = .ok v B) : aLkD g ρ A = .ok v A := by
  unfold aLkD
  refine locks_ok hg (List.Pairwise.filter _ List.nodup_range) fun n hn => ?_
  have := (List.mem_filter.mp hn).2
  split at this
  · rename_i xs q; exact ⟨xs, q⟩
  · cases this
end
theorem loopI {body : MV → FS} {I : ME → AH → Prop} : ∀ (xs : List MV) (ρ : ME) (A : AH), I ρ A → (∀ x ∈ xs, ∀ ρ A, I ρ A → ∃ ρ' A', body x ρ A = .nx ρ' A' ∧ I ρ' A') → ∃ ρ' A', runL body xs ρ A = .nx ρ' A' ∧ I ρ' A'
  | [], ρ, A, h, _ => ⟨ρ, A, rfl, h⟩
  | x :: xs, ρ, A, h, H => by
    obtain ⟨ρ1, A1, e, h1⟩ := H x (List.mem_cons_self ..) ρ A h
    obtain ⟨ρ2, A2, e2, h2⟩ := loopI xs ρ1 A1 h1 fun y hy => H y (List.mem_cons_of_mem _ hy)
    refine ⟨ρ2, A2, ?_, h2⟩
    unfold runL
    rw [e]
    exact e2
theorem turn1 {i : Nat} {body : FS} {x : MV} {ρ : ME} {A : AH} : turn [i] gNm body x ρ A = body (ρ.set i (some x)) A := rfl
theorem datMs_str : ∀ ks : List Str, datMs (ks.map MV.str) = some (ks.map PyData.str)
  | [] => rfl
  | k :: ks => by
    show (match datM (.str k), datMs (ks.map MV.str) with | some d, some ds => some (d :: ds) | _, _ => none) = _
    rw [datMs_str ks]
    rfl
theorem okD_strs (ks : List Str) : okD (.list (ks.map PyData.str)) = true := by
  have h1 : PyData.plainAll (ks.map PyData.str) = true := by
    induction ks with
    | nil => rfl
    | cons e es ih =>
      show (PyData.plain (.str e) && PyData.plainAll (es.map PyData.str)) = true
      rw [ih]
      rfl
  have h2 : PyData.depthAll (ks.map PyData.str) ≤ 0 := by
    clear h1
    induction ks with
    | nil => decide
    | cons e es ih =>
      simp only [List.map_cons, PyData.depthAll, PyData.depth]
      omega
  show (PyData.plainAll (ks.map PyData.str) && decide (PyData.depthAll (ks.map PyData.str) + 1 ≤ 60)) = true
  rw [h1, decide_eq_true (by omega)]
  rfl
theorem good_strs (ks : List Str) : good (.tup (ks.map MV.str)) = true := by
  unfold good
  rw [show datM (.tup (ks.map MV.str)) = some (.tuple (ks.map PyData.str)) by simp only [datM, datMs_str, Option.map_some]]
  exact okD_strs ks
theorem all_mem {α : Type} {p : α → Prop} : ∀ {l : List α}, l.foldr (fun a r => p a ∧ r) True → ∀ c ∈ l, p c
  | [], _, _, h => by cases h
  | a :: l, ⟨h1, h2⟩, c, h => by
    cases h with
    | head => exact h1
    | tail _ h => exact all_mem h2 c h
end Rp
/-! Sp2: dicts with texts as keys, as plain lists of pairs -/
namespace Rp
open PySem PySem.Spec PyProof.Rows Mv Rf
abbrev Tb (β : Type) := List (Str × β)
section
variable {β : Type}
def keys (T : Tb β) : List Str := T.map (·.1)
def get : Tb β → Str → Option β
  | [], _ => none
  | p :: r, k => if p.1 = k then some p.2 else get r k
def put (T : Tb β) (k : Str) (v : β) : Tb β := if k ∈ keys T then T.map (fun p => if p.1 = k then (p.1, v) else p) else T ++ [(k, v)]
def drop (T : Tb β) (k : Str) : Tb β := T.filter fun p => decide (p.1 ≠ k)
theorem get_cons {p : Str × β} {r : Tb β} {k : Str} : get (p :: r) k = if p.1 = k then some p.2 else get r k := rfl
theorem get_none {T : Tb β} {k : Str} : get T k = none ↔ k ∉ keys T := by
  induction T with
  | nil => simp [get, keys]
  | cons p r ih =>
    by_cases h : p.1 = k
    · simp [get, keys, h]
    · have h' : k ≠ p.1 := fun e => h e.symm
      simp only [get, h, if_false, ih, keys, List.map_cons, List.mem_cons, h', false_or]
theorem get_mem {T : Tb β} {k : Str} {v : β} (h : get T k = some v) : (k, v) ∈ T := by
  induction T with
  | nil => cases h
  | cons p r ih =>
    unfold get at h
    by_cases e : p.1 = k
    · rw [if_pos e] at h
      cases h
      rw [← e]
      exact List.mem_cons_self ..
    · rw [if_neg e] at h
      exact List.mem_cons_of_mem _ (ih h)
theorem get_isSome {T : Tb β} {k : Str} : (get T k).isSome = decide (k ∈ keys T) := by
  cases h : get T k with
  | none => rw [decide_eq_false (get_none.mp h)]; rfl
  | some v => rw [decide_eq_true]; rfl; exact Decidable.byContradiction fun z => by rw [get_none.mpr z] at h; cases h
theorem mem_get {T : Tb β} {k : Str} (h : k ∈ keys T) : ∃ v, get T k = some v := by
  cases e : get T k with
  | none => exact absurd h (get_none.mp e)
  | some v => exact ⟨v, rfl⟩
theorem get_of_mem {T : Tb β} (nd : (keys T).Nodup) {k : Str} {v : β} (h : (k, v) ∈ T) : get T k = some v := by
  induction T with
  | nil => cases h
  | cons p r ih =>
    rw [keys, List.map_cons, List.nodup_cons] at nd
    unfold get
    cases h with
    | head => rw [if_pos rfl]
    | tail _ h =>
      rw [if_neg (fun e => nd.1 (by rw [e]; exact List.mem_map_of_mem (f := (·.1)) h))]
      exact ih nd.2 h
theorem get_app {T U : Tb β} {k : Str} : get (T ++ U) k = (get T k).or (get U k) := by
  induction T with
  | nil => rfl
  | cons p r ih =>
    show (if p.1 = k then some p.2 else get (r ++ U) k) = (if p.1 = k then some p.2 else get r k).or (get U k)
    by_cases h : p.1 = k
    · rw [if_pos h, if_pos h]; rfl
    · rw [if_neg h, if_neg h]; exact ih
theorem get_put {T : Tb β} {k j : Str} {v : β} : get (put T k v) j = if j = k then some v else get T j := by
  unfold put
  by_cases h : k ∈ keys T
  · rw [if_pos h]
    induction T with
    | nil => cases h
    | cons p r ih =>
      rw [List.map_cons]
      unfold get
      by_cases e : p.1 = k
      · rw [if_pos e]
        by_cases ej : p.1 = j
        · rw [if_pos ej, if_pos (ej.symm.trans e)]
        · rw [if_neg ej]
          have hjk : j ≠ k := fun z => ej (e.trans z.symm)
          rw [if_neg hjk]
          rw [if_neg ej]
          clear ih h
          induction r with
          | nil => rfl
          | cons q r ih2 =>
            rw [List.map_cons]
            unfold get
            by_cases eq : q.1 = k
            · rw [if_pos eq]
              have : ¬ q.1 = j := fun z => hjk (z.symm.trans eq)
              dsimp only
              rw [if_neg this, if_neg this]
              exact ih2
            · rw [if_neg eq]
              by_cases z : q.1 = j
              · rw [if_pos z, if_pos z]
              · rw [if_neg z, if_neg z]
                exact ih2
      · rw [if_neg e]
        have hr : k ∈ keys r := by
          cases h with
          | head => exact absurd rfl e
          | tail _ h => exact h
        by_cases ej : p.1 = j
        · rw [if_pos ej, if_pos ej, if_neg (fun z => e (ej.trans z))]
        · rw [if_neg ej, if_neg ej]
          exact ih hr
  · rw [if_neg h, get_app]
    by_cases e : j = k
    · rw [if_pos e, e, get_none.mpr h]
      show get [(k, v)] k = some v
      unfold get
      rw [if_pos rfl]
    · rw [if_neg e]
      have : get [(k, v)] j = none := by
        unfold get
        rw [if_neg (fun z => e z.symm)]
        rfl
      rw [this, Option.or_none]
theorem get_drop {T : Tb β} {k j : Str} : get (drop T k) j = if j = k then none else get T j := by
  unfold drop
  induction T with
  | nil => simp [get]
  | cons p r ih =>
    rw [List.filter_cons]
    by_cases e : p.1 = k
    · rw [if_neg (by simp [e]), ih]
      by_cases ej : j = k
      · rw [if_pos ej, if_pos ej]
      · rw [if_neg ej, if_neg ej]
        show _ = (if p.1 = j then some p.2 else get r j)
        rw [if_neg (fun z => ej (z.symm.trans e))]
    · rw [if_pos (by simp [e])]
      show (if p.1 = j then some p.2 else get (r.filter _) j) = _
      rw [ih]
      by_cases ej : j = k
      · rw [if_pos ej, if_pos ej, if_neg (fun z => e (z.trans ej))]
      · rw [if_neg ej, if_neg ej]
        rfl
theorem keys_put {T : Tb β} {k : Str} {v : β} : keys (put T k v) = if k ∈ keys T then keys T else keys T ++ [k] := by
  unfold put
  by_cases h : k ∈ keys T
  · rw [if_pos h, if_pos h]
    unfold keys
    rw [List.map_map]
    apply List.map_congr_left
    intro p _
    show (if p.1 = k then (p.1, v) else p).1 = p.1
    split <;> rfl
  · rw [if_neg h, if_neg h]
    unfold keys
    rw [List.map_append]
    rfl
theorem nodup_put {T : Tb β} {k : Str} {v : β} (h : (keys T).Nodup) : (keys (put T k v)).Nodup := by
  rw [keys_put]
  split
  · exact h
  · rename_i q
    rw [List.nodup_append]
    refine ⟨h, by simp, fun a ha b hb => ?_⟩
    rw [List.mem_singleton] at hb
    exact fun z => q (by rw [← hb, ← z]; exact ha)
theorem keys_drop {T : Tb β} {k : Str} : keys (drop T k) = (keys T).filter fun x => decide (x ≠ k) := by
  unfold drop keys
  rw [List.filter_map]
  rfl
theorem nodup_drop {T : Tb β} {k : Str} (h : (keys T).Nodup) : (keys (drop T k)).Nodup := by
  rw [keys_drop]
  exact h.filter _
theorem all_put {P : Str → β → Prop} {T : Tb β} {k : Str} {v : β} (h : ∀ p ∈ T, P p.1 p.2) (hv : P k v) : ∀ p ∈ put T k v, P p.1 p.2 := by
  intro p hp
  unfold put at hp
  split at hp
  · obtain ⟨q, hq, rfl⟩ := List.mem_map.mp hp
    split
    · rename_i e; rw [← e] at hv; exact hv
    · exact h q hq
  · rcases List.mem_append.mp hp with hp | hp
    · exact h p hp
    · rw [List.mem_singleton] at hp
      rw [hp]
      exact hv
theorem all_drop {P : Str → β → Prop} {T : Tb β} {k : Str} (h : ∀ p ∈ T, P p.1 p.2) : ∀ p ∈ drop T k, P p.1 p.2 := fun p hp => h p (List.mem_filter.mp hp).1
/-! ### as dicts -/
def mapK (f : β → MV) (T : Tb β) : List (L2.Key × MV) := T.map fun p => (.inr p.1, f p.2)
variable {f : β → MV} {T : Tb β} {k : Str} {v : β}
theorem val_mapK : valM (mapK f T) (.inr k) = (get T k).map f := by
  unfold valM mapK
  induction T with
  | nil => rfl
  | cons p r ih =>
    rw [List.map_cons, List.find?_cons]
    by_cases h : p.1 = k
    · simp [get, h]
    · simp only [Sum.inr.injEq, h, decide_false, get, if_false]
      exact ih
theorem put_mapK : putM (mapK f T) (.inr k) (f v) = mapK f (put T k v) := by
  unfold putM put
  have a : ((mapK f T).any fun kv => decide (kv.1 = .inr k)) = decide (k ∈ keys T) := by
    unfold mapK keys
    rw [List.any_map]
    by_cases h : k ∈ T.map (·.1)
    · rw [decide_eq_true h]
      obtain ⟨p, hp, e⟩ := List.mem_map.mp h
      exact List.any_eq_true.mpr ⟨p, hp, by simp [e]⟩
    · rw [decide_eq_false h]
      refine List.any_eq_false.mpr fun p hp => ?_
      simp only [Function.comp, Sum.inr.injEq, decide_eq_true_eq]
      exact fun e => h (List.mem_map.mpr ⟨p, hp, e⟩)
  rw [a]
  by_cases h : k ∈ keys T
  · rw [decide_eq_true h, if_pos rfl, if_pos h]
    unfold mapK
    rw [List.map_map, List.map_map]
    apply List.map_congr_left
    intro p _
    simp only [Function.comp, Sum.inr.injEq]
    split <;> rfl
  · rw [decide_eq_false h, if_neg Bool.false_ne_true, if_neg h]
    unfold mapK
    rw [List.map_append]
    rfl
theorem drop_mapK : dropM (mapK f T) (.inr k) = mapK f (drop T k) := by
  unfold dropM mapK drop
  rw [List.filter_map]
  congr 1
  apply List.filter_congr
  intro p _
  simp [Function.comp]
theorem keyStrs_mapK : keyStrs (mapK f T) = some (keys T) := by
  induction T with
  | nil => rfl
  | cons p r ih =>
    show (keyStrs (mapK f r)).map (p.1 :: ·) = some (keys (p :: r))
    rw [ih]
    rfl
theorem len_mapK : (mapK f T).length = T.length := List.length_map ..
theorem mapK_nil : mapK f [] = [] := rfl
/-! ### in order -/
def skeys (T : Tb β) : List Str := sortS (keys T)
theorem mem_skeys {k : Str} : k ∈ skeys T ↔ k ∈ keys T := (sortS_perm _).mem_iff
theorem nodup_skeys (h : (keys T).Nodup) : (skeys T).Nodup := (sortS_perm _).nodup_iff.mpr h
theorem skeys_eq {γ : Type} {U : Tb γ} (h : (keys T).Nodup) (h' : (keys U).Nodup) (e : ∀ k, k ∈ keys T ↔ k ∈ keys U) : skeys T = skeys U :=
  asc_unique ((sortS_perm _).trans (((List.perm_ext_iff_of_nodup h h').mpr e).trans (sortS_perm _).symm)) (sortS_asc _) (sortS_asc _)
theorem keys_of_get {γ : Type} {U : Tb γ} (e : ∀ k, (get T k).isSome = (get U k).isSome) : ∀ k, k ∈ keys T ↔ k ∈ keys U := fun k => by
  have := e k
  rw [get_isSome, get_isSome] at this
  exact decide_eq_decide.mp this
theorem len_eq {γ : Type} {U : Tb γ} (h : (keys T).Nodup) (h' : (keys U).Nodup) (e : ∀ k, k ∈ keys T ↔ k ∈ keys U) : T.length = U.length := by
  have := ((List.perm_ext_iff_of_nodup h h').mpr e).length_eq
  unfold keys at this
  rwa [List.length_map, List.length_map] at this
/-- some keys in a row, with what stands at them -/
def rowOf (T : Tb β) (ks : List Str) : Tb β := ks.filterMap fun k => (get T k).map fun v => (k, v)
theorem keys_rowOf {ks : List Str} (h : ∀ k ∈ ks, k ∈ keys T) : keys (rowOf T ks) = ks := by
  induction ks with
  | nil => rfl
  | cons k r ih =>
    obtain ⟨v, e⟩ := mem_get (h k (List.mem_cons_self ..))
    show (List.map _ (List.filterMap _ (k :: r))) = _
    rw [List.filterMap_cons]
    simp only [e, Option.map_some, List.map_cons]
    congr 1
    exact ih fun j hj => h j (List.mem_cons_of_mem _ hj)
theorem get_rowOf {ks : List Str} {j : Str} : get (rowOf T ks) j = if j ∈ ks then get T j else none := by
  induction ks with
  | nil => rfl
  | cons k r ih =>
    unfold rowOf at *
    rw [List.filterMap_cons]
    cases e : get T k with
    | none =>
      simp only [Option.map_none]
      rw [ih]
      by_cases z : j = k
      · subst z
        rw [if_pos (List.mem_cons_self ..), e]
        split <;> rfl
      · have : (j ∈ k :: r) ↔ j ∈ r := by simp [z]
        simp only [this]
    | some v =>
      simp only [Option.map_some]
      rw [get_cons]
      by_cases z : j = k
      · subst z
        rw [if_pos rfl, if_pos (List.mem_cons_self ..)]
        exact e.symm
      · rw [if_neg (fun q => z q.symm), ih]
        have : (j ∈ k :: r) ↔ j ∈ r := by simp [z]
        simp only [this]
theorem all_rowOf {P : Str → β → Prop} {ks : List Str} (h : ∀ p ∈ T, P p.1 p.2) : ∀ p ∈ rowOf T ks, P p.1 p.2 := by
  intro p hp
  unfold rowOf at hp
  obtain ⟨k, _, e⟩ := List.mem_filterMap.mp hp
  cases q : get T k with
  | none => rw [q] at e; cases e
  | some v => rw [q] at e; cases e; exact h _ (get_mem q)
end
end Rp
/-! Sp3: histories, plain: names with their parents; what is reached -/
namespace Rp
open PySem PySem.Spec PyProof.Rows Mv Rf
/-- names, each with its parents and its time, parents first -/
abbrev Fa := Tb (List Str × Int)
def par (F : Fa) (x : Str) : List Str := match get F x with
  | some p => p.1
  | none => []
inductive Rch (F : Fa) (S : Str → Prop) : Str → Prop where
  | base {x : Str} : S x → Rch F S x
  | step {x y : Str} : Rch F S x → y ∈ par F x → Rch F S y
structure FaOk (F : Fa) : Prop where
  nd : (keys F).Nodup
  len : F.length ≤ 60
  pl : ∀ p ∈ F, p.2.1.length ≤ 6
  ord : ∀ P p R, F = P ++ p :: R → ∀ y ∈ p.2.1, y ∈ keys P
theorem par_of {F : Fa} {x : Str} {p : List Str × Int} (h : get F x = some p) : par F x = p.1 := by
  unfold par
  rw [h]
theorem FaOk.cl {F : Fa} (h : FaOk F) {x y : Str} (hy : y ∈ par F x) : y ∈ keys F := by
  unfold par at hy
  cases e : get F x with
  | none => rw [e] at hy; cases hy
  | some p =>
    rw [e] at hy
    obtain ⟨P, R, e2⟩ := List.append_of_mem (get_mem e)
    have := h.ord P (x, p) R e2 y hy
    rw [e2]
    unfold keys at *
    rw [List.map_append]
    exact List.mem_append_left _ this
theorem FaOk.par_len {F : Fa} (h : FaOk F) (x : Str) : (par F x).length ≤ 6 := by
  unfold par
  cases e : get F x with
  | none => exact Nat.zero_le _
  | some p => exact h.pl _ (get_mem e)
theorem FaOk.rch {F : Fa} (h : FaOk F) {S : Str → Prop} (hS : ∀ x, S x → x ∈ keys F) {x : Str} (hx : Rch F S x) : x ∈ keys F := by
  cases hx with
  | base h => exact hS _ h
  | step _ q => exact h.cl q
theorem Rch.mono {F : Fa} {S T : Str → Prop} (h : ∀ x, S x → Rch F T x) {x : Str} (hx : Rch F S x) : Rch F T x := by
  induction hx with
  | base q => exact h _ q
  | step _ q ih => exact .step ih q
/-- one step down first -/
theorem rch_down {F : Fa} {x z : Str} : Rch F (fun y => y = x) z ↔ z = x ∨ ∃ y ∈ par F x, Rch F (fun w => w = y) z := by
  constructor
  · intro h
    induction h with
    | base q => exact .inl q
    | @step a b h1 q ih =>
      rcases ih with e | ⟨y, hy, r⟩
      · rw [e] at q
        exact .inr ⟨b, q, .base rfl⟩
      · exact .inr ⟨y, hy, .step r q⟩
  · intro h
    rcases h with rfl | ⟨y, hy, r⟩
    · exact .base rfl
    · exact r.mono fun w e => by rw [e]; exact .step (.base rfl) hy
/-! ### the search's invariant -/
structure Sea (F : Fa) (S : Str → Prop) (fd : Tb Unit) (ah : List Str) : Prop where
  nd : (keys fd).Nodup
  f : ∀ x ∈ keys fd, x ∈ keys F ∧ Rch F S x
  a : ∀ x ∈ ah, x ∈ keys F ∧ Rch F S x
  c : ∀ x ∈ keys fd, ∀ y ∈ par F x, y ∈ keys fd ∨ y ∈ ah
  s : ∀ x, S x → x ∈ keys fd ∨ x ∈ ah
theorem Sea.end_ {F : Fa} {S : Str → Prop} {fd : Tb Unit} (h : Sea F S fd []) (x : Str) : x ∈ keys fd ↔ Rch F S x := by
  constructor
  · exact fun q => (h.f x q).2
  · intro q
    induction q with
    | base q => exact (h.s _ q).elim id fun z => by cases z
    | step _ q ih => exact (h.c _ ih _ q).elim id fun z => by cases z
theorem Sea.old {F : Fa} {S : Str → Prop} {fd : Tb Unit} {ah : List Str} {x : Str} (h : Sea F S fd (ah ++ [x])) (hx : x ∈ keys fd) : Sea F S fd ah :=
  ⟨h.nd, h.f, fun y hy => h.a y (List.mem_append_left _ hy), fun y hy z hz => (h.c y hy z hz).elim .inl fun q => (List.mem_append.mp q).elim .inr fun q => .inl (by rw [List.mem_singleton.mp q]; exact hx),
    fun y hy => (h.s y hy).elim .inl fun q => (List.mem_append.mp q).elim .inr fun q => .inl (by rw [List.mem_singleton.mp q]; exact hx)⟩
theorem keys_put_unit {fd : Tb Unit} {x : Str} (hx : x ∉ keys fd) : keys (put fd x ()) = keys fd ++ [x] := by rw [keys_put, if_neg hx]
theorem Sea.new {F : Fa} {S : Str → Prop} {fd : Tb Unit} {ah : List Str} {x : Str} (ok : FaOk F) (h : Sea F S fd (ah ++ [x])) (hx : x ∉ keys fd) : Sea F S (put fd x ()) (ah ++ par F x) := by
  have hxa := h.a x (List.mem_append_right _ (List.mem_singleton.mpr rfl))
  have ke := keys_put_unit hx
  have mv : ∀ z, (z ∈ keys fd ∨ z ∈ ah ++ [x]) → z ∈ keys (put fd x ()) ∨ z ∈ ah ++ par F x := fun z q => by
    rw [ke]
    rcases q with q | q
    · exact .inl (List.mem_append_left _ q)
    · rcases List.mem_append.mp q with q | q
      · exact .inr (List.mem_append_left _ q)
      · exact .inl (List.mem_append_right _ q)
  refine ⟨nodup_put h.nd, fun y hy => ?_, fun y hy => ?_, fun y hy z hz => ?_, fun y hy => mv y (h.s y hy)⟩
  · rw [ke] at hy
    rcases List.mem_append.mp hy with q | q
    · exact h.f y q
    · rw [List.mem_singleton.mp q]; exact hxa
  · rcases List.mem_append.mp hy with q | q
    · exact h.a y (List.mem_append_left _ q)
    · exact ⟨ok.cl q, .step hxa.2 q⟩
  · rw [ke] at hy
    rcases List.mem_append.mp hy with q | q
    · exact mv z (h.c y q z hz)
    · rw [List.mem_singleton.mp q] at hz
      exact .inr (List.mem_append_right _ hz)
/-- the measure that falls -/
def mu (F : Fa) (fd : Tb Unit) (ah : List Str) : Nat := 7 * (F.length - fd.length) + ah.length
theorem Sea.le {F : Fa} {S : Str → Prop} {fd : Tb Unit} {ah : List Str} (h : Sea F S fd ah) : fd.length ≤ F.length := by
  have := nodup_le h.nd (m := keys F) fun x hx => (h.f x hx).1
  unfold keys at this
  rwa [List.length_map, List.length_map] at this
theorem mu_old {F : Fa} {fd : Tb Unit} {ah : List Str} {x : Str} : mu F fd ah + 1 = mu F fd (ah ++ [x]) := by
  unfold mu
  rw [List.length_append]
  simp only [List.length_cons, List.length_nil]
  omega
theorem mu_new {F : Fa} {S : Str → Prop} {fd : Tb Unit} {ah : List Str} {x : Str} (ok : FaOk F) (h : Sea F S fd (ah ++ [x])) (hx : x ∉ keys fd) : mu F (put fd x ()) (ah ++ par F x) < mu F fd (ah ++ [x]) := by
  have h1 := (h.new ok hx).le
  have h2 := ok.par_len x
  have h3 : (put fd x ()).length = fd.length + 1 := by
    have := congrArg List.length (keys_put_unit hx)
    unfold keys at this
    rwa [List.length_map, List.length_append, List.length_map] at this
  unfold mu
  rw [h3] at h1 ⊢
  rw [List.length_append, List.length_append]
  simp only [List.length_cons, List.length_nil]
  omega
end Rp
/-! Sp4: own objects, the store: what is read of them -/
namespace Rp
open PySem PySem.Spec PyProof.Rows Mv Rf
def insB (C : Str) (v : MV) (A : AH) : Bool := (insOf C A v).isSome
theorem eGetI_def {C : Str} {F : FF} {fo fi : FE} {ρ : ME} {A : AH} : eGetI C F fo fi ρ A = (fo ρ A).bind fun v A => (fi ρ A).bind fun w A => if insB C v A = true then F [v, w] A else .bad := by
  unfold eGetI insB
  congr 1
  funext v A
  congr 1
  funext w A
  cases insOf C A v <;> rfl
theorem inO_def {C : Str} {F : FF} {neg : Bool} {fe fo : FE} {ρ : ME} {A : AH} : inO C F neg fe fo ρ A = (fe ρ A).bind fun w A => (fo ρ A).bind fun v A => if insB C v A = true then (F [v, w] A).bind fun r A => (match r with
    | .bl b => .ok (.bl (neg != b)) A
    | _ => .bad) else .bad := by
  unfold inO insB
  congr 1
  funext w A
  congr 1
  funext v A
  cases insOf C A v <;> rfl
def propM (C : Str) (F : FF) (v : MV) (A : AH) : Rs MV := match insN A v with
  | some D => if D = C then (match F [v] A with
    | .ok w A' => .ok w A'
    | _ => .bad) else .bad
  | none => .bad
theorem eProp_def {C : Str} {F : FF} {fo : FE} {ρ : ME} {A : AH} : eProp C F fo ρ A = (fo ρ A).bind (propM C F) := rfl
section
variable {A : AH} {n : Nat} {C : Str} {fs : List (Str × MV)}
theorem insB_at (h : A[n]? = some (.ins C fs)) : insB C (.ref n) A = true := by
  unfold insB
  rw [insOf_at h]
  rfl
theorem insN_at (h : A[n]? = some (.ins C fs)) : insN A (.ref n) = some C := by
  unfold insN
  dsimp only
  rw [h]
theorem propM_at {F : FF} {w : MV} (h : A[n]? = some (.ins C fs)) (q : F [.ref n] A = .ok w A) : propM C F (.ref n) A = .ok w A := by
  unfold propM
  rw [insN_at h]
  dsimp only
  rw [if_pos rfl, q]
theorem isi_own {D : Str} (h : A[n]? = some (.ins C fs)) (hC : own_.contains C = true) (hD : own_.contains D = true) : isiG own_ [.ref n, .glo D] A = .ok (.bl (decide (C = D))) A := by
  unfold isiG clsT
  dsimp only
  rw [insN_at h]
  dsimp only
  rw [if_pos hC]
  dsimp only [isi1]
  rw [if_pos hD]
end
theorem isi_str {A : AH} {x : Str} : isiG own_ [.str x, .ty "str"] A = .ok (.bl true) A := rfl
theorem isi_int {A : AH} {i : Int} : isiG own_ [.int i, .ty "int"] A = .ok (.bl true) A := rfl
theorem isi_int_bool {A : AH} {i : Int} : isiG own_ [.int i, .ty "bool"] A = .ok (.bl false) A := rfl
theorem isi_tup {A : AH} {xs : List MV} : isiG own_ [.tup xs, .ty "tuple"] A = .ok (.bl true) A := rfl
theorem isi_ptp {A : AH} {xs : List MV} : isiG own_ [.ptp xs, .ty "tuple"] A = .ok (.bl true) A := rfl
theorem isi_non {A : AH} : isiG own_ [.non, .glo "Commit"] A = .ok (.bl false) A := rfl
theorem dctV_str {A : AH} {n : Nat} {kvs : List (L2.Key × MV)} (h : A[n]? = some (.dct kvs) ∨ A[n]? = some (.lkd kvs)) : dctV A (.ref n) = some kvs := h.elim dctV_at dctV_lk
theorem inB_dct {β : Type} {A : AH} {n : Nat} {f : β → MV} {T : Tb β} {x : Str} (h : dctV A (.ref n) = some (mapK f T)) : inB (.str x) (.ref n) A = some (decide (x ∈ keys T)) := by
  unfold inB
  dsimp only
  rw [h]
  dsimp only [keyOf]
  rw [val_mapK, Option.isSome_map, get_isSome]
theorem in_dct {β : Type} {A : AH} {n : Nat} {f : β → MV} {T : Tb β} {x : Str} (h : dctV A (.ref n) = some (mapK f T)) : inM (.str x) (.ref n) A = .ok (.bl (decide (x ∈ keys T))) A := by
  unfold inM
  rw [inB_dct h]
theorem notIn_dct {β : Type} {A : AH} {n : Nat} {f : β → MV} {T : Tb β} {x : Str} (h : dctV A (.ref n) = some (mapK f T)) : notInM (.str x) (.ref n) A = .ok (.bl (!decide (x ∈ keys T))) A := by
  unfold notInM
  rw [inB_dct h]
theorem ix_mapK {β : Type} {A : AH} {n : Nat} {f : β → MV} {T : Tb β} {x : Str} {v : β} (h : dctV A (.ref n) = some (mapK f T)) (q : get T x = some v) : ixM (.ref n) (.str x) A = .ok (f v) A := ix_dct h (by rw [val_mapK, q]; rfl)
theorem any_str (x : Str) : ∀ ks : List Str, ((ks.map PyData.str).any fun y => PyData.eqv y (.str x)) = decide (x ∈ ks)
  | [] => rfl
  | k :: ks => by
    rw [List.map_cons, List.any_cons, any_str x ks]
    have : PyData.eqv (.str k) (.str x) = decide (k = x) := by simp only [PyData.eqv]; exact beq_dec k x
    rw [this]
    by_cases h : k = x
    · rw [decide_eq_true h, Bool.true_or, decide_eq_true (by rw [h]; exact List.mem_cons_self ..)]
    · rw [decide_eq_false h, Bool.false_or]
      by_cases q : x ∈ ks
      · rw [decide_eq_true q, decide_eq_true (List.mem_cons_of_mem _ q)]
      · rw [decide_eq_false q, decide_eq_false (fun z => (List.mem_cons.mp z).elim (fun e => h e.symm) q)]
theorem okD_str {x : Str} : okD (.str x) = true := rfl
theorem inB_strs {A : AH} {x : Str} {ks : List Str} : inB (.str x) (.lst (ks.map MV.str)) A = some (decide (x ∈ ks)) := by
  have h1 : datA A (.lst (ks.map MV.str)) = some (.list (ks.map PyData.str)) := by
    show (datMs (ks.map MV.str)).map PyData.list = _
    rw [datMs_str]
    rfl
  unfold inB
  dsimp only [dctV]
  rw [h1]
  dsimp only [datA, datM]
  rw [okD_strs, okD_str, Bool.and_self, if_pos rfl, any_str]
theorem inB_tups {A : AH} {x : Str} {ks : List Str} : inB (.str x) (.tup (ks.map MV.str)) A = some (decide (x ∈ ks)) := by
  have h1 : datA A (.tup (ks.map MV.str)) = some (.tuple (ks.map PyData.str)) := by
    show (datMs (ks.map MV.str)).map PyData.tuple = _
    rw [datMs_str]
    rfl
  unfold inB
  dsimp only [dctV]
  rw [h1]
  dsimp only [datA, datM]
  rw [okD_strs, okD_str, Bool.and_self, if_pos rfl, any_str]
theorem in_tups {A : AH} {x : Str} {ks : List Str} : inM (.str x) (.tup (ks.map MV.str)) A = .ok (.bl (decide (x ∈ ks))) A := by
  unfold inM
  rw [inB_tups]
theorem notIn_tups {A : AH} {x : Str} {ks : List Str} : notInM (.str x) (.tup (ks.map MV.str)) A = .ok (.bl (!decide (x ∈ ks))) A := by
  unfold notInM
  rw [inB_tups]
/-- a commit as an object -/
def CmAt (A : AH) (c : Nat) (ps : List Str) (tm : Int) : Prop := ∃ tr au ms : Str, A[c]? = some (.ins "Commit" [("held", .tup [.str tr, .tup (ps.map MV.str), .str au, .int tm, .str ms])])
structure StAt (A : AH) (s k : Nat) (T : Tb Nat) (F : Fa) : Prop where
  s : A[s]? = some (.ins "Store" [("short", .bl false), ("kept", .ref k)])
  k : A[k]? = some (.dct (mapK MV.ref T))
  c : ∀ x p, get F x = some p → ∃ c, get T x = some c ∧ CmAt A c p.1 p.2
/-- what may change holds no instance -/
def NoIns (Z : Nat → Prop) (A : AH) : Prop := ∀ n, Z n → ∀ C fs, A[n]? ≠ some (.ins C fs)
section
variable {A A' : AH} {s k : Nat} {T : Tb Nat} {F : Fa} {Z : Nat → Prop}
theorem CmAt.fr {c : Nat} {ps : List Str} {tm : Int} (h : CmAt A c ps tm) (f : Fr Z A A') (hz : NoIns Z A) : CmAt A' c ps tm := by
  obtain ⟨tr, au, ms, e⟩ := h
  exact ⟨tr, au, ms, f.same _ _ (fun q => hz c q _ _ e) e⟩
theorem StAt.fr (h : StAt A s k T F) (f : Fr Z A A') (hz : NoIns Z A) (hk : ¬ Z k) : StAt A' s k T F :=
  ⟨f.same _ _ (fun q => hz s q _ _ h.s) h.s, f.same _ _ hk h.k, fun x p q => by
    obtain ⟨c, e, h⟩ := h.c x p q
    exact ⟨c, e, h.fr f hz⟩⟩
theorem par_prop {c : Nat} {ps : List Str} {tm : Int} (h : CmAt A c ps tm) : propM "Commit" F_Commit_parents (.ref c) A = .ok (.tup (ps.map MV.str)) A := by
  obtain ⟨tr, au, ms, e⟩ := h
  have f : fldM "Commit" "held" (.ref c) A = .ok _ A := fld_at e rfl
  have i : ixM (.tup [.str tr, .tup (ps.map MV.str), .str au, .int tm, .str ms]) (.int 1) A = .ok (.tup (ps.map MV.str)) A := ix_tup rfl
  refine propM_at e ?_
  unfold F_Commit_parents b_Commit_parents
  simp only [defM, sSeq, sIf, sSet, sRet, sRetN, sExpr, sNext, sFld_def, sSub, sRaise, eVar, eC, eBin, eUn, tB', eB, bNot, bAnd, bOr, bIf, eIf, eAnd, eOr, eNot, aNil, aCons, eTup, aLst, eFrz, eRef, pN, pA, pK, pAK, eCall, eMeth_def, eFld_def, eMake_def, bind_ok, bind_err, bind_bad, fs_ok, fs_err, fs_bad, List.map_cons, List.map_nil, List.length_cons, List.length_nil, List.replicate, List.cons_append, List.nil_append, List.getElem?_cons_zero, List.getElem?_cons_succ, List.set_cons_zero, List.set_cons_succ, sz0, sz1, sz2, sz3, sz4, sz5, if_true, and_self, Nat.reduceSub, Nat.reduceAdd, Nat.reduceLeDiff, List.lookup_cons, List.lookup_nil, f, i]
theorem isi_cm {c : Nat} {ps : List Str} {tm : Int} (h : CmAt A c ps tm) : isiG own_ [.ref c, .glo "Commit"] A = .ok (.bl true) A := by
  obtain ⟨tr, au, ms, e⟩ := h
  rw [isi_own e (by decide) (by decide), decide_eq_true rfl]
theorem StAt.fk (h : StAt A s k T F) : fldM "Store" "kept" (.ref s) A = .ok (.ref k) A := fld_at h.s rfl
theorem StAt.dk (h : StAt A s k T F) : dctV A (.ref k) = some (mapK MV.ref T) := dctV_at h.k
theorem contains_ok (h : StAt A s k T F) {x : Str} : F_Store___contains__ [.ref s, .str x] A = .ok (.bl (decide (x ∈ keys T))) A := by
  unfold F_Store___contains__ b_Store___contains__
  simp only [defM, sSeq, sIf, sSet, sRet, sRetN, sExpr, sNext, sFld_def, sSub, sRaise, eVar, eC, eBin, eUn, tB', eB, bNot, bAnd, bOr, bIf, eIf, eAnd, eOr, eNot, aNil, aCons, eTup, aLst, eFrz, eRef, pN, pA, pK, pAK, eCall, eMeth_def, eFld_def, eMake_def, bind_ok, bind_err, bind_bad, fs_ok, fs_err, fs_bad, List.map_cons, List.map_nil, List.length_cons, List.length_nil, List.replicate, List.cons_append, List.nil_append, List.getElem?_cons_zero, List.getElem?_cons_succ, List.set_cons_zero, List.set_cons_succ, sz0, sz1, sz2, sz3, sz4, sz5, if_true, and_self, Nat.reduceSub, Nat.reduceAdd, Nat.reduceLeDiff, List.lookup_cons, List.lookup_nil, isi_str, h.fk, in_dct h.dk]
theorem getitem_ok (h : StAt A s k T F) {x : Str} {c : Nat} (e : get T x = some c) : F_Store___getitem__ [.ref s, .str x] A = .ok (.ref c) A := by
  have hx : x ∈ keys T := Decidable.byContradiction fun z => by rw [get_none.mpr z] at e; cases e
  unfold F_Store___getitem__ b_Store___getitem__
  simp only [defM, sSeq, sIf, sSet, sRet, sRetN, sExpr, sNext, sFld_def, sSub, sRaise, eVar, eC, eBin, eUn, tB', eB, bNot, bAnd, bOr, bIf, eIf, eAnd, eOr, eNot, aNil, aCons, eTup, aLst, eFrz, eRef, pN, pA, pK, pAK, eCall, eMeth_def, eFld_def, eMake_def, bind_ok, bind_err, bind_bad, fs_ok, fs_err, fs_bad, List.map_cons, List.map_nil, List.length_cons, List.length_nil, List.replicate, List.cons_append, List.nil_append, List.getElem?_cons_zero, List.getElem?_cons_succ, List.set_cons_zero, List.set_cons_succ, sz0, sz1, sz2, sz3, sz4, sz5, if_true, and_self, Nat.reduceSub, Nat.reduceAdd, Nat.reduceLeDiff, List.lookup_cons, List.lookup_nil, isi_str, h.fk, notIn_dct h.dk, decide_eq_true hx, Bool.not_true, ix_mapK h.dk e]
theorem commit_of_ok (h : StAt A s k T F) {x : Str} {p : List Str × Int} (e : get F x = some p) : ∃ c, F_commit_of [.ref s, .str x] A = .ok (.ref c) A ∧ get T x = some c ∧ CmAt A c p.1 p.2 := by
  obtain ⟨c, e1, e2⟩ := h.c x p e
  refine ⟨c, ?_, e1, e2⟩
  unfold F_commit_of b_commit_of
  simp only [defM, sSeq, sIf, sSet, sRet, sRetN, sExpr, sNext, sFld_def, sSub, sRaise, eVar, eC, eBin, eUn, tB', eB, bNot, bAnd, bOr, bIf, eIf, eAnd, eOr, eNot, aNil, aCons, eTup, aLst, eFrz, eRef, pN, pA, pK, pAK, eCall, eMeth_def, eFld_def, eMake_def, bind_ok, bind_err, bind_bad, fs_ok, fs_err, fs_bad, List.map_cons, List.map_nil, List.length_cons, List.length_nil, List.replicate, List.cons_append, List.nil_append, List.getElem?_cons_zero, List.getElem?_cons_succ, List.set_cons_zero, List.set_cons_succ, sz0, sz1, sz2, sz3, sz4, sz5, if_true, and_self, Nat.reduceSub, Nat.reduceAdd, Nat.reduceLeDiff, List.lookup_cons, List.lookup_nil, eGetI_def, insB_at h.s, getitem_ok h e1, isi_cm e2, Bool.not_true]
end
end Rp
/-! Sp5: History.searched -/
namespace Rp
open PySem PySem.Spec PyProof.Rows Mv Rf
/-! ### lists that change -/
def popLM (v : MV) (A : AH) : Rs MV := match lstW A v with
  | some (n, xs) => (match xs[xs.length - 1]? with
    | some y => .ok y (A.set n (.lst xs.dropLast))
    | none => .bad)
  | none => .bad
theorem ePopL_def {fo : FE} {ρ : ME} {A : AH} : ePopL fo ρ A = (fo ρ A).bind popLM := rfl
def extM (v w : MV) (A : AH) : Rs MV := match lstW A v, seqV A w with
  | some (n, xs), some zs => if xs.length + zs.length ≤ 1000000 then .ok .non (A.set n (.lst (xs ++ zs))) else .bad
  | _, _ => .bad
theorem eExt_def {fo fe : FE} {ρ : ME} {A : AH} : eExt fo fe ρ A = (fo ρ A).bind fun v A => if lstB A v then (fe ρ A).bind (extM v) else .bad := rfl
def appM (v w : MV) (A : AH) : Rs MV := match lstW A v with
  | some (n, xs) => if xs.length < 1000000 then .ok .non (A.set n (.lst (xs ++ [w]))) else .bad
  | none => .bad
theorem eApp_def {fo fe : FE} {ρ : ME} {A : AH} : eApp fo fe ρ A = (fo ρ A).bind fun v A => if lstB A v then (fe ρ A).bind (appM v) else .bad := rfl
section
variable {A : AH} {n : Nat} {xs : List MV} {y : MV}
theorem lstW_at (h : A[n]? = some (.lst xs)) : lstW A (.ref n) = some (n, xs) := by
  unfold lstW
  dsimp only
  rw [h]
theorem lstB_at (h : A[n]? = some (.lst xs)) : lstB A (.ref n) = true := by
  unfold lstB
  rw [lstV_at h]
  rfl
theorem popLM_at (h : A[n]? = some (.lst (xs ++ [y]))) : popLM (.ref n) A = .ok y (A.set n (.lst xs)) := by
  unfold popLM
  rw [lstW_at h]
  have e1 : (xs ++ [y])[(xs ++ [y]).length - 1]? = some y := by simp
  have e2 : (xs ++ [y]).dropLast = xs := by simp
  dsimp only
  rw [e1, e2]
theorem extM_at {zs : List MV} (h : A[n]? = some (.lst xs)) (hl : xs.length + zs.length ≤ 1000000) : extM (.ref n) (.tup zs) A = .ok .non (A.set n (.lst (xs ++ zs))) := by
  unfold extM
  rw [lstW_at h]
  dsimp only [seqV, tupOf]
  rw [if_pos hl]
theorem appM_at (h : A[n]? = some (.lst xs)) (hl : xs.length < 1000000) : appM (.ref n) y A = .ok .non (A.set n (.lst (xs ++ [y]))) := by
  unfold appM
  rw [lstW_at h]
  dsimp only
  rw [if_pos hl]
theorem setM_dct {β : Type} {f : β → MV} {T : Tb β} {x : Str} {v : β} (h : A[n]? = some (.dct (mapK f T))) (hl : T.length < 1000000) : setM (.ref n) (.str x) (f v) A = some (A.set n (.dct (mapK f (put T x v)))) := by
  unfold setM dctW
  dsimp only
  rw [h]
  dsimp only [keyOf]
  rw [len_mapK, if_pos hl, put_mapK]
end
theorem eqv_nil : ∀ ks : List Str, PyData.eqv (.list (ks.map PyData.str)) (.list []) = ks.isEmpty
  | [] => rfl
  | k :: ks => by simp [PyData.eqv, PyData.eqvAll]
theorem dat_ref {A : AH} {n : Nat} {ks : List Str} (h : A[n]? = some (.lst (ks.map MV.str))) : datA A (.ref n) = some (.list (ks.map PyData.str)) := by
  unfold datA
  dsimp only
  rw [lstV_at h]
  dsimp only
  rw [datMs_str]
  rfl
theorem dat_lst {A : AH} {ks : List Str} : datA A (.lst (ks.map MV.str)) = some (.list (ks.map PyData.str)) := by
  show (datMs (ks.map MV.str)).map PyData.list = _
  rw [datMs_str]
  rfl
theorem okD_nil : okD (.list []) = true := rfl
theorem ne_ref_nil {A : AH} {n : Nat} {ks : List Str} (h : A[n]? = some (.lst (ks.map MV.str))) : neM (.ref n) (.lst []) A = .ok (.bl (!ks.isEmpty)) A := by
  unfold neM
  rw [dat_ref h, show datA A (.lst []) = some (.list []) from rfl]
  dsimp only
  rw [okD_strs, okD_nil, Bool.and_self, if_pos rfl, eqv_nil]
theorem ne_lst_nil {A : AH} {ks : List Str} : neM (.lst (ks.map MV.str)) (.lst []) A = .ok (.bl (!ks.isEmpty)) A := by
  unfold neM
  rw [dat_lst, show datA A (.lst []) = some (.list []) from rfl]
  dsimp only
  rw [okD_strs, okD_nil, Bool.and_self, if_pos rfl, eqv_nil]
theorem eq_lst_nil {A : AH} {ks : List Str} : eqM (.lst (ks.map MV.str)) (.lst []) A = .ok (.bl ks.isEmpty) A := by
  unfold eqM
  rw [dat_lst, show datA A (.lst []) = some (.list []) from rfl]
  dsimp only
  rw [okD_strs, okD_nil, Bool.and_self, if_pos rfl, eqv_nil]
/-! ### the history as an object -/
structure HiAt (A : AH) (h s kn dp : Nat) : Prop where
  h : A[h]? = some (.ins "History" [("held", .ref s), ("ends", .tup []), ("known", .ref kn), ("depths", .ref dp)])
def uV : Unit → MV := fun _ => .bl true
def seaC : FB := (tB' (eBin neM (eVar 3) (eFrz (aLst aNil))))
def seaB : FS := (sSeq (sSet 4 (ePopL (eVar 3))) (sIf (tB' (eBin notInM (eVar 4) (eVar 2))) (sSeq (sSub (eC (.bl true)) (eVar 2) (eVar 4)) (sSeq (sSet 5 (eIf (tB' (inO "Store" F_Store___contains__ false (eVar 4) (eFld "History" "held" (eVar 0)))) (eGetI "Store" F_Store___getitem__ (eFld "History" "held" (eVar 0)) (eVar 4)) (eC .non))) (sExpr (eExt (eVar 3) (eIf (bAnd (tB' (fun ρ A => ((aCons (eVar 5) (aCons (eC (.glo "Commit")) aNil)) ρ A).bind (isiG own_))) (tB' (eBin notInM (eVar 4) (eFld "History" "ends" (eVar 0))))) (eProp "Commit" F_Commit_parents (eVar 5)) (eC (.ptp []))))))) sNext))
def seaR : FS := (sSeq (sLk (eVar 2) (sSet 6 (eFrz (aLc (iAny (eVar 2)) [4] [4] gNm (qElt (tB' (inO "Store" F_Store___contains__ true (eVar 4) (eFld "History" "held" (eVar 0)))) (eVar 4)))))) (sSeq (sIf (tB' (eBin neM (eVar 6) (eFrz (aLst aNil)))) sBad sNext) (sSeq (sLk (eVar 2) (sFor (iAny (eVar 2)) [4] gNm (sExpr (eCall 2 0 (fun ms _ => ms) F_commit_of (pA (aCons (eFld "History" "held" (eVar 0)) (aCons (eVar 4) aNil))))))) (sRet (eVar 2)))))
theorem sea_def : b_History_searched = sSeq (sSet 2 eDict0) (sSeq (sSet 3 (eRef (fun ρ A => ((aCons (eVar 1) aNil) ρ A).bind listL))) (sSeq (sWhile seaC seaB) seaR)) := rfl
section
variable {A : AH} {h s k kn dp fn an : Nat} {T : Tb Nat} {F : Fa} {S : Str → Prop} {x1 x6 : Option MV}
theorem HiAt.fh (H : HiAt A h s kn dp) : fldM "History" "held" (.ref h) A = .ok (.ref s) A := fld_at H.h rfl
theorem HiAt.fe (H : HiAt A h s kn dp) : fldM "History" "ends" (.ref h) A = .ok (.tup []) A := fld_at H.h rfl
theorem HiAt.fk (H : HiAt A h s kn dp) : fldM "History" "known" (.ref h) A = .ok (.ref kn) A := fld_at H.h rfl
theorem HiAt.fr {A' : AH} {Z : Nat → Prop} (H : HiAt A h s kn dp) (f : Fr Z A A') (hz : NoIns Z A) : HiAt A' h s kn dp := ⟨f.same _ _ (fun q => hz h q _ _ H.h) H.h⟩
theorem noIns2 {o1 o2 : MO} (h1 : A[fn]? = some o1) (h2 : A[an]? = some o2) (n1 : ∀ C fs, o1 ≠ .ins C fs) (n2 : ∀ C fs, o2 ≠ .ins C fs) : NoIns (fun n => n = fn ∨ n = an) A := fun n hn C fs e => by
  rcases hn with rfl | rfl
  · rw [h1] at e; cases e; exact n1 _ _ rfl
  · rw [h2] at e; cases e; exact n2 _ _ rfl
theorem notIn_nil {x : Str} : notInM (.str x) (.tup []) A = .ok (.bl true) A := rfl
/-- one turn -/
theorem sea_turn (ok : FaOk F) (St : StAt A s k T F) (H : HiAt A h s kn dp) {fd : Tb Unit} {ah : List Str} {x : Str} (hf : A[fn]? = some (.dct (mapK uV fd))) (ha : A[an]? = some (.lst ((ah ++ [x]).map MV.str))) (n1 : fn ≠ an) (n2 : k ≠ fn) (I : Sea F S fd (ah ++ [x])) (hl : ah.length ≤ 1000) {x4 x5 : Option MV} :
    ∃ fd' ah' x4' x5' A', seaB [some (.ref h), x1, some (.ref fn), some (.ref an), x4, x5, x6] A = .nx [some (.ref h), x1, some (.ref fn), some (.ref an), x4', x5', x6] A' ∧ Fr (fun n => n = fn ∨ n = an) A A' ∧ A'.length = A.length ∧ A'[fn]? = some (.dct (mapK uV fd')) ∧ A'[an]? = some (.lst (ah'.map MV.str)) ∧ Sea F S fd' ah' ∧ mu F fd' ah' < mu F fd (ah ++ [x]) := by
  have ha' : A[an]? = some (.lst (ah.map MV.str ++ [MV.str x])) := by rw [ha, List.map_append]; rfl
  have hp : popLM (.ref an) A = .ok (.str x) (A.set an (.lst (ah.map MV.str))) := popLM_at ha'
  have f1 : (A.set an (.lst (ah.map MV.str)))[fn]? = some (.dct (mapK uV fd)) := by rw [set_ne (Ne.symm n1)]; exact hf
  have a1 : (A.set an (.lst (ah.map MV.str)))[an]? = some (.lst (ah.map MV.str)) := set_at ha
  have ni := notIn_dct (x := x) (dctV_at f1)
  by_cases hx : x ∈ keys fd
  · refine ⟨fd, ah, some (.str x), x5, A.set an (.lst (ah.map MV.str)), ?_, Fr.set (.inr rfl), by simp, f1, a1, I.old hx, by rw [← mu_old (x := x)]; exact Nat.lt_succ_self _⟩
    unfold seaB
    simp only [defM, sSeq, sIf, sSet, sRet, sRetN, sExpr, sNext, sFld_def, sSub, sRaise, eVar, eC, eBin, eUn, tB', eB, bNot, bAnd, bOr, bIf, eIf, eAnd, eOr, eNot, aNil, aCons, eTup, aLst, eFrz, eRef, pN, pA, pK, pAK, eCall, eMeth_def, eFld_def, eMake_def, bind_ok, bind_err, bind_bad, fs_ok, fs_err, fs_bad, List.map_cons, List.map_nil, List.length_cons, List.length_nil, List.replicate, List.cons_append, List.nil_append, List.getElem?_cons_zero, List.getElem?_cons_succ, List.set_cons_zero, List.set_cons_succ, sz0, sz1, sz2, sz3, sz4, sz5, if_true, and_self, Nat.reduceSub, Nat.reduceAdd, Nat.reduceLeDiff, List.lookup_cons, List.lookup_nil, ePopL_def, hp, ni, decide_eq_true hx, Bool.not_true]
  · have le := I.le
    have lF := ok.len
    have st := setM_dct (x := x) (v := ()) f1 (by omega)
    have e0 : uV () = MV.bl true := rfl
    rw [e0] at st
    have n3 : fn ≠ an := n1
    let A2 : AH := (A.set an (.lst (ah.map MV.str))).set fn (.dct (mapK uV (put fd x ())))
    have eA2 : (A.set an (.lst (ah.map MV.str))).set fn (.dct (mapK uV (put fd x ()))) = A2 := rfl
    have Fr2 : Fr (fun n => n = fn ∨ n = an) A A2 := Fr.trans (Fr.set (.inr rfl)) (Fr.set (.inl rfl))
    have nz := noIns2 hf ha (by intro _ _ z; cases z) (by intro _ _ z; cases z)
    have hka : k ≠ an := at_ne St.k ha (by intro z; cases z)
    have St2 : StAt A2 s k T F := St.fr Fr2 nz (fun q => q.elim n2 hka)
    have H2 : HiAt A2 h s kn dp := H.fr Fr2 nz
    obtain ⟨hxF, hxR⟩ := I.a x (List.mem_append_right _ (List.mem_singleton.mpr rfl))
    obtain ⟨p, ep⟩ := mem_get hxF
    obtain ⟨c, ec, Cm⟩ := St2.c x p ep
    have hT : x ∈ keys T := Decidable.byContradiction fun z => by rw [get_none.mpr z] at ec; cases ec
    have f2 : A2[fn]? = some (.dct (mapK uV (put fd x ()))) := set_at f1
    have a2 : A2[an]? = some (.lst (ah.map MV.str)) := by rw [← eA2, set_ne n1]; exact a1
    have pl := ok.par_len x
    have ep2 : par F x = p.1 := par_of ep
    have ex := extM_at (zs := p.1.map MV.str) a2 (by rw [List.length_map, List.length_map, ← ep2]; omega)
    have le2 : (A2.set an (.lst (ah.map MV.str ++ p.1.map MV.str))).length = A.length := by simp [A2]
    refine ⟨put fd x (), ah ++ par F x, some (.str x), some (.ref c), A2.set an (.lst (ah.map MV.str ++ p.1.map MV.str)), ?_, Fr2.trans (Fr.set (.inr rfl)), le2, by rw [set_ne (Ne.symm n1)]; exact f2, by rw [set_at a2, List.map_append, ep2], I.new ok hx, mu_new ok I hx⟩
    unfold seaB
    simp only [defM, sSeq, sIf, sSet, sRet, sRetN, sExpr, sNext, sFld_def, sSub, sRaise, eVar, eC, eBin, eUn, tB', eB, bNot, bAnd, bOr, bIf, eIf, eAnd, eOr, eNot, aNil, aCons, eTup, aLst, eFrz, eRef, pN, pA, pK, pAK, eCall, eMeth_def, eFld_def, eMake_def, bind_ok, bind_err, bind_bad, fs_ok, fs_err, fs_bad, List.map_cons, List.map_nil, List.length_cons, List.length_nil, List.replicate, List.cons_append, List.nil_append, List.getElem?_cons_zero, List.getElem?_cons_succ, List.set_cons_zero, List.set_cons_succ, sz0, sz1, sz2, sz3, sz4, sz5, if_true, and_self, Nat.reduceSub, Nat.reduceAdd, Nat.reduceLeDiff, List.lookup_cons, List.lookup_nil, ePopL_def, hp, ni, decide_eq_false hx, Bool.not_false, st, eA2, inO_def, H2.fh, insB_at St2.s, contains_ok St2, decide_eq_true hT, nb, eGetI_def, getitem_ok St2 ec, eExt_def, lstB_at a2, isi_cm Cm, H2.fe, notIn_nil, eProp_def, par_prop Cm, ex]
theorem sea_loop (ok : FaOk F) : ∀ (m : Nat) {A : AH} {fd : Tb Unit} {ah : List Str} {x4 x5 : Option MV}, StAt A s k T F → HiAt A h s kn dp → A[fn]? = some (.dct (mapK uV fd)) → A[an]? = some (.lst (ah.map MV.str)) → fn ≠ an → k ≠ fn → Sea F S fd ah → mu F fd ah < m → mu F fd ah ≤ 1000 →
    ∃ fd' x4' x5' A', runW seaC seaB m [some (.ref h), x1, some (.ref fn), some (.ref an), x4, x5, x6] A = .nx [some (.ref h), x1, some (.ref fn), some (.ref an), x4', x5', x6] A' ∧ Fr (fun n => n = fn ∨ n = an) A A' ∧ A'.length = A.length ∧ A'[fn]? = some (.dct (mapK uV fd')) ∧ A'[an]? = some (.lst []) ∧ Sea F S fd' []
  | 0, A, fd, ah, x4, x5, _, _, _, _, _, _, _, hm, _ => absurd hm (Nat.not_lt_zero _)
  | m + 1, A, fd, ah, x4, x5, St, H, hf, ha, n1, n2, I, hm, hs => by
    have nn := ne_ref_nil ha
    rcases List.eq_nil_or_concat ah with rfl | ⟨ah', x, rfl⟩
    · refine ⟨fd, x4, x5, A, ?_, Fr.refl, rfl, hf, ha, I⟩
      unfold runW seaC
      simp only [defM, sSeq, sIf, sSet, sRet, sRetN, sExpr, sNext, sFld_def, sSub, sRaise, eVar, eC, eBin, eUn, tB', eB, bNot, bAnd, bOr, bIf, eIf, eAnd, eOr, eNot, aNil, aCons, eTup, aLst, eFrz, eRef, pN, pA, pK, pAK, eCall, eMeth_def, eFld_def, eMake_def, bind_ok, bind_err, bind_bad, fs_ok, fs_err, fs_bad, List.map_cons, List.map_nil, List.length_cons, List.length_nil, List.replicate, List.cons_append, List.nil_append, List.getElem?_cons_zero, List.getElem?_cons_succ, List.set_cons_zero, List.set_cons_succ, sz0, sz1, sz2, sz3, sz4, sz5, if_true, and_self, Nat.reduceSub, Nat.reduceAdd, Nat.reduceLeDiff, List.lookup_cons, List.lookup_nil, nn, List.isEmpty_nil, Bool.not_true]
    · rw [List.concat_eq_append] at *
      have hl : ah'.length ≤ 1000 := by
        unfold mu at hs
        rw [List.length_append] at hs
        omega
      obtain ⟨fd1, ah1, y4, y5, A1, e1, fr1, l1, g1, g2, I1, m1⟩ := sea_turn (x1 := x1) (x6 := x6) (x4 := x4) (x5 := x5) ok St H hf ha n1 n2 I hl
      have nz := noIns2 hf ha (by intro _ _ z; cases z) (by intro _ _ z; cases z)
      have hka : k ≠ an := at_ne St.k ha (by intro z; cases z)
      obtain ⟨fd2, z4, z5, A2, e2, fr2, l2, k1, k2, I2⟩ := sea_loop ok m (x4 := y4) (x5 := y5) (St.fr fr1 nz (fun q => q.elim n2 hka)) (H.fr fr1 nz) g1 g2 n1 n2 I1 (by omega) (by omega)
      refine ⟨fd2, z4, z5, A2, ?_, fr1.trans fr2, by rw [l2, l1], k1, k2, I2⟩
      unfold runW
      have ie : (ah' ++ [x]).isEmpty = false := by simp
      rw [ie] at nn
      have hc : seaC [some (.ref h), x1, some (.ref fn), some (.ref an), x4, x5, x6] A = .ok true A := by
        unfold seaC
        simp only [defM, sSeq, sIf, sSet, sRet, sRetN, sExpr, sNext, sFld_def, sSub, sRaise, eVar, eC, eBin, eUn, tB', eB, bNot, bAnd, bOr, bIf, eIf, eAnd, eOr, eNot, aNil, aCons, eTup, aLst, eFrz, eRef, pN, pA, pK, pAK, eCall, eMeth_def, eFld_def, eMake_def, bind_ok, bind_err, bind_bad, fs_ok, fs_err, fs_bad, List.map_cons, List.map_nil, List.length_cons, List.length_nil, List.replicate, List.cons_append, List.nil_append, List.getElem?_cons_zero, List.getElem?_cons_succ, List.set_cons_zero, List.set_cons_succ, sz0, sz1, sz2, sz3, sz4, sz5, if_true, and_self, Nat.reduceSub, Nat.reduceAdd, Nat.reduceLeDiff, List.lookup_cons, List.lookup_nil, nn, Bool.not_false]
      rw [hc]
      show (match seaB [some (.ref h), x1, some (.ref fn), some (.ref an), x4, x5, x6] A with
        | .nx ρ' A' => runW seaC seaB m ρ' A'
        | .ct ρ' A' => runW seaC seaB m ρ' A'
        | .bk ρ' A' => .nx ρ' A'
        | r => r) = _
      rw [e1]
      exact e2
/-- the loop that looks at each name once more -/
theorem seen_loop {B : AH} {x0 x1 x2 x3 x5 x6 : Option MV} {body : FS} : ∀ (ks : List Str) (a : Option MV), (∀ k ∈ ks, body [x0, x1, x2, x3, some (.str k), x5, x6] B = .nx [x0, x1, x2, x3, some (.str k), x5, x6] B) → ∃ a', runL (turn [4] gNm body) (ks.map MV.str) [x0, x1, x2, x3, a, x5, x6] B = .nx [x0, x1, x2, x3, a', x5, x6] B
  | [], a, _ => ⟨a, rfl⟩
  | k :: ks, a, hb => by
    have e : turn [4] gNm body (.str k) [x0, x1, x2, x3, a, x5, x6] B = body [x0, x1, x2, x3, some (.str k), x5, x6] B := rfl
    obtain ⟨a', q⟩ := seen_loop ks (some (.str k)) fun j hj => hb j (List.mem_cons_of_mem _ hj)
    refine ⟨a', ?_⟩
    rw [List.map_cons]
    unfold runL
    rw [e, hb k (List.mem_cons_self ..)]
    exact q
theorem it_lkd {β : Type} {A : AH} {n : Nat} {f : β → MV} {T : Tb β} (h : A[n]? = some (.lkd (mapK f T))) : itV A (.ref n) = some ((keys T).map MV.str) := by
  unfold itV lklOf lkdOf
  dsimp only [tupOf]
  rw [h]
  dsimp only
  unfold mapK keys
  rw [List.map_map, List.map_map]
  rfl
theorem searched_ok (ok : FaOk F) (St : StAt A s k T F) (H : HiAt A h s kn dp) {ss : List Str} (hs : ∀ x ∈ ss, x ∈ keys F) (hl : ss.length ≤ 100) :
    ∃ fd A', F_History_searched [.ref h, .lst (ss.map MV.str)] A = .ok (.ref A.length) A' ∧ Fr (fun _ => False) A A' ∧ A'[A.length]? = some (.dct (mapK uV fd)) ∧ (keys fd).Nodup ∧ (∀ x, x ∈ keys fd ↔ Rch F (· ∈ ss) x) ∧ A'.length = A.length + 2 := by
  let A1 : AH := A ++ [.dct []] ++ [.lst (ss.map MV.str)]
  have fr0 : ∀ {Z : Nat → Prop}, Fr Z A A1 := Fr.trans Fr.app Fr.app
  have z0 : NoIns (fun _ => False) A := fun _ q => q.elim
  have St1 : StAt A1 s k T F := St.fr fr0 z0 id
  have H1 : HiAt A1 h s kn dp := H.fr fr0 z0
  have l0 : (A ++ [MO.dct []]).length = A.length + 1 := by simp
  have hf : A1[A.length]? = some (.dct (mapK uV ([] : Tb Unit))) := app_at new_at
  have ha : A1[A.length + 1]? = some (.lst (ss.map MV.str)) := by rw [← l0]; exact new_at
  have hk := at_lt St.k
  have I0 : Sea F (· ∈ ss) [] ss := ⟨List.nodup_nil, fun x hx => (by cases hx), fun x hx => ⟨hs x hx, .base hx⟩, fun x hx => (by cases hx), fun x hx => .inr hx⟩
  have lF := ok.len
  have m0 : mu F [] ss ≤ 520 := by
    unfold mu
    simp only [List.length_nil]
    omega
  obtain ⟨fd, x4, x5, A2, e2, fr2, l2, g1, g2, I2⟩ := sea_loop (x1 := some (.lst (ss.map MV.str))) (x4 := none) (x5 := none) (x6 := none) ok 100000 St1 H1 hf ha (by omega) (by omega) I0 (by omega) (by omega)
  have nz := noIns2 hf ha (by intro _ _ z; cases z) (by intro _ _ z; cases z)
  have hkA : ¬ (k = A.length ∨ k = A.length + 1) := by omega
  have St2 : StAt A2 s k T F := St1.fr fr2 nz hkA
  have H2 : HiAt A2 h s kn dp := H1.fr fr2 nz
  have frL : Fr (fun n => n = A.length) A2 (A2.set A.length (.lkd (mapK uV fd))) := Fr.set rfl
  have nz3 : NoIns (fun n => n = A.length) A2 := fun n hn C fs e => by
    rw [hn, g1] at e
    cases e
  have St3 : StAt (A2.set A.length (.lkd (mapK uV fd))) s k T F := St2.fr frL nz3 (by omega)
  have H3 : HiAt (A2.set A.length (.lkd (mapK uV fd))) h s kn dp := H2.fr frL nz3
  have d3 : (A2.set A.length (.lkd (mapK uV fd)))[A.length]? = some (.lkd (mapK uV fd)) := set_at g1
  have it3 := it_lkd d3
  have inT : ∀ x ∈ keys fd, x ∈ keys T := fun x hx => by
    obtain ⟨p, ep⟩ := mem_get (I2.f x hx).1
    obtain ⟨c, ec, _⟩ := St.c x p ep
    exact Decidable.byContradiction fun z => by rw [get_none.mpr z] at ec; cases ec
  obtain ⟨x4', e4⟩ := seen_loop (B := A2.set A.length (.lkd (mapK uV fd))) (x0 := some (.ref h)) (x1 := some (.lst (ss.map MV.str))) (x2 := some (.ref A.length)) (x3 := some (.ref (A.length + 1))) (x5 := x5) (x6 := some (.lst [])) (body := (sExpr (eCall 2 0 (fun ms _ => ms) F_commit_of (pA (aCons (eFld "History" "held" (eVar 0)) (aCons (eVar 4) aNil)))))) (keys fd) x4 fun x hx => by
    obtain ⟨p, ep⟩ := mem_get (I2.f x hx).1
    obtain ⟨c, ec, _⟩ := commit_of_ok St3 ep
    simp only [defM, sSeq, sIf, sSet, sRet, sRetN, sExpr, sNext, sFld_def, sSub, sRaise, eVar, eC, eBin, eUn, tB', eB, bNot, bAnd, bOr, bIf, eIf, eAnd, eOr, eNot, aNil, aCons, eTup, aLst, eFrz, eRef, pN, pA, pK, pAK, eCall, eMeth_def, eFld_def, eMake_def, bind_ok, bind_err, bind_bad, fs_ok, fs_err, fs_bad, List.map_cons, List.map_nil, List.length_cons, List.length_nil, List.replicate, List.cons_append, List.nil_append, List.getElem?_cons_zero, List.getElem?_cons_succ, List.set_cons_zero, List.set_cons_succ, sz0, sz1, sz2, sz3, sz4, sz5, if_true, and_self, Nat.reduceSub, Nat.reduceAdd, Nat.reduceLeDiff, List.lookup_cons, List.lookup_nil, H3.fh, ec]
  refine ⟨fd, A2, ?_, ⟨by rw [l2]; exact (fr0 (Z := fun _ => False)).len, fun n o q e => fr2.same n o (fun z => by have := at_lt e; rcases z with z | z <;> omega) ((fr0 (Z := fun _ => False)).same n o q e)⟩, g1, I2.nd, I2.end_, by rw [l2]; simp [A1]⟩
  unfold F_History_searched
  rw [sea_def]
  have ls : listL [.lst (ss.map MV.str)] (A ++ [.dct []]) = .ok (ss.map MV.str) (A ++ [.dct []]) := rfl
  have ed : ∀ {ρ : ME}, eDict0 ρ A = .ok (.ref A.length) (A ++ [.dct []]) := fun {ρ} => rfl
  have z9 : (keys fd).flatMap (fun _ => ([] : List MV)) = [] := by simp
  have lc : aLc (iAny (eVar 2)) [4] [4] gNm (qElt (tB' (inO "Store" F_Store___contains__ true (eVar 4) (eFld "History" "held" (eVar 0)))) (eVar 4)) [some (.ref h), some (.lst (ss.map MV.str)), some (.ref A.length), some (.ref (A.length + 1)), x4, x5, none] (A2.set A.length (.lkd (mapK uV fd))) = .ok [] (A2.set A.length (.lkd (mapK uV fd))) := by
    have := lc_ys (fi := iAny (eVar 2)) (own := [4]) (is := [4]) (g := gNm) (q := qElt (tB' (inO "Store" F_Store___contains__ true (eVar 4) (eFld "History" "held" (eVar 0)))) (eVar 4)) (ρ := [some (.ref h), some (.lst (ss.map MV.str)), some (.ref A.length), some (.ref (A.length + 1)), x4, x5, none]) (A := A2.set A.length (.lkd (mapK uV fd))) (inj := MV.str) (h := fun _ => []) (ys := keys fd) (by simp only [defM, sSeq, sIf, sSet, sRet, sRetN, sExpr, sNext, sFld_def, sSub, sRaise, eVar, eC, eBin, eUn, tB', eB, bNot, bAnd, bOr, bIf, eIf, eAnd, eOr, eNot, aNil, aCons, eTup, aLst, eFrz, eRef, pN, pA, pK, pAK, eCall, eMeth_def, eFld_def, eMake_def, bind_ok, bind_err, bind_bad, fs_ok, fs_err, fs_bad, List.map_cons, List.map_nil, List.length_cons, List.length_nil, List.replicate, List.cons_append, List.nil_append, List.getElem?_cons_zero, List.getElem?_cons_succ, List.set_cons_zero, List.set_cons_succ, sz0, sz1, sz2, sz3, sz4, sz5, if_true, and_self, Nat.reduceSub, Nat.reduceAdd, Nat.reduceLeDiff, List.lookup_cons, List.lookup_nil, iAny, it3]) (fun x hx => ⟨[.str x], rfl, by simp only [defM, sSeq, sIf, sSet, sRet, sRetN, sExpr, sNext, sFld_def, sSub, sRaise, eVar, eC, eBin, eUn, tB', eB, bNot, bAnd, bOr, bIf, eIf, eAnd, eOr, eNot, aNil, aCons, eTup, aLst, eFrz, eRef, pN, pA, pK, pAK, eCall, eMeth_def, eFld_def, eMake_def, bind_ok, bind_err, bind_bad, fs_ok, fs_err, fs_bad, List.map_cons, List.map_nil, List.length_cons, List.length_nil, List.replicate, List.cons_append, List.nil_append, List.getElem?_cons_zero, List.getElem?_cons_succ, List.set_cons_zero, List.set_cons_succ, sz0, sz1, sz2, sz3, sz4, sz5, if_true, and_self, Nat.reduceSub, Nat.reduceAdd, Nat.reduceLeDiff, List.lookup_cons, List.lookup_nil, qElt, wipeM, setAllM, inO_def, H3.fh, insB_at St3.s, contains_ok St3, decide_eq_true (inT x hx), tb, Bool.not_true]⟩) (by rw [z9]; rfl)
    rw [z9] at this
    exact this
  have nn : neM (.lst []) (.lst []) A2 = .ok (.bl false) A2 := rfl
  have eA1 : A ++ [MO.dct []] ++ [MO.lst (ss.map MV.str)] = A1 := rfl
  simp only [defM, sSeq, sIf, sSet, sRet, sRetN, sExpr, sNext, sFld_def, sSub, sRaise, eVar, eC, eBin, eUn, tB', eB, bNot, bAnd, bOr, bIf, eIf, eAnd, eOr, eNot, aNil, aCons, eTup, aLst, eFrz, eRef, pN, pA, pK, pAK, eCall, eMeth_def, eFld_def, eMake_def, bind_ok, bind_err, bind_bad, fs_ok, fs_err, fs_bad, List.map_cons, List.map_nil, List.length_cons, List.length_nil, List.replicate, List.cons_append, List.nil_append, List.getElem?_cons_zero, List.getElem?_cons_succ, List.set_cons_zero, List.set_cons_succ, sz0, sz1, sz2, sz3, sz4, sz5, if_true, and_self, Nat.reduceSub, Nat.reduceAdd, Nat.reduceLeDiff, List.lookup_cons, List.lookup_nil, ed, ls, l0, sWhile, eA1, e2]
  unfold seaR
  simp only [defM, sSeq, sIf, sSet, sRet, sRetN, sExpr, sNext, sFld_def, sSub, sRaise, eVar, eC, eBin, eUn, tB', eB, bNot, bAnd, bOr, bIf, eIf, eAnd, eOr, eNot, aNil, aCons, eTup, aLst, eFrz, eRef, pN, pA, pK, pAK, eCall, eMeth_def, eFld_def, eMake_def, bind_ok, bind_err, bind_bad, fs_ok, fs_err, fs_bad, List.map_cons, List.map_nil, List.length_cons, List.length_nil, List.replicate, List.cons_append, List.nil_append, List.getElem?_cons_zero, List.getElem?_cons_succ, List.set_cons_zero, List.set_cons_succ, sz0, sz1, sz2, sz3, sz4, sz5, if_true, and_self, Nat.reduceSub, Nat.reduceAdd, Nat.reduceLeDiff, List.lookup_cons, List.lookup_nil, sLk, sLock, g1, lkO, lc, unlk, set_back g1, nn, sFor, iAny, it3, e4]
end
end Rp
/-! Sp6: History.below and what is known -/
namespace Rp
open PySem PySem.Spec PyProof.Rows Mv Rf
/-- one name's dict -/
structure Be (A : AH) (F : Fa) (x : Str) (n : Nat) (fd : Tb Unit) : Prop where
  a : A[n]? = some (.dct (mapK uV fd)) ∨ A[n]? = some (.lkd (mapK uV fd))
  nd : (keys fd).Nodup
  m : ∀ y, y ∈ keys fd ↔ Rch F (fun w => w = x) y
structure HW (A : AH) (h s k kn dp : Nat) (T : Tb Nat) (F : Fa) (D : Tb Nat) : Prop where
  ok : FaOk F
  st : StAt A s k T F
  hi : HiAt A h s kn dp
  d : A[kn]? = some (.dct (mapK MV.ref D))
  kk : k ≠ kn
  nd : (keys D).Nodup
  kF : ∀ x ∈ keys D, x ∈ keys F
  e : ∀ x n, get D x = some n → n ≠ k ∧ n ≠ kn ∧ ∃ fd, Be A F x n fd
section
variable {A : AH} {h s k kn dp : Nat} {T : Tb Nat} {F : Fa} {D : Tb Nat}
theorem HW.len (W : HW A h s k kn dp T F D) : D.length ≤ 60 := by
  have := nodup_le W.nd (m := keys F) W.kF
  have l := W.ok.len
  unfold keys at this
  rw [List.length_map, List.length_map] at this
  omega
/-- what may change: no instance, not these -/
theorem HW.fr {A' : AH} {Z : Nat → Prop} (W : HW A h s k kn dp T F D) (f : Fr Z A A') (hz : NoIns Z A) (hk : ¬ Z k) (hn : ¬ Z kn) (hd : ∀ x n, get D x = some n → ¬ Z n) : HW A' h s k kn dp T F D :=
  ⟨W.ok, W.st.fr f hz hk, W.hi.fr f hz, f.same _ _ hn W.d, W.kk, W.nd, W.kF, fun x n e => by
    obtain ⟨a, b, fd, B⟩ := W.e x n e
    exact ⟨a, b, fd, B.a.elim (fun q => .inl (f.same _ _ (hd x n e) q)) (fun q => .inr (f.same _ _ (hd x n e) q)), B.nd, B.m⟩⟩
theorem below_known (W : HW A h s k kn dp T F D) {x : Str} {n : Nat} (e : get D x = some n) : F_History_below [.ref h, .str x] A = .ok (.ref n) A := by
  have hx : x ∈ keys D := Decidable.byContradiction fun z => by rw [get_none.mpr z] at e; cases e
  obtain ⟨p, ep⟩ := mem_get (W.kF x hx)
  obtain ⟨c, ec, _⟩ := commit_of_ok W.st ep
  have dk := dctV_at W.d
  unfold F_History_below b_History_below
  simp only [defM, sSeq, sIf, sSet, sRet, sRetN, sExpr, sNext, sFld_def, sSub, sRaise, eVar, eC, eBin, eUn, tB', eB, bNot, bAnd, bOr, bIf, eIf, eAnd, eOr, eNot, aNil, aCons, eTup, aLst, eFrz, eRef, pN, pA, pK, pAK, eCall, eMeth_def, eFld_def, eMake_def, bind_ok, bind_err, bind_bad, fs_ok, fs_err, fs_bad, List.map_cons, List.map_nil, List.length_cons, List.length_nil, List.replicate, List.cons_append, List.nil_append, List.getElem?_cons_zero, List.getElem?_cons_succ, List.set_cons_zero, List.set_cons_succ, sz0, sz1, sz2, sz3, sz4, sz5, if_true, and_self, Nat.reduceSub, Nat.reduceAdd, Nat.reduceLeDiff, List.lookup_cons, List.lookup_nil, W.hi.fh, ec, W.hi.fk, notIn_dct dk, decide_eq_true hx, Bool.not_true, ix_mapK dk e]
theorem below_new (W : HW A h s k kn dp T F D) {x : Str} (hF : x ∈ keys F) (hx : x ∉ keys D) : ∃ A', F_History_below [.ref h, .str x] A = .ok (.ref A.length) A' ∧ Fr (fun n => n = kn) A A' ∧ HW A' h s k kn dp T F (put D x A.length) := by
  obtain ⟨p, ep⟩ := mem_get hF
  obtain ⟨c, ec, _⟩ := commit_of_ok W.st ep
  obtain ⟨fd, A1, e1, f1, g1, nd, mm, l1⟩ := searched_ok W.ok W.st W.hi (ss := [x]) (fun y hy => by rw [List.mem_singleton.mp hy]; exact hF) (by simp)
  have f1 : ∀ {Z : Nat → Prop}, Fr Z A A1 := f1.mono fun _ q => q.elim
  have z1 : NoIns (fun _ => False) A := fun _ q => q.elim
  have W1 : HW A1 h s k kn dp T F D := W.fr (Z := fun _ => False) f1 z1 id id fun _ _ _ => id
  have lD := W.len
  have hkn := at_lt W.d
  have hk := at_lt W.st.k
  have st := setM_dct (f := MV.ref) (x := x) (v := A.length) W1.d (by omega)
  have f2 : Fr (fun n => n = kn) A1 (A1.set kn (.dct (mapK MV.ref (put D x A.length)))) := Fr.set rfl
  have z2 : NoIns (fun n => n = kn) A1 := fun n hn C fs e => by
    rw [hn, W1.d] at e
    cases e
  have d2 : (A1.set kn (.dct (mapK MV.ref (put D x A.length))))[kn]? = some (.dct (mapK MV.ref (put D x A.length))) := set_at W1.d
  have hi2 : HiAt (A1.set kn (.dct (mapK MV.ref (put D x A.length)))) h s kn dp := W1.hi.fr f2 z2
  refine ⟨A1.set kn (.dct (mapK MV.ref (put D x A.length))), ?_, f1.trans f2, ⟨W.ok, W1.st.fr f2 z2 W.kk, hi2, d2, W.kk, nodup_put W.nd, fun y hy => ?_, fun y n e => ?_⟩⟩
  · have mb : mthB "History" "searched" (.ref h) A = true := mth_at W.hi.h rfl
    have dk := dctV_at W.d
    have ix : ixM (.ref kn) (.str x) (A1.set kn (.dct (mapK MV.ref (put D x A.length)))) = .ok (.ref A.length) (A1.set kn (.dct (mapK MV.ref (put D x A.length)))) := ix_mapK (dctV_at d2) (by rw [get_put, if_pos rfl])
    unfold F_History_below b_History_below
    rw [show ([x] : List Str).map MV.str = [MV.str x] from rfl] at e1
    simp only [defM, sSeq, sIf, sSet, sRet, sRetN, sExpr, sNext, sFld_def, sSub, sRaise, eVar, eC, eBin, eUn, tB', eB, bNot, bAnd, bOr, bIf, eIf, eAnd, eOr, eNot, aNil, aCons, eTup, aLst, eFrz, eRef, pN, pA, pK, pAK, eCall, eMeth_def, eFld_def, eMake_def, bind_ok, bind_err, bind_bad, fs_ok, fs_err, fs_bad, List.map_cons, List.map_nil, List.length_cons, List.length_nil, List.replicate, List.cons_append, List.nil_append, List.getElem?_cons_zero, List.getElem?_cons_succ, List.set_cons_zero, List.set_cons_succ, sz0, sz1, sz2, sz3, sz4, sz5, if_true, and_self, Nat.reduceSub, Nat.reduceAdd, Nat.reduceLeDiff, List.lookup_cons, List.lookup_nil, W.hi.fh, ec, W.hi.fk, notIn_dct dk, decide_eq_false hx, Bool.not_false, mb, e1, W1.hi.fk, st, hi2.fk, ix]
  · rw [keys_put, if_neg hx] at hy
    rcases List.mem_append.mp hy with q | q
    · exact W.kF y q
    · rw [List.mem_singleton.mp q]; exact hF
  · rw [get_put] at e
    by_cases z : y = x
    · rw [if_pos z] at e
      cases e
      subst z
      refine ⟨by omega, by omega, fd, .inl ?_, nd, fun w => ?_⟩
      · rw [set_ne (by omega)]; exact g1
      · rw [mm]
        constructor
        · exact fun q => q.mono fun v hv => .base (List.mem_singleton.mp hv)
        · exact fun q => q.mono fun v hv => .base (List.mem_singleton.mpr hv)
    · rw [if_neg z] at e
      obtain ⟨a, b, fd', B⟩ := W1.e y n e
      refine ⟨a, b, fd', ?_, B.nd, B.m⟩
      rw [set_ne (Ne.symm b)]
      exact B.a
theorem below_ok (W : HW A h s k kn dp T F D) {x : Str} (hF : x ∈ keys F) : ∃ n A' D', F_History_below [.ref h, .str x] A = .ok (.ref n) A' ∧ Fr (fun n => n = kn) A A' ∧ HW A' h s k kn dp T F D' ∧ (∀ y, y ∈ keys D' ↔ y ∈ keys D ∨ y = x) := by
  by_cases hx : x ∈ keys D
  · obtain ⟨n, e⟩ := mem_get hx
    exact ⟨n, A, D, below_known W e, Fr.refl, W, fun y => ⟨.inl, fun q => q.elim id fun z => by rw [z]; exact hx⟩⟩
  · obtain ⟨A', e, f, W'⟩ := below_new W hF hx
    refine ⟨_, A', _, e, f, W', fun y => ?_⟩
    rw [keys_put, if_neg hx, List.mem_append, List.mem_singleton]
/-- what is below a known name -/
def dk (A : AH) (D : Tb Nat) (x : Str) : List Str := match get D x with
  | some n => (match dctV A (.ref n) with
    | some kvs => (keyStrs kvs).getD []
    | none => [])
  | none => []
theorem dk_eq {x : Str} {n : Nat} {fd : Tb Unit} (e : get D x = some n) (B : Be A F x n fd) : dk A D x = keys fd := by
  unfold dk
  rw [e]
  dsimp only
  rw [dctV_str B.a]
  dsimp only
  rw [keyStrs_mapK]
  rfl
theorem dk_mem (W : HW A h s k kn dp T F D) {x y : Str} (hx : x ∈ keys D) : y ∈ dk A D x ↔ Rch F (fun w => w = x) y := by
  obtain ⟨n, e⟩ := mem_get hx
  obtain ⟨_, _, fd, B⟩ := W.e x n e
  rw [dk_eq e B]
  exact B.m y
end
end Rp
/-! Sp7: Search.marked, Search.candidates -/
namespace Rp
open PySem PySem.Spec PyProof.Rows Mv Rf
structure SeAt (A : AH) (se h mk : Nat) (M : List (Str × Str)) : Prop where
  se : A[se]? = some (.ins "Search" [("past", .ref h), ("marks", .ref mk)])
  ml : A[mk]? = some (.lst (M.map spV))
def sel (M : List (Str × Str)) (w : Str) : List Str := (M.filter fun p => decide (p.1 = w)).map (·.2)
theorem sel_flat {w : Str} : ∀ {M : List (Str × Str)}, M.flatMap (fun p => if p.1 = w then [MV.str p.2] else []) = (sel M w).map MV.str
  | [] => rfl
  | p :: M => by
    rw [List.flatMap_cons, sel_flat (M := M)]
    unfold sel
    rw [List.filter_cons]
    by_cases h : p.1 = w
    · rw [if_pos h, if_pos (by rw [decide_eq_true h])]
      rfl
    · rw [if_neg h, if_neg (by rw [decide_eq_false h]; exact Bool.false_ne_true)]
      rfl
theorem sel_len {M : List (Str × Str)} {w : Str} : (sel M w).length ≤ M.length := by
  unfold sel
  rw [List.length_map]
  exact List.length_filter_le ..
theorem sel_mem {M : List (Str × Str)} {w x : Str} (h : x ∈ sel M w) : ∃ p ∈ M, p.2 = x := by
  obtain ⟨p, hp, e⟩ := List.mem_map.mp h
  exact ⟨p, (List.mem_filter.mp hp).1, e⟩
section
variable {A : AH} {se h mk s k kn dp : Nat} {T : Tb Nat} {F : Fa} {D : Tb Nat} {M : List (Str × Str)}
theorem SeAt.fp (S : SeAt A se h mk M) : fldM "Search" "past" (.ref se) A = .ok (.ref h) A := fld_at S.se rfl
theorem SeAt.fm (S : SeAt A se h mk M) : fldM "Search" "marks" (.ref se) A = .ok (.ref mk) A := fld_at S.se rfl
theorem SeAt.fr {A' : AH} {Z : Nat → Prop} (S : SeAt A se h mk M) (f : Fr Z A A') (hz : NoIns Z A) (hm : ¬ Z mk) : SeAt A' se h mk M := ⟨f.same _ _ (fun q => hz se q _ _ S.se) S.se, f.same _ _ hm S.ml⟩
theorem it_lkl {n : Nat} {xs : List MV} (h : A[n]? = some (.lkl xs)) : itV A (.ref n) = some xs := by
  unfold itV lklOf
  dsimp only [tupOf]
  rw [h]
theorem marked_ok (S : SeAt A se h mk M) (hl : M.length ≤ 1000) {w : Str} : F_Search_marked [.ref se, .str w] A = .ok (.lst ((sel M w).map MV.str)) A := by
  have hne : mk ≠ se := at_ne S.ml S.se (by intro z; cases z)
  have s1 : (A.set mk (.lkl (M.map spV)))[se]? = some (.ins "Search" [("past", .ref h), ("marks", .ref mk)]) := by rw [set_ne hne]; exact S.se
  have f1 : fldM "Search" "marks" (.ref se) (A.set mk (.lkl (M.map spV))) = .ok (.ref mk) (A.set mk (.lkl (M.map spV))) := fld_at s1 rfl
  have it := it_lkl (set_at (o' := .lkl (M.map spV)) S.ml)
  unfold F_Search_marked b_Search_marked
  simp only [defM, sSeq, sIf, sSet, sRet, sRetN, sExpr, sNext, sFld_def, sSub, sRaise, eVar, eC, eBin, eUn, tB', eB, bNot, bAnd, bOr, bIf, eIf, eAnd, eOr, eNot, aNil, aCons, eTup, aLst, eFrz, eRef, pN, pA, pK, pAK, eCall, eMeth_def, eFld_def, eMake_def, bind_ok, bind_err, bind_bad, fs_ok, fs_err, fs_bad, List.map_cons, List.map_nil, List.length_cons, List.length_nil, List.replicate, List.cons_append, List.nil_append, List.getElem?_cons_zero, List.getElem?_cons_succ, List.set_cons_zero, List.set_cons_succ, sz0, sz1, sz2, sz3, sz4, sz5, if_true, and_self, Nat.reduceSub, Nat.reduceAdd, Nat.reduceLeDiff, List.lookup_cons, List.lookup_nil, aLk, S.fm, aLock, S.ml, lkO]
  rw [lc_ys (ys := M) (inj := spV) (h := fun p => if p.1 = w then [MV.str p.2] else [])]
  · rw [sel_flat]
    simp only [defM, sSeq, sIf, sSet, sRet, sRetN, sExpr, sNext, sFld_def, sSub, sRaise, eVar, eC, eBin, eUn, tB', eB, bNot, bAnd, bOr, bIf, eIf, eAnd, eOr, eNot, aNil, aCons, eTup, aLst, eFrz, eRef, pN, pA, pK, pAK, eCall, eMeth_def, eFld_def, eMake_def, bind_ok, bind_err, bind_bad, fs_ok, fs_err, fs_bad, List.map_cons, List.map_nil, List.length_cons, List.length_nil, List.replicate, List.cons_append, List.nil_append, List.getElem?_cons_zero, List.getElem?_cons_succ, List.set_cons_zero, List.set_cons_succ, sz0, sz1, sz2, sz3, sz4, sz5, if_true, and_self, Nat.reduceSub, Nat.reduceAdd, Nat.reduceLeDiff, List.lookup_cons, List.lookup_nil, set_back S.ml]
  · simp only [defM, sSeq, sIf, sSet, sRet, sRetN, sExpr, sNext, sFld_def, sSub, sRaise, eVar, eC, eBin, eUn, tB', eB, bNot, bAnd, bOr, bIf, eIf, eAnd, eOr, eNot, aNil, aCons, eTup, aLst, eFrz, eRef, pN, pA, pK, pAK, eCall, eMeth_def, eFld_def, eMake_def, bind_ok, bind_err, bind_bad, fs_ok, fs_err, fs_bad, List.map_cons, List.map_nil, List.length_cons, List.length_nil, List.replicate, List.cons_append, List.nil_append, List.getElem?_cons_zero, List.getElem?_cons_succ, List.set_cons_zero, List.set_cons_succ, sz0, sz1, sz2, sz3, sz4, sz5, if_true, and_self, Nat.reduceSub, Nat.reduceAdd, Nat.reduceLeDiff, List.lookup_cons, List.lookup_nil, iAny, f1, it]
  · intro p hp
    refine ⟨[.str p.1, .str p.2], rfl, ?_⟩
    by_cases e : p.1 = w
    · simp only [defM, sSeq, sIf, sSet, sRet, sRetN, sExpr, sNext, sFld_def, sSub, sRaise, eVar, eC, eBin, eUn, tB', eB, bNot, bAnd, bOr, bIf, eIf, eAnd, eOr, eNot, aNil, aCons, eTup, aLst, eFrz, eRef, pN, pA, pK, pAK, eCall, eMeth_def, eFld_def, eMake_def, bind_ok, bind_err, bind_bad, fs_ok, fs_err, fs_bad, List.map_cons, List.map_nil, List.length_cons, List.length_nil, List.replicate, List.cons_append, List.nil_append, List.getElem?_cons_zero, List.getElem?_cons_succ, List.set_cons_zero, List.set_cons_succ, sz0, sz1, sz2, sz3, sz4, sz5, if_true, and_self, Nat.reduceSub, Nat.reduceAdd, Nat.reduceLeDiff, List.lookup_cons, List.lookup_nil, qElt, wipeM, setAllM, eq_str, decide_eq_true e, if_pos e]
    · simp only [defM, sSeq, sIf, sSet, sRet, sRetN, sExpr, sNext, sFld_def, sSub, sRaise, eVar, eC, eBin, eUn, tB', eB, bNot, bAnd, bOr, bIf, eIf, eAnd, eOr, eNot, aNil, aCons, eTup, aLst, eFrz, eRef, pN, pA, pK, pAK, eCall, eMeth_def, eFld_def, eMake_def, bind_ok, bind_err, bind_bad, fs_ok, fs_err, fs_bad, List.map_cons, List.map_nil, List.length_cons, List.length_nil, List.replicate, List.cons_append, List.nil_append, List.getElem?_cons_zero, List.getElem?_cons_succ, List.set_cons_zero, List.set_cons_succ, sz0, sz1, sz2, sz3, sz4, sz5, if_true, and_self, Nat.reduceSub, Nat.reduceAdd, Nat.reduceLeDiff, List.lookup_cons, List.lookup_nil, qElt, wipeM, setAllM, eq_str, decide_eq_false e, if_neg e]
  · rw [sel_flat]
    exact szL_le (by rw [List.length_map]; exact Nat.le_trans sel_len hl)
/-! ### candidates -/
theorem atI_zero {α : Type} {x : α} {xs : List α} : L2.atI (x :: xs) 0 = some x := by
  unfold L2.atI L2.ixN
  rw [if_pos (by decide), if_pos (by rw [List.length_cons]; omega)]
  rfl
theorem ix_lst0 {A : AH} {x : Str} {xs : List Str} : ixM (.lst ((x :: xs).map MV.str)) (.int 0) A = .ok (.str x) A := by
  rw [List.map_cons]
  simp only [ixM, dctV, tupOf, lstV, atI_zero]
theorem HW.lock (W : HW A h s k kn dp T F D) {x : Str} {n : Nat} {fd : Tb Unit} (e : get D x = some n) (ha : A[n]? = some (.dct (mapK uV fd))) : HW (A.set n (.lkd (mapK uV fd))) h s k kn dp T F D := by
  obtain ⟨n1, n2, _⟩ := W.e x n e
  have f : Fr (fun m => m = n) A (A.set n (.lkd (mapK uV fd))) := Fr.set rfl
  have z : NoIns (fun m => m = n) A := fun m hm C fs q => by
    rw [hm, ha] at q
    cases q
  refine ⟨W.ok, W.st.fr f z (Ne.symm n1), W.hi.fr f z, f.same _ _ (Ne.symm n2) W.d, W.kk, W.nd, W.kF, fun y m q => ?_⟩
  obtain ⟨a, b, fd', B⟩ := W.e y m q
  refine ⟨a, b, fd', ?_, B.nd, B.m⟩
  by_cases em : m = n
  · subst em
    rcases B.a with q2 | q2
    · rw [ha] at q2
      have q3 := MO.dct.inj (Option.some.inj q2)
      right
      rw [set_at ha, q3]
    · rw [ha] at q2
      cases q2
  · rw [set_ne (Ne.symm em)]
    exact B.a
abbrev inn (i j : Nat) : FL := aLc (iFrz (eVar i)) [5] [5] gNm (qElt bYes (eBin inM (eVar 4) (eMeth "History" "below" 2 0 (fun ms _ => ms) F_History_below (eFld "Search" "past" (eVar 0)) (pA (aCons (eVar j) aNil)))))
theorem inn_ok (W : HW A h s k kn dp T F D) (S : fldM "Search" "past" (.ref se) A = .ok (.ref h) A) {bs : List Str} (hb : ∀ b ∈ bs, b ∈ keys D) (hl : bs.length ≤ 1000) {i : Nat} {x1 x2 x3 x5 : Option MV} {y : Str} (hi : ([some (.ref se), x1, x2, x3, some (.str y), x5] : ME)[i]? = some (some (.lst (bs.map MV.str)))) :
    inn i 5 [some (.ref se), x1, x2, x3, some (.str y), x5] A = .ok ((bs.map fun b => decide (y ∈ dk A D b)).map MV.bl) A := by
  rw [← flat_bl]
  refine lc_ys (inj := MV.str) ?_ (fun b hx => ⟨[.str b], rfl, ?_⟩) (by rw [flat_bl]; exact szL_le (by rw [List.length_map, List.length_map]; exact hl))
  · unfold iFrz eVar
    rw [hi]
    rfl
  · obtain ⟨n, e⟩ := mem_get (hb b hx)
    obtain ⟨_, _, fd, B⟩ := W.e b n e
    have mb : mthB "History" "below" (.ref h) A = true := mth_at W.hi.h rfl
    simp only [defM, sSeq, sIf, sSet, sRet, sRetN, sExpr, sNext, sFld_def, sSub, sRaise, eVar, eC, eBin, eUn, tB', eB, bNot, bAnd, bOr, bIf, eIf, eAnd, eOr, eNot, aNil, aCons, eTup, aLst, eFrz, eRef, pN, pA, pK, pAK, eCall, eMeth_def, eFld_def, eMake_def, bind_ok, bind_err, bind_bad, fs_ok, fs_err, fs_bad, List.map_cons, List.map_nil, List.length_cons, List.length_nil, List.replicate, List.cons_append, List.nil_append, List.getElem?_cons_zero, List.getElem?_cons_succ, List.set_cons_zero, List.set_cons_succ, sz0, sz1, sz2, sz3, sz4, sz5, if_true, and_self, Nat.reduceSub, Nat.reduceAdd, Nat.reduceLeDiff, List.lookup_cons, List.lookup_nil, qElt, wipeM, setAllM, bYes, S, mb, below_known W e, in_dct (dctV_str B.a), dk_eq e B]
def cd1 : FL := (aLc (iAny (eMeth "History" "below" 2 0 (fun ms _ => ms) F_History_below (eFld "Search" "past" (eVar 0)) (pA (aCons (eBin ixM (eVar 1) (eC (.int 0))) aNil)))) [4] [4] gNm (qElt (tB' (fun ρ A => ((aCons (eFrz (aLc (iFrz (eVar 1)) [5] [5] gNm (qElt bYes (eBin inM (eVar 4) (eMeth "History" "below" 2 0 (fun ms _ => ms) F_History_below (eFld "Search" "past" (eVar 0)) (pA (aCons (eVar 5) aNil))))))) aNil) ρ A).bind (allM fun bs => bs.all id))) (eVar 4)))
def cd2 : FL := (aLc (iFrz (eVar 3)) [4] [4] gNm (qElt (bNot (tB' (fun ρ A => ((aCons (eFrz (aLc (iFrz (eVar 2)) [5] [5] gNm (qElt bYes (eBin inM (eVar 4) (eMeth "History" "below" 2 0 (fun ms _ => ms) F_History_below (eFld "Search" "past" (eVar 0)) (pA (aCons (eVar 5) aNil))))))) aNil) ρ A).bind (allM fun bs => bs.any id)))) (eVar 4)))
theorem cd_def : b_Search_candidates = (sSeq (sAsg (eTup (aCons (eMeth "Search" "marked" 2 0 (fun ms _ => ms) F_Search_marked (eVar 0) (pA (aCons (eC (.str "bad")) aNil))) (aCons (eMeth "Search" "marked" 2 0 (fun ms _ => ms) F_Search_marked (eVar 0) (pA (aCons (eC (.str "good")) aNil))) aNil))) [1, 2] (gTupM 2 (gConsM gNm (gConsM gNm gNilM)))) (sSeq (sIf (tB' (eBin eqM (eVar 1) (eFrz (aLst aNil)))) (sRet (eC (.ptp []))) sNext) (sSeq (sLk (eMeth "History" "below" 2 0 (fun ms _ => ms) F_History_below (eFld "Search" "past" (eVar 0)) (pA (aCons (eBin ixM (eVar 1) (eC (.int 0))) aNil))) (sSet 3 (eFrz cd1))) (sRet (fun ρ A => ((aCons (eFrz (fun ρ A => ((aCons (eFrz cd2) aNil) ρ A).bind sortedL)) aNil) ρ A).bind tupleM))))) := rfl
theorem flat_filter {f : Str → Bool} : ∀ {ys : List Str}, ys.flatMap (fun y => if f y = true then [MV.str y] else []) = (ys.filter f).map MV.str
  | [] => rfl
  | y :: ys => by
    rw [List.flatMap_cons, flat_filter (ys := ys), List.filter_cons]
    by_cases h : f y = true
    · rw [if_pos h, if_pos h]; rfl
    · rw [if_neg h, if_neg h]; rfl
theorem strsOf_map : ∀ ks : List Str, strsOf (ks.map MV.str) = some ks
  | [] => rfl
  | k :: ks => by
    show (strsOf (ks.map MV.str)).map (k :: ·) = _
    rw [strsOf_map ks]
    rfl
theorem sorted_strs {ks : List Str} (h : ks.length < 64) : sortedL [.lst (ks.map MV.str)] A = .ok ((sortS ks).map MV.str) A := by
  unfold sortedL
  dsimp only [dctV, lstV]
  rw [strsOf_map]
  dsimp only
  rw [if_pos h]
theorem tuple_lst {xs : List MV} : tupleM [.lst xs] A = .ok (.tup xs) A := rfl
/-- what the candidates are -/
structure Cand (F : Fa) (bad good : List Str) (L : List Str) : Prop where
  nd : L.Nodup
  asc : AscS L
  m : ∀ y, y ∈ L ↔ (∀ b ∈ bad, Rch F (fun w => w = b) y) ∧ ¬ ∃ g ∈ good, Rch F (fun w => w = g) y
theorem Cand.eq {bad good L L' : List Str} (h : Cand F bad good L) (h' : Cand F bad good L') : L = L' :=
  asc_unique ((List.perm_ext_iff_of_nodup h.nd h'.nd).mpr fun y => by rw [h.m, h'.m]) h.asc h'.asc
theorem cand_none (S : SeAt A se h mk M) (hl : M.length ≤ 1000) (hb : sel M "bad" = []) : F_Search_candidates [.ref se] A = .ok (.ptp []) A := by
  have m1 : mthB "Search" "marked" (.ref se) A = true := mth_at S.se rfl
  have e1 := marked_ok S hl (w := "bad")
  have e2 := marked_ok S hl (w := "good")
  rw [hb] at e1
  have eq : eqM (.lst (([] : List Str).map MV.str)) (.lst []) A = .ok (.bl true) A := rfl
  unfold F_Search_candidates
  rw [cd_def]
  simp only [defM, sSeq, sIf, sSet, sRet, sRetN, sExpr, sNext, sFld_def, sSub, sRaise, eVar, eC, eBin, eUn, tB', eB, bNot, bAnd, bOr, bIf, eIf, eAnd, eOr, eNot, aNil, aCons, eTup, aLst, eFrz, eRef, pN, pA, pK, pAK, eCall, eMeth_def, eFld_def, eMake_def, bind_ok, bind_err, bind_bad, fs_ok, fs_err, fs_bad, List.map_cons, List.map_nil, List.length_cons, List.length_nil, List.replicate, List.cons_append, List.nil_append, List.getElem?_cons_zero, List.getElem?_cons_succ, List.set_cons_zero, List.set_cons_succ, sz0, sz1, sz2, sz3, sz4, sz5, if_true, and_self, Nat.reduceSub, Nat.reduceAdd, Nat.reduceLeDiff, List.lookup_cons, List.lookup_nil, sAsg, m1, e1, e2, gTupM, tupOf, gConsM, gNm, gNilM, setAllM]
  rfl
theorem cand_some (W : HW A h s k kn dp T F D) (S : SeAt A se h mk M) (hl : M.length ≤ 1000) (hM : ∀ p ∈ M, p.2 ∈ keys D) (hb : sel M "bad" ≠ []) : ∃ L, F_Search_candidates [.ref se] A = .ok (.tup (L.map MV.str)) A ∧ Cand F (sel M "bad") (sel M "good") L := by
  have m1 : mthB "Search" "marked" (.ref se) A = true := mth_at S.se rfl
  have e1 := marked_ok S hl (w := "bad")
  have e2 := marked_ok S hl (w := "good")
  have hbad : ∀ b ∈ sel M "bad", b ∈ keys D := fun b q => by obtain ⟨p, hp, e⟩ := sel_mem q; rw [← e]; exact hM p hp
  have hgood : ∀ b ∈ sel M "good", b ∈ keys D := fun b q => by obtain ⟨p, hp, e⟩ := sel_mem q; rw [← e]; exact hM p hp
  have l1 : (sel M "bad").length ≤ 1000 := Nat.le_trans sel_len hl
  have l2 : (sel M "good").length ≤ 1000 := Nat.le_trans sel_len hl
  generalize sel M "bad" = bad at *
  generalize sel M "good" = good at *
  obtain ⟨b0, br, eb⟩ : ∃ b0 br, bad = b0 :: br := by cases bad with | nil => exact absurd rfl hb | cons a r => exact ⟨a, r, rfl⟩
  have h0 : b0 ∈ bad := by rw [eb]; exact List.mem_cons_self ..
  obtain ⟨n, en⟩ := mem_get (hbad b0 h0)
  obtain ⟨nk, nkn, fd, B⟩ := W.e b0 n en
  have mb : mthB "History" "below" (.ref h) A = true := mth_at W.hi.h rfl
  have ix : ∀ {A : AH}, ixM (.lst (bad.map MV.str)) (.int 0) A = .ok (.str b0) A := fun {A} => by rw [eb]; exact ix_lst0
  have lfd : (keys fd).length ≤ 60 := by
    have := nodup_le B.nd (m := keys F) fun y hy => W.ok.rch (fun z q => by rw [q]; exact W.kF b0 (hbad b0 h0)) ((B.m y).mp hy)
    have q := W.ok.len
    unfold keys at this ⊢
    rw [List.length_map] at this
    rw [List.length_map] at this ⊢
    omega
  -- the first choice, in a heap where the dict is locked
  have c1 : ∀ {A1 : AH}, HW A1 h s k kn dp T F D → A1[n]? = some (.lkd (mapK uV fd)) → fldM "Search" "past" (.ref se) A1 = .ok (.ref h) A1 → cd1 [some (.ref se), some (.lst (bad.map MV.str)), some (.lst (good.map MV.str)), none, none, none] A1 = .ok (((keys fd).filter fun y => (bad.map fun b => decide (y ∈ dk A1 D b)).all id).map MV.str) A1 := fun {A1} W1 L1 S1 => by
    have mb1 : mthB "History" "below" (.ref h) A1 = true := mth_at W1.hi.h rfl
    rw [← flat_filter]
    unfold cd1
    refine lc_ys (inj := MV.str) ?_ (fun y hy => ⟨[.str y], rfl, ?_⟩) ?_
    · simp only [defM, sSeq, sIf, sSet, sRet, sRetN, sExpr, sNext, sFld_def, sSub, sRaise, eVar, eC, eBin, eUn, tB', eB, bNot, bAnd, bOr, bIf, eIf, eAnd, eOr, eNot, aNil, aCons, eTup, aLst, eFrz, eRef, pN, pA, pK, pAK, eCall, eMeth_def, eFld_def, eMake_def, bind_ok, bind_err, bind_bad, fs_ok, fs_err, fs_bad, List.map_cons, List.map_nil, List.length_cons, List.length_nil, List.replicate, List.cons_append, List.nil_append, List.getElem?_cons_zero, List.getElem?_cons_succ, List.set_cons_zero, List.set_cons_succ, sz0, sz1, sz2, sz3, sz4, sz5, if_true, and_self, Nat.reduceSub, Nat.reduceAdd, Nat.reduceLeDiff, List.lookup_cons, List.lookup_nil, iAny, S1, mb1, ix, below_known W1 en, it_lkd L1]
    · have q := inn_ok W1 S1 hbad l1 (i := 1) (x1 := some (.lst (bad.map MV.str))) (x2 := some (.lst (good.map MV.str))) (x3 := none) (x5 := none) (y := y) rfl
      by_cases z : (bad.map fun b => decide (y ∈ dk A1 D b)).all id = true
      · simp only [defM, sSeq, sIf, sSet, sRet, sRetN, sExpr, sNext, sFld_def, sSub, sRaise, eVar, eC, eBin, eUn, tB', eB, bNot, bAnd, bOr, bIf, eIf, eAnd, eOr, eNot, aNil, aCons, eTup, aLst, eFrz, eRef, pN, pA, pK, pAK, eCall, eMeth_def, eFld_def, eMake_def, bind_ok, bind_err, bind_bad, fs_ok, fs_err, fs_bad, List.map_cons, List.map_nil, List.length_cons, List.length_nil, List.replicate, List.cons_append, List.nil_append, List.getElem?_cons_zero, List.getElem?_cons_succ, List.set_cons_zero, List.set_cons_succ, sz0, sz1, sz2, sz3, sz4, sz5, if_true, and_self, Nat.reduceSub, Nat.reduceAdd, Nat.reduceLeDiff, List.lookup_cons, List.lookup_nil, qElt, wipeM, setAllM, q, all_bls, z]
      · have z' : (bad.map fun b => decide (y ∈ dk A1 D b)).all id = false := by simpa using z
        simp only [defM, sSeq, sIf, sSet, sRet, sRetN, sExpr, sNext, sFld_def, sSub, sRaise, eVar, eC, eBin, eUn, tB', eB, bNot, bAnd, bOr, bIf, eIf, eAnd, eOr, eNot, aNil, aCons, eTup, aLst, eFrz, eRef, pN, pA, pK, pAK, eCall, eMeth_def, eFld_def, eMake_def, bind_ok, bind_err, bind_bad, fs_ok, fs_err, fs_bad, List.map_cons, List.map_nil, List.length_cons, List.length_nil, List.replicate, List.cons_append, List.nil_append, List.getElem?_cons_zero, List.getElem?_cons_succ, List.set_cons_zero, List.set_cons_succ, sz0, sz1, sz2, sz3, sz4, sz5, if_true, and_self, Nat.reduceSub, Nat.reduceAdd, Nat.reduceLeDiff, List.lookup_cons, List.lookup_nil, qElt, wipeM, setAllM, q, all_bls, z']
        rfl
    · rw [flat_filter]
      exact szL_le (by rw [List.length_map]; exact Nat.le_trans (List.length_filter_le ..) (by omega))
  -- the second
  have c2 : ∀ {fl : List Str}, fl.length ≤ 60 → cd2 [some (.ref se), some (.lst (bad.map MV.str)), some (.lst (good.map MV.str)), some (.lst (fl.map MV.str)), none, none] A = .ok ((fl.filter fun y => !(good.map fun b => decide (y ∈ dk A D b)).any id).map MV.str) A := fun {fl} hfl => by
    rw [← flat_filter]
    unfold cd2
    refine lc_ys (inj := MV.str) ?_ (fun y hy => ⟨[.str y], rfl, ?_⟩) ?_
    · simp only [defM, sSeq, sIf, sSet, sRet, sRetN, sExpr, sNext, sFld_def, sSub, sRaise, eVar, eC, eBin, eUn, tB', eB, bNot, bAnd, bOr, bIf, eIf, eAnd, eOr, eNot, aNil, aCons, eTup, aLst, eFrz, eRef, pN, pA, pK, pAK, eCall, eMeth_def, eFld_def, eMake_def, bind_ok, bind_err, bind_bad, fs_ok, fs_err, fs_bad, List.map_cons, List.map_nil, List.length_cons, List.length_nil, List.replicate, List.cons_append, List.nil_append, List.getElem?_cons_zero, List.getElem?_cons_succ, List.set_cons_zero, List.set_cons_succ, sz0, sz1, sz2, sz3, sz4, sz5, if_true, and_self, Nat.reduceSub, Nat.reduceAdd, Nat.reduceLeDiff, List.lookup_cons, List.lookup_nil, iFrz]
    · have q := inn_ok W S.fp hgood l2 (i := 2) (x1 := some (.lst (bad.map MV.str))) (x2 := some (.lst (good.map MV.str))) (x3 := some (.lst (fl.map MV.str))) (x5 := none) (y := y) rfl
      by_cases z : (good.map fun b => decide (y ∈ dk A D b)).any id = true
      · simp only [defM, sSeq, sIf, sSet, sRet, sRetN, sExpr, sNext, sFld_def, sSub, sRaise, eVar, eC, eBin, eUn, tB', eB, bNot, bAnd, bOr, bIf, eIf, eAnd, eOr, eNot, aNil, aCons, eTup, aLst, eFrz, eRef, pN, pA, pK, pAK, eCall, eMeth_def, eFld_def, eMake_def, bind_ok, bind_err, bind_bad, fs_ok, fs_err, fs_bad, List.map_cons, List.map_nil, List.length_cons, List.length_nil, List.replicate, List.cons_append, List.nil_append, List.getElem?_cons_zero, List.getElem?_cons_succ, List.set_cons_zero, List.set_cons_succ, sz0, sz1, sz2, sz3, sz4, sz5, if_true, and_self, Nat.reduceSub, Nat.reduceAdd, Nat.reduceLeDiff, List.lookup_cons, List.lookup_nil, qElt, wipeM, setAllM, q, all_bls, z, Bool.not_true]
        rfl
      · have z' : (good.map fun b => decide (y ∈ dk A D b)).any id = false := by simpa using z
        simp only [defM, sSeq, sIf, sSet, sRet, sRetN, sExpr, sNext, sFld_def, sSub, sRaise, eVar, eC, eBin, eUn, tB', eB, bNot, bAnd, bOr, bIf, eIf, eAnd, eOr, eNot, aNil, aCons, eTup, aLst, eFrz, eRef, pN, pA, pK, pAK, eCall, eMeth_def, eFld_def, eMake_def, bind_ok, bind_err, bind_bad, fs_ok, fs_err, fs_bad, List.map_cons, List.map_nil, List.length_cons, List.length_nil, List.replicate, List.cons_append, List.nil_append, List.getElem?_cons_zero, List.getElem?_cons_succ, List.set_cons_zero, List.set_cons_succ, sz0, sz1, sz2, sz3, sz4, sz5, if_true, and_self, Nat.reduceSub, Nat.reduceAdd, Nat.reduceLeDiff, List.lookup_cons, List.lookup_nil, qElt, wipeM, setAllM, q, all_bls, z', Bool.not_false]
    · rw [flat_filter]
      exact szL_le (by rw [List.length_map]; exact Nat.le_trans (List.length_filter_le ..) (by omega))
  obtain ⟨A1, W1, fin⟩ : ∃ A1, HW A1 h s k kn dp T F D ∧ ∀ {ρ : ME} {r : List MV}, (cd1 [some (.ref se), some (.lst (bad.map MV.str)), some (.lst (good.map MV.str)), none, none, none] A1 = .ok (((keys fd).filter fun y => (bad.map fun b => decide (y ∈ dk A1 D b)).all id).map MV.str) A1) ∧ sLk (eMeth "History" "below" 2 0 (fun ms _ => ms) F_History_below (eFld "Search" "past" (eVar 0)) (pA (aCons (eBin ixM (eVar 1) (eC (.int 0))) aNil))) (sSet 3 (eFrz cd1)) [some (.ref se), some (.lst (bad.map MV.str)), some (.lst (good.map MV.str)), none, none, none] A = .nx [some (.ref se), some (.lst (bad.map MV.str)), some (.lst (good.map MV.str)), some (.lst (((keys fd).filter fun y => (bad.map fun b => decide (y ∈ dk A1 D b)).all id).map MV.str)), none, none] A := by
    rcases B.a with ha | ha
    · have W1 := W.lock en ha
      have S1 : fldM "Search" "past" (.ref se) (A.set n (.lkd (mapK uV fd))) = .ok (.ref h) (A.set n (.lkd (mapK uV fd))) := fld_at (by rw [set_ne (at_ne ha S.se (by intro z; cases z))]; exact S.se) rfl
      have q := c1 W1 (set_at ha) S1
      refine ⟨_, W1, fun {ρ r} => ⟨q, ?_⟩⟩
      simp only [defM, sSeq, sIf, sSet, sRet, sRetN, sExpr, sNext, sFld_def, sSub, sRaise, eVar, eC, eBin, eUn, tB', eB, bNot, bAnd, bOr, bIf, eIf, eAnd, eOr, eNot, aNil, aCons, eTup, aLst, eFrz, eRef, pN, pA, pK, pAK, eCall, eMeth_def, eFld_def, eMake_def, bind_ok, bind_err, bind_bad, fs_ok, fs_err, fs_bad, List.map_cons, List.map_nil, List.length_cons, List.length_nil, List.replicate, List.cons_append, List.nil_append, List.getElem?_cons_zero, List.getElem?_cons_succ, List.set_cons_zero, List.set_cons_succ, sz0, sz1, sz2, sz3, sz4, sz5, if_true, and_self, Nat.reduceSub, Nat.reduceAdd, Nat.reduceLeDiff, List.lookup_cons, List.lookup_nil, sLk, S.fp, mb, ix, below_known W en, sLock, ha, lkO, q, unlk, set_back ha]
    · have q := c1 W ha S.fp
      refine ⟨_, W, fun {ρ r} => ⟨q, ?_⟩⟩
      simp only [defM, sSeq, sIf, sSet, sRet, sRetN, sExpr, sNext, sFld_def, sSub, sRaise, eVar, eC, eBin, eUn, tB', eB, bNot, bAnd, bOr, bIf, eIf, eAnd, eOr, eNot, aNil, aCons, eTup, aLst, eFrz, eRef, pN, pA, pK, pAK, eCall, eMeth_def, eFld_def, eMake_def, bind_ok, bind_err, bind_bad, fs_ok, fs_err, fs_bad, List.map_cons, List.map_nil, List.length_cons, List.length_nil, List.replicate, List.cons_append, List.nil_append, List.getElem?_cons_zero, List.getElem?_cons_succ, List.set_cons_zero, List.set_cons_succ, sz0, sz1, sz2, sz3, sz4, sz5, if_true, and_self, Nat.reduceSub, Nat.reduceAdd, Nat.reduceLeDiff, List.lookup_cons, List.lookup_nil, sLk, S.fp, mb, ix, below_known W en, sLock, ha, lkO, isLk, q]
  have lfl : ((keys fd).filter fun y => (bad.map fun b => decide (y ∈ dk A1 D b)).all id).length ≤ 60 := Nat.le_trans (List.length_filter_le ..) lfd
  have q2 := c2 lfl
  have lfl2 : (((keys fd).filter fun y => (bad.map fun b => decide (y ∈ dk A1 D b)).all id).filter fun y => !(good.map fun b => decide (y ∈ dk A D b)).any id).length < 64 := Nat.lt_of_le_of_lt (Nat.le_trans (List.length_filter_le ..) lfl) (by decide)
  refine ⟨sortS (((keys fd).filter fun y => (bad.map fun b => decide (y ∈ dk A1 D b)).all id).filter fun y => !(good.map fun b => decide (y ∈ dk A D b)).any id), ?_, ⟨(sortS_perm _).nodup_iff.mpr ((B.nd.filter _).filter _), sortS_asc _, fun y => ?_⟩⟩
  · unfold F_Search_candidates
    rw [cd_def]
    have ne : eqM (.lst (bad.map MV.str)) (.lst []) A = .ok (.bl false) A := by rw [eq_lst_nil, eb]; rfl
    simp only [defM, sSeq, sIf, sSet, sRet, sRetN, sExpr, sNext, sFld_def, sSub, sRaise, eVar, eC, eBin, eUn, tB', eB, bNot, bAnd, bOr, bIf, eIf, eAnd, eOr, eNot, aNil, aCons, eTup, aLst, eFrz, eRef, pN, pA, pK, pAK, eCall, eMeth_def, eFld_def, eMake_def, bind_ok, bind_err, bind_bad, fs_ok, fs_err, fs_bad, List.map_cons, List.map_nil, List.length_cons, List.length_nil, List.replicate, List.cons_append, List.nil_append, List.getElem?_cons_zero, List.getElem?_cons_succ, List.set_cons_zero, List.set_cons_succ, sz0, sz1, sz2, sz3, sz4, sz5, if_true, and_self, Nat.reduceSub, Nat.reduceAdd, Nat.reduceLeDiff, List.lookup_cons, List.lookup_nil, sAsg, m1, e1, e2, gTupM, tupOf, gConsM, gNm, gNilM, setAllM, ne, (fin (ρ := []) (r := [])).2, q2, sorted_strs lfl2, tuple_lst]
  · rw [(sortS_perm _).mem_iff, List.mem_filter, List.mem_filter]
    have a1 : ((bad.map fun b => decide (y ∈ dk A1 D b)).all id = true) ↔ ∀ b ∈ bad, Rch F (fun w => w = b) y := by
      rw [List.all_eq_true]
      constructor
      · intro q b hb
        have := q _ (List.mem_map_of_mem (f := fun b => decide (y ∈ dk A1 D b)) hb)
        exact (dk_mem W1 (hbad b hb)).mp (of_decide_eq_true this)
      · intro q z hz
        obtain ⟨b, hb, rfl⟩ := List.mem_map.mp hz
        exact decide_eq_true ((dk_mem W1 (hbad b hb)).mpr (q b hb))
    have a2 : ((!(good.map fun b => decide (y ∈ dk A D b)).any id) = true) ↔ ¬ ∃ g ∈ good, Rch F (fun w => w = g) y := by
      rw [Bool.not_eq_true', ← Bool.not_eq_true, List.any_eq_true]
      refine not_congr ⟨fun ⟨z, hz, q⟩ => ?_, fun ⟨g, hg, q⟩ => ⟨_, List.mem_map_of_mem (f := fun b => decide (y ∈ dk A D b)) hg, decide_eq_true ((dk_mem W (hgood g hg)).mpr q)⟩⟩
      obtain ⟨g, hg, rfl⟩ := List.mem_map.mp hz
      exact ⟨g, hg, (dk_mem W (hgood g hg)).mp (of_decide_eq_true q)⟩
    rw [a1, a2]
    constructor
    · exact fun q => ⟨q.1.2, q.2⟩
    · exact fun q => ⟨⟨(B.m y).mpr (q.1 b0 h0), q.1⟩, q.2⟩
end
end Rp
/-! Sp8: marks: bad, good, skip, undo -/
namespace Rp
open PySem PySem.Spec PyProof.Rows Mv Rf
def spD (p : Str × Str) : PyData := .tuple [.str p.1, .str p.2]
theorem datMs_sp : ∀ M : List (Str × Str), datMs (M.map spV) = some (M.map spD)
  | [] => rfl
  | p :: M => by
    show (match datM (spV p), datMs (M.map spV) with | some d, some ds => some (d :: ds) | _, _ => none) = _
    rw [datMs_sp M]
    rfl
theorem okD_sps (M : List (Str × Str)) : okD (.list (M.map spD)) = true := by
  have h1 : PyData.plainAll (M.map spD) = true := by
    induction M with
    | nil => rfl
    | cons e es ih =>
      show (PyData.plain (spD e) && PyData.plainAll (es.map spD)) = true
      rw [ih, Bool.and_true]
      rfl
  have h2 : PyData.depthAll (M.map spD) ≤ 10 := by
    clear h1
    induction M with
    | nil => decide
    | cons e es ih =>
      simp only [List.map_cons, PyData.depthAll]
      have : PyData.depth (spD e) ≤ 9 := by simp [spD, PyData.depth, PyData.depthAll]
      omega
  show (PyData.plainAll (M.map spD) && decide (PyData.depthAll (M.map spD) + 1 ≤ 60)) = true
  rw [h1, decide_eq_true (by omega)]
  rfl
theorem eqv_sps_nil : ∀ M : List (Str × Str), PyData.eqv (.list (M.map spD)) (.list []) = M.isEmpty
  | [] => rfl
  | k :: ks => by simp [PyData.eqv, PyData.eqvAll]
section
variable {A : AH} {se h mk s k kn dp : Nat} {T : Tb Nat} {F : Fa} {D : Tb Nat} {M : List (Str × Str)}
theorem eq_sps_nil (hm : A[mk]? = some (.lst (M.map spV))) : eqM (.ref mk) (.lst []) A = .ok (.bl M.isEmpty) A := by
  have d : datA A (.ref mk) = some (.list (M.map spD)) := by
    unfold datA
    dsimp only
    rw [lstV_at hm]
    dsimp only
    rw [datMs_sp]
    rfl
  unfold eqM
  rw [d, show datA A (.lst []) = some (.list []) from rfl]
  dsimp only
  rw [okD_sps, okD_nil, Bool.and_self, if_pos rfl, eqv_sps_nil]
theorem ne_sps_nil {A : AH} : neM (.lst (M.map spV)) (.lst []) A = .ok (.bl (!M.isEmpty)) A := by
  have d : datA A (.lst (M.map spV)) = some (.list (M.map spD)) := by
    show (datMs (M.map spV)).map PyData.list = _
    rw [datMs_sp]
    rfl
  unfold neM
  rw [d, show datA A (.lst []) = some (.list []) from rfl]
  dsimp only
  rw [okD_sps, okD_nil, Bool.and_self, if_pos rfl, eqv_sps_nil]
theorem eqv_tup_nil : ∀ ks : List Str, PyData.eqv (.tuple (ks.map PyData.str)) (.tuple []) = ks.isEmpty
  | [] => rfl
  | k :: ks => by simp [PyData.eqv, PyData.eqvAll]
theorem dat_tup {ks : List Str} : datA A (.tup (ks.map MV.str)) = some (.tuple (ks.map PyData.str)) := by
  show (datMs (ks.map MV.str)).map PyData.tuple = _
  rw [datMs_str]
  rfl
theorem okD_tup (ks : List Str) : okD (.tuple (ks.map PyData.str)) = true := okD_strs ks
theorem eq_tup_nil {ks : List Str} : eqM (.tup (ks.map MV.str)) (.ptp []) A = .ok (.bl ks.isEmpty) A := by
  unfold eqM
  rw [dat_tup, show datA A (.ptp []) = some (.tuple []) from rfl]
  dsimp only
  rw [okD_tup, show okD (.tuple []) = true from rfl, Bool.and_self, if_pos rfl, eqv_tup_nil]
theorem ne_tup_nil {ks : List Str} : neM (.tup (ks.map MV.str)) (.ptp []) A = .ok (.bl (!ks.isEmpty)) A := by
  unfold neM
  rw [dat_tup, show datA A (.ptp []) = some (.tuple []) from rfl]
  dsimp only
  rw [okD_tup, show okD (.tuple []) = true from rfl, Bool.and_self, if_pos rfl, eqv_tup_nil]
/-- the whole of a search -/
structure SW (A : AH) (se mk h s k kn dp : Nat) (T : Tb Nat) (F : Fa) (D : Tb Nat) (M : List (Str × Str)) : Prop where
  w : HW A h s k kn dp T F D
  s : SeAt A se h mk M
  m : ∀ p ∈ M, p.2 ∈ keys D
theorem SW.fr {A' : AH} {Z : Nat → Prop} (W : SW A se mk h s k kn dp T F D M) (f : Fr Z A A') (hz : NoIns Z A) (hk : ¬ Z k) (hn : ¬ Z kn) (hd : ∀ x n, get D x = some n → ¬ Z n) (hm : ¬ Z mk) : SW A' se mk h s k kn dp T F D M := ⟨W.w.fr f hz hk hn hd, W.s.fr f hz hm, W.m⟩
theorem HW.set_lst (W : HW A h s k kn dp T F D) {n : Nat} {xs ys : List MV} (hn : A[n]? = some (.lst xs)) : HW (A.set n (.lst ys)) h s k kn dp T F D := by
  refine W.fr (Z := fun m => m = n) (Fr.set rfl) (fun m hm C fs q => ?_) (at_ne W.st.k hn (by intro z; cases z)) (at_ne W.d hn (by intro z; cases z)) fun x m e => ?_
  · rw [hm, hn] at q
    cases q
  · obtain ⟨_, _, fd, B⟩ := W.e x m e
    rcases B.a with q | q
    · exact at_ne q hn (by intro z; cases z)
    · exact at_ne q hn (by intro z; cases z)
theorem SW.marks (W : SW A se mk h s k kn dp T F D M) {M' : List (Str × Str)} (hM : ∀ p ∈ M', p.2 ∈ keys D) : SW (A.set mk (.lst (M'.map spV))) se mk h s k kn dp T F D M' :=
  ⟨W.w.set_lst W.s.ml, ⟨by rw [set_ne (at_ne W.s.ml W.s.se (by intro z; cases z))]; exact W.s.se, set_at W.s.ml⟩, hM⟩
/-- would no candidate be left? -/
def Lost (F : Fa) (w : Str) (M : List (Str × Str)) : Prop := w ≠ "skip" ∧ sel M "bad" ≠ [] ∧ Cand F (sel M "bad") (sel M "good") []
theorem mark_ok (W : SW A se mk h s k kn dp T F D M) (hl : M.length ≤ 500) {w x : Str} (hx : x ∈ keys F) : ∃ A' D' b, F_Search_mark [.ref se, .str w, .str x] A = (if b = true then .err "BadMark" (mk_BadMark (.str "no candidates would be left")) A' else .ok .non A') ∧ Fr (fun n => n = kn ∨ n = mk) A A' ∧ SW A' se mk h s k kn dp T F D' (if b = true then M else M ++ [(w, x)]) ∧ (b = true ↔ Lost F w (M ++ [(w, x)])) := by
  obtain ⟨n, A1, D1, e1, f1, W1, k1⟩ := below_ok W.w hx
  have z1 : NoIns (fun n => n = kn) A := fun n hn C fs q => by
    rw [hn, W.w.d] at q
    cases q
  have S1 : SeAt A1 se h mk M := W.s.fr f1 z1 (at_ne W.s.ml W.w.d (by intro z; cases z))
  have X1 : SW A1 se mk h s k kn dp T F D1 M := ⟨W1, S1, fun p hp => (k1 _).mpr (.inl (W.m p hp))⟩
  have hM2 : ∀ p ∈ M ++ [(w, x)], p.2 ∈ keys D1 := fun p hp => by
    rcases List.mem_append.mp hp with q | q
    · exact X1.m p q
    · rw [List.mem_singleton.mp q]; exact (k1 x).mpr (.inr rfl)
  have X2 := X1.marks (M' := M ++ [(w, x)]) hM2
  have ap : appM (.ref mk) (.tup [.str w, .str x]) A1 = .ok .non (A1.set mk (.lst ((M ++ [(w, x)]).map spV))) := by
    rw [appM_at S1.ml (by rw [List.length_map]; omega), List.map_append]
    rfl
  have l2 : (M ++ [(w, x)]).length ≤ 1000 := by rw [List.length_append]; simp only [List.length_cons, List.length_nil]; omega
  have mb : mthB "History" "below" (.ref h) A = true := mth_at W.w.hi.h rfl
  have m1 : ∀ {A : AH} {M : List (Str × Str)} (S : SeAt A se h mk M), mthB "Search" "marked" (.ref se) A = true := fun S => mth_at S.se rfl
  have m2 : ∀ {A : AH} {M : List (Str × Str)} (S : SeAt A se h mk M), mthB "Search" "candidates" (.ref se) A = true := fun S => mth_at S.se rfl
  have fA : Fr (fun n => n = kn ∨ n = mk) A (A1.set mk (.lst ((M ++ [(w, x)]).map spV))) := (f1.mono fun _ q => .inl q).trans (Fr.set (.inr rfl))
  by_cases hw : w = "skip"
  · refine ⟨_, D1, false, ?_, fA, X2, ⟨fun q => (by cases q), fun q => absurd hw q.1⟩⟩
    unfold F_Search_mark b_Search_mark
    simp only [defM, sSeq, sIf, sSet, sRet, sRetN, sExpr, sNext, sFld_def, sSub, sRaise, eVar, eC, eBin, eUn, tB', eB, bNot, bAnd, bOr, bIf, eIf, eAnd, eOr, eNot, aNil, aCons, eTup, aLst, eFrz, eRef, pN, pA, pK, pAK, eCall, eMeth_def, eFld_def, eMake_def, bind_ok, bind_err, bind_bad, fs_ok, fs_err, fs_bad, List.map_cons, List.map_nil, List.length_cons, List.length_nil, List.replicate, List.cons_append, List.nil_append, List.getElem?_cons_zero, List.getElem?_cons_succ, List.set_cons_zero, List.set_cons_succ, sz0, sz1, sz2, sz3, sz4, sz5, if_true, and_self, Nat.reduceSub, Nat.reduceAdd, Nat.reduceLeDiff, List.lookup_cons, List.lookup_nil, W.s.fp, mb, e1, eApp_def, S1.fm, lstB_at S1.ml, ap, ne_str, decide_eq_true hw, Bool.not_true]
    rfl
  have mk1 := marked_ok X2.s l2 (w := "bad")
  by_cases hb : sel (M ++ [(w, x)]) "bad" = []
  · refine ⟨_, D1, false, ?_, fA, X2, ⟨fun q => (by cases q), fun q => absurd hb q.2.1⟩⟩
    rw [hb] at mk1
    have nn : neM (.lst (([] : List Str).map MV.str)) (.lst []) (A1.set mk (.lst ((M ++ [(w, x)]).map spV))) = .ok (.bl false) (A1.set mk (.lst ((M ++ [(w, x)]).map spV))) := rfl
    unfold F_Search_mark b_Search_mark
    rw [List.map_nil] at mk1 nn
    simp only [defM, sSeq, sIf, sSet, sRet, sRetN, sExpr, sNext, sFld_def, sSub, sRaise, eVar, eC, eBin, eUn, tB', eB, bNot, bAnd, bOr, bIf, eIf, eAnd, eOr, eNot, aNil, aCons, eTup, aLst, eFrz, eRef, pN, pA, pK, pAK, eCall, eMeth_def, eFld_def, eMake_def, bind_ok, bind_err, bind_bad, fs_ok, fs_err, fs_bad, List.map_cons, List.map_nil, List.length_cons, List.length_nil, List.replicate, List.cons_append, List.nil_append, List.getElem?_cons_zero, List.getElem?_cons_succ, List.set_cons_zero, List.set_cons_succ, sz0, sz1, sz2, sz3, sz4, sz5, if_true, and_self, Nat.reduceSub, Nat.reduceAdd, Nat.reduceLeDiff, List.lookup_cons, List.lookup_nil, W.s.fp, mb, e1, eApp_def, S1.fm, lstB_at S1.ml, ap, ne_str, decide_eq_false hw, Bool.not_false, m1 X2.s, mk1, nn]
    rfl
  have nn : neM (.lst ((sel (M ++ [(w, x)]) "bad").map MV.str)) (.lst []) (A1.set mk (.lst ((M ++ [(w, x)]).map spV))) = .ok (.bl true) (A1.set mk (.lst ((M ++ [(w, x)]).map spV))) := by
    rw [ne_lst_nil]
    cases e : sel (M ++ [(w, x)]) "bad" with
    | nil => exact absurd e hb
    | cons a r => rfl
  obtain ⟨L, eL, C⟩ := cand_some X2.w X2.s l2 X2.m hb
  have el := eq_tup_nil (A := A1.set mk (.lst ((M ++ [(w, x)]).map spV))) (ks := L)
  by_cases hL : L = []
  · subst hL
    rw [List.map_nil, List.isEmpty_nil] at el
    have pp : popLM (.ref mk) (A1.set mk (.lst ((M ++ [(w, x)]).map spV))) = .ok (spV (w, x)) ((A1.set mk (.lst ((M ++ [(w, x)]).map spV))).set mk (.lst (M.map spV))) := popLM_at (by rw [X2.s.ml, List.map_append]; rfl)
    refine ⟨_, D1, true, ?_, fA.trans (Fr.set (.inr rfl)), X2.marks X1.m, ⟨fun _ => ⟨hw, hb, C⟩, fun _ => rfl⟩⟩
    unfold F_Search_mark b_Search_mark
    simp only [defM, sSeq, sIf, sSet, sRet, sRetN, sExpr, sNext, sFld_def, sSub, sRaise, eVar, eC, eBin, eUn, tB', eB, bNot, bAnd, bOr, bIf, eIf, eAnd, eOr, eNot, aNil, aCons, eTup, aLst, eFrz, eRef, pN, pA, pK, pAK, eCall, eMeth_def, eFld_def, eMake_def, bind_ok, bind_err, bind_bad, fs_ok, fs_err, fs_bad, List.map_cons, List.map_nil, List.length_cons, List.length_nil, List.replicate, List.cons_append, List.nil_append, List.getElem?_cons_zero, List.getElem?_cons_succ, List.set_cons_zero, List.set_cons_succ, sz0, sz1, sz2, sz3, sz4, sz5, if_true, and_self, Nat.reduceSub, Nat.reduceAdd, Nat.reduceLeDiff, List.lookup_cons, List.lookup_nil, W.s.fp, mb, e1, eApp_def, S1.fm, lstB_at S1.ml, ap, ne_str, decide_eq_false hw, Bool.not_false, m1 X2.s, mk1, nn, m2 X2.s, eL, el, List.isEmpty_nil, ePopL_def, X2.s.fm, pp]
  · refine ⟨_, D1, false, ?_, fA, X2, ⟨fun q => (by cases q), fun q => absurd (C.eq q.2.2) hL⟩⟩
    have ie : L.isEmpty = false := by cases L with | nil => exact absurd rfl hL | cons a r => rfl
    unfold F_Search_mark b_Search_mark
    simp only [defM, sSeq, sIf, sSet, sRet, sRetN, sExpr, sNext, sFld_def, sSub, sRaise, eVar, eC, eBin, eUn, tB', eB, bNot, bAnd, bOr, bIf, eIf, eAnd, eOr, eNot, aNil, aCons, eTup, aLst, eFrz, eRef, pN, pA, pK, pAK, eCall, eMeth_def, eFld_def, eMake_def, bind_ok, bind_err, bind_bad, fs_ok, fs_err, fs_bad, List.map_cons, List.map_nil, List.length_cons, List.length_nil, List.replicate, List.cons_append, List.nil_append, List.getElem?_cons_zero, List.getElem?_cons_succ, List.set_cons_zero, List.set_cons_succ, sz0, sz1, sz2, sz3, sz4, sz5, if_true, and_self, Nat.reduceSub, Nat.reduceAdd, Nat.reduceLeDiff, List.lookup_cons, List.lookup_nil, W.s.fp, mb, e1, eApp_def, S1.fm, lstB_at S1.ml, ap, ne_str, decide_eq_false hw, Bool.not_false, m1 X2.s, mk1, nn, m2 X2.s, eL, el, ie]
    rfl
theorem undo_ok (W : SW A se mk h s k kn dp T F D M) : ∃ A', F_Search_undo [.ref se] A = (if M = [] then .err "BadMark" (mk_BadMark (.str "no marks")) A' else .ok .non A') ∧ Fr (fun n => n = kn ∨ n = mk) A A' ∧ SW A' se mk h s k kn dp T F D M.dropLast := by
  have el := eq_sps_nil W.s.ml
  rcases List.eq_nil_or_concat M with rfl | ⟨M0, p, rfl⟩
  · refine ⟨A, ?_, Fr.refl, W⟩
    rw [if_pos rfl]
    unfold F_Search_undo b_Search_undo
    simp only [defM, sSeq, sIf, sSet, sRet, sRetN, sExpr, sNext, sFld_def, sSub, sRaise, eVar, eC, eBin, eUn, tB', eB, bNot, bAnd, bOr, bIf, eIf, eAnd, eOr, eNot, aNil, aCons, eTup, aLst, eFrz, eRef, pN, pA, pK, pAK, eCall, eMeth_def, eFld_def, eMake_def, bind_ok, bind_err, bind_bad, fs_ok, fs_err, fs_bad, List.map_cons, List.map_nil, List.length_cons, List.length_nil, List.replicate, List.cons_append, List.nil_append, List.getElem?_cons_zero, List.getElem?_cons_succ, List.set_cons_zero, List.set_cons_succ, sz0, sz1, sz2, sz3, sz4, sz5, if_true, and_self, Nat.reduceSub, Nat.reduceAdd, Nat.reduceLeDiff, List.lookup_cons, List.lookup_nil, W.s.fm, el, List.isEmpty_nil]
  · rw [List.concat_eq_append] at *
    have pp : popLM (.ref mk) A = .ok (spV p) (A.set mk (.lst (M0.map spV))) := popLM_at (by rw [W.s.ml, List.map_append]; rfl)
    have ne : ¬ (M0 ++ [p] = []) := by simp
    have ie : (M0 ++ [p]).isEmpty = false := by simp
    rw [ie] at el
    refine ⟨A.set mk (.lst (M0.map spV)), ?_, Fr.set (.inr rfl), ?_⟩
    · rw [if_neg ne]
      unfold F_Search_undo b_Search_undo
      simp only [defM, sSeq, sIf, sSet, sRet, sRetN, sExpr, sNext, sFld_def, sSub, sRaise, eVar, eC, eBin, eUn, tB', eB, bNot, bAnd, bOr, bIf, eIf, eAnd, eOr, eNot, aNil, aCons, eTup, aLst, eFrz, eRef, pN, pA, pK, pAK, eCall, eMeth_def, eFld_def, eMake_def, bind_ok, bind_err, bind_bad, fs_ok, fs_err, fs_bad, List.map_cons, List.map_nil, List.length_cons, List.length_nil, List.replicate, List.cons_append, List.nil_append, List.getElem?_cons_zero, List.getElem?_cons_succ, List.set_cons_zero, List.set_cons_succ, sz0, sz1, sz2, sz3, sz4, sz5, if_true, and_self, Nat.reduceSub, Nat.reduceAdd, Nat.reduceLeDiff, List.lookup_cons, List.lookup_nil, W.s.fm, el, ePopL_def, pp]
    · rw [List.dropLast_concat]
      exact W.marks fun q hq => W.m q (List.mem_append_left _ hq)
end
end Rp
/-! Sp9: the law's calls; what the law says is reached -/
namespace Rp
open PySem PySem.Spec PyProof.Rows Mv Rf
section
variable {A : AH} {se h mk s k kn dp : Nat} {T : Tb Nat} {F : Fa} {D : Tb Nat} {M : List (Str × Str)}
theorem called_mark (W : SW A se mk h s k kn dp T F D M) (hl : M.length ≤ 500) {w x : Str} (hw : w = "bad" ∨ w = "good" ∨ w = "skip") (hx : x ∈ keys F) : ∃ A' D' b, F__law_called [.ref se, .str w, .str x] A = .ok (.bl (!b)) A' ∧ Fr (fun n => n = kn ∨ n = mk) A A' ∧ SW A' se mk h s k kn dp T F D' (if b = true then M else M ++ [(w, x)]) ∧ (b = true ↔ Lost F w (M ++ [(w, x)])) := by
  obtain ⟨A', D', b, e, f, W', hb⟩ := mark_ok W hl (w := w) hx
  refine ⟨A', D', b, ?_, f, W', hb⟩
  have m0 : mthB "Search" "mark" (.ref se) A = true := mth_at W.s.se rfl
  have m1 : mthB "Search" "bad" (.ref se) A = true := mth_at W.s.se rfl
  have m2 : mthB "Search" "good" (.ref se) A = true := mth_at W.s.se rfl
  have m3 : mthB "Search" "skip" (.ref se) A = true := mth_at W.s.se rfl
  have g1 : ∀ {B : AH}, eqM (.str "good") (.str "bad") B = .ok (.bl false) B := fun {B} => by rw [eq_str]; rfl
  have g2 : ∀ {B : AH}, eqM (.str "skip") (.str "bad") B = .ok (.bl false) B := fun {B} => by rw [eq_str]; rfl
  have g3 : ∀ {B : AH}, eqM (.str "skip") (.str "good") B = .ok (.bl false) B := fun {B} => by rw [eq_str]; rfl
  have g4 : ∀ {B : AH} {x : Str}, eqM (.str x) (.str x) B = .ok (.bl true) B := fun {B x} => by rw [eq_str, decide_eq_true rfl]
  unfold F__law_called b__law_called
  cases b with
  | true =>
    rw [if_pos rfl] at e
    rcases hw with rfl | rfl | rfl
    · have e' : F_Search_bad [.ref se, .str x] A = .err "BadMark" (mk_BadMark (.str "no candidates would be left")) A' := by
        unfold F_Search_bad b_Search_bad
        simp only [defM, sSeq, sIf, sSet, sRet, sRetN, sExpr, sNext, sFld_def, sSub, sRaise, eVar, eC, eBin, eUn, tB', eB, bNot, bAnd, bOr, bIf, eIf, eAnd, eOr, eNot, aNil, aCons, eTup, aLst, eFrz, eRef, pN, pA, pK, pAK, eCall, eMeth_def, eFld_def, eMake_def, bind_ok, bind_err, bind_bad, fs_ok, fs_err, fs_bad, List.map_cons, List.map_nil, List.length_cons, List.length_nil, List.replicate, List.cons_append, List.nil_append, List.getElem?_cons_zero, List.getElem?_cons_succ, List.set_cons_zero, List.set_cons_succ, sz0, sz1, sz2, sz3, sz4, sz5, if_true, and_self, Nat.reduceSub, Nat.reduceAdd, Nat.reduceLeDiff, List.lookup_cons, List.lookup_nil, m0, e]
      simp only [defM, sSeq, sIf, sSet, sRet, sRetN, sExpr, sNext, sFld_def, sSub, sRaise, eVar, eC, eBin, eUn, tB', eB, bNot, bAnd, bOr, bIf, eIf, eAnd, eOr, eNot, aNil, aCons, eTup, aLst, eFrz, eRef, pN, pA, pK, pAK, eCall, eMeth_def, eFld_def, eMake_def, bind_ok, bind_err, bind_bad, fs_ok, fs_err, fs_bad, List.map_cons, List.map_nil, List.length_cons, List.length_nil, List.replicate, List.cons_append, List.nil_append, List.getElem?_cons_zero, List.getElem?_cons_succ, List.set_cons_zero, List.set_cons_succ, sz0, sz1, sz2, sz3, sz4, sz5, if_true, and_self, Nat.reduceSub, Nat.reduceAdd, Nat.reduceLeDiff, List.lookup_cons, List.lookup_nil, sTry, g4, m1, e']
      rfl
    · have e' : F_Search_good [.ref se, .str x] A = .err "BadMark" (mk_BadMark (.str "no candidates would be left")) A' := by
        unfold F_Search_good b_Search_good
        simp only [defM, sSeq, sIf, sSet, sRet, sRetN, sExpr, sNext, sFld_def, sSub, sRaise, eVar, eC, eBin, eUn, tB', eB, bNot, bAnd, bOr, bIf, eIf, eAnd, eOr, eNot, aNil, aCons, eTup, aLst, eFrz, eRef, pN, pA, pK, pAK, eCall, eMeth_def, eFld_def, eMake_def, bind_ok, bind_err, bind_bad, fs_ok, fs_err, fs_bad, List.map_cons, List.map_nil, List.length_cons, List.length_nil, List.replicate, List.cons_append, List.nil_append, List.getElem?_cons_zero, List.getElem?_cons_succ, List.set_cons_zero, List.set_cons_succ, sz0, sz1, sz2, sz3, sz4, sz5, if_true, and_self, Nat.reduceSub, Nat.reduceAdd, Nat.reduceLeDiff, List.lookup_cons, List.lookup_nil, m0, e]
      simp only [defM, sSeq, sIf, sSet, sRet, sRetN, sExpr, sNext, sFld_def, sSub, sRaise, eVar, eC, eBin, eUn, tB', eB, bNot, bAnd, bOr, bIf, eIf, eAnd, eOr, eNot, aNil, aCons, eTup, aLst, eFrz, eRef, pN, pA, pK, pAK, eCall, eMeth_def, eFld_def, eMake_def, bind_ok, bind_err, bind_bad, fs_ok, fs_err, fs_bad, List.map_cons, List.map_nil, List.length_cons, List.length_nil, List.replicate, List.cons_append, List.nil_append, List.getElem?_cons_zero, List.getElem?_cons_succ, List.set_cons_zero, List.set_cons_succ, sz0, sz1, sz2, sz3, sz4, sz5, if_true, and_self, Nat.reduceSub, Nat.reduceAdd, Nat.reduceLeDiff, List.lookup_cons, List.lookup_nil, sTry, g1, g4, m2, e']
      rfl
    · have e' : F_Search_skip [.ref se, .str x] A = .err "BadMark" (mk_BadMark (.str "no candidates would be left")) A' := by
        unfold F_Search_skip b_Search_skip
        simp only [defM, sSeq, sIf, sSet, sRet, sRetN, sExpr, sNext, sFld_def, sSub, sRaise, eVar, eC, eBin, eUn, tB', eB, bNot, bAnd, bOr, bIf, eIf, eAnd, eOr, eNot, aNil, aCons, eTup, aLst, eFrz, eRef, pN, pA, pK, pAK, eCall, eMeth_def, eFld_def, eMake_def, bind_ok, bind_err, bind_bad, fs_ok, fs_err, fs_bad, List.map_cons, List.map_nil, List.length_cons, List.length_nil, List.replicate, List.cons_append, List.nil_append, List.getElem?_cons_zero, List.getElem?_cons_succ, List.set_cons_zero, List.set_cons_succ, sz0, sz1, sz2, sz3, sz4, sz5, if_true, and_self, Nat.reduceSub, Nat.reduceAdd, Nat.reduceLeDiff, List.lookup_cons, List.lookup_nil, m0, e]
      simp only [defM, sSeq, sIf, sSet, sRet, sRetN, sExpr, sNext, sFld_def, sSub, sRaise, eVar, eC, eBin, eUn, tB', eB, bNot, bAnd, bOr, bIf, eIf, eAnd, eOr, eNot, aNil, aCons, eTup, aLst, eFrz, eRef, pN, pA, pK, pAK, eCall, eMeth_def, eFld_def, eMake_def, bind_ok, bind_err, bind_bad, fs_ok, fs_err, fs_bad, List.map_cons, List.map_nil, List.length_cons, List.length_nil, List.replicate, List.cons_append, List.nil_append, List.getElem?_cons_zero, List.getElem?_cons_succ, List.set_cons_zero, List.set_cons_succ, sz0, sz1, sz2, sz3, sz4, sz5, if_true, and_self, Nat.reduceSub, Nat.reduceAdd, Nat.reduceLeDiff, List.lookup_cons, List.lookup_nil, sTry, g2, g3, g4, m3, e']
      rfl
  | false =>
    rw [if_neg Bool.false_ne_true] at e
    rcases hw with rfl | rfl | rfl
    · have e' : F_Search_bad [.ref se, .str x] A = .ok .non A' := by
        unfold F_Search_bad b_Search_bad
        simp only [defM, sSeq, sIf, sSet, sRet, sRetN, sExpr, sNext, sFld_def, sSub, sRaise, eVar, eC, eBin, eUn, tB', eB, bNot, bAnd, bOr, bIf, eIf, eAnd, eOr, eNot, aNil, aCons, eTup, aLst, eFrz, eRef, pN, pA, pK, pAK, eCall, eMeth_def, eFld_def, eMake_def, bind_ok, bind_err, bind_bad, fs_ok, fs_err, fs_bad, List.map_cons, List.map_nil, List.length_cons, List.length_nil, List.replicate, List.cons_append, List.nil_append, List.getElem?_cons_zero, List.getElem?_cons_succ, List.set_cons_zero, List.set_cons_succ, sz0, sz1, sz2, sz3, sz4, sz5, if_true, and_self, Nat.reduceSub, Nat.reduceAdd, Nat.reduceLeDiff, List.lookup_cons, List.lookup_nil, m0, e]
      simp only [defM, sSeq, sIf, sSet, sRet, sRetN, sExpr, sNext, sFld_def, sSub, sRaise, eVar, eC, eBin, eUn, tB', eB, bNot, bAnd, bOr, bIf, eIf, eAnd, eOr, eNot, aNil, aCons, eTup, aLst, eFrz, eRef, pN, pA, pK, pAK, eCall, eMeth_def, eFld_def, eMake_def, bind_ok, bind_err, bind_bad, fs_ok, fs_err, fs_bad, List.map_cons, List.map_nil, List.length_cons, List.length_nil, List.replicate, List.cons_append, List.nil_append, List.getElem?_cons_zero, List.getElem?_cons_succ, List.set_cons_zero, List.set_cons_succ, sz0, sz1, sz2, sz3, sz4, sz5, if_true, and_self, Nat.reduceSub, Nat.reduceAdd, Nat.reduceLeDiff, List.lookup_cons, List.lookup_nil, sTry, g4, m1, e', Bool.not_false]
    · have e' : F_Search_good [.ref se, .str x] A = .ok .non A' := by
        unfold F_Search_good b_Search_good
        simp only [defM, sSeq, sIf, sSet, sRet, sRetN, sExpr, sNext, sFld_def, sSub, sRaise, eVar, eC, eBin, eUn, tB', eB, bNot, bAnd, bOr, bIf, eIf, eAnd, eOr, eNot, aNil, aCons, eTup, aLst, eFrz, eRef, pN, pA, pK, pAK, eCall, eMeth_def, eFld_def, eMake_def, bind_ok, bind_err, bind_bad, fs_ok, fs_err, fs_bad, List.map_cons, List.map_nil, List.length_cons, List.length_nil, List.replicate, List.cons_append, List.nil_append, List.getElem?_cons_zero, List.getElem?_cons_succ, List.set_cons_zero, List.set_cons_succ, sz0, sz1, sz2, sz3, sz4, sz5, if_true, and_self, Nat.reduceSub, Nat.reduceAdd, Nat.reduceLeDiff, List.lookup_cons, List.lookup_nil, m0, e]
      simp only [defM, sSeq, sIf, sSet, sRet, sRetN, sExpr, sNext, sFld_def, sSub, sRaise, eVar, eC, eBin, eUn, tB', eB, bNot, bAnd, bOr, bIf, eIf, eAnd, eOr, eNot, aNil, aCons, eTup, aLst, eFrz, eRef, pN, pA, pK, pAK, eCall, eMeth_def, eFld_def, eMake_def, bind_ok, bind_err, bind_bad, fs_ok, fs_err, fs_bad, List.map_cons, List.map_nil, List.length_cons, List.length_nil, List.replicate, List.cons_append, List.nil_append, List.getElem?_cons_zero, List.getElem?_cons_succ, List.set_cons_zero, List.set_cons_succ, sz0, sz1, sz2, sz3, sz4, sz5, if_true, and_self, Nat.reduceSub, Nat.reduceAdd, Nat.reduceLeDiff, List.lookup_cons, List.lookup_nil, sTry, g1, g4, m2, e', Bool.not_false]
    · have e' : F_Search_skip [.ref se, .str x] A = .ok .non A' := by
        unfold F_Search_skip b_Search_skip
        simp only [defM, sSeq, sIf, sSet, sRet, sRetN, sExpr, sNext, sFld_def, sSub, sRaise, eVar, eC, eBin, eUn, tB', eB, bNot, bAnd, bOr, bIf, eIf, eAnd, eOr, eNot, aNil, aCons, eTup, aLst, eFrz, eRef, pN, pA, pK, pAK, eCall, eMeth_def, eFld_def, eMake_def, bind_ok, bind_err, bind_bad, fs_ok, fs_err, fs_bad, List.map_cons, List.map_nil, List.length_cons, List.length_nil, List.replicate, List.cons_append, List.nil_append, List.getElem?_cons_zero, List.getElem?_cons_succ, List.set_cons_zero, List.set_cons_succ, sz0, sz1, sz2, sz3, sz4, sz5, if_true, and_self, Nat.reduceSub, Nat.reduceAdd, Nat.reduceLeDiff, List.lookup_cons, List.lookup_nil, m0, e]
      simp only [defM, sSeq, sIf, sSet, sRet, sRetN, sExpr, sNext, sFld_def, sSub, sRaise, eVar, eC, eBin, eUn, tB', eB, bNot, bAnd, bOr, bIf, eIf, eAnd, eOr, eNot, aNil, aCons, eTup, aLst, eFrz, eRef, pN, pA, pK, pAK, eCall, eMeth_def, eFld_def, eMake_def, bind_ok, bind_err, bind_bad, fs_ok, fs_err, fs_bad, List.map_cons, List.map_nil, List.length_cons, List.length_nil, List.replicate, List.cons_append, List.nil_append, List.getElem?_cons_zero, List.getElem?_cons_succ, List.set_cons_zero, List.set_cons_succ, sz0, sz1, sz2, sz3, sz4, sz5, if_true, and_self, Nat.reduceSub, Nat.reduceAdd, Nat.reduceLeDiff, List.lookup_cons, List.lookup_nil, sTry, g2, g3, g4, m3, e', Bool.not_false]
theorem called_undo (W : SW A se mk h s k kn dp T F D M) {x : Str} : ∃ A', F__law_called [.ref se, .str "undo", .str x] A = .ok (.bl (!M.isEmpty)) A' ∧ Fr (fun n => n = kn ∨ n = mk) A A' ∧ SW A' se mk h s k kn dp T F D M.dropLast := by
  obtain ⟨A', e, f, W'⟩ := undo_ok W
  refine ⟨A', ?_, f, W'⟩
  have m1 : mthB "Search" "undo" (.ref se) A = true := mth_at W.s.se rfl
  have g1 : ∀ {B : AH}, eqM (.str "undo") (.str "bad") B = .ok (.bl false) B := fun {B} => by rw [eq_str]; rfl
  have g2 : ∀ {B : AH}, eqM (.str "undo") (.str "good") B = .ok (.bl false) B := fun {B} => by rw [eq_str]; rfl
  have g3 : ∀ {B : AH}, eqM (.str "undo") (.str "skip") B = .ok (.bl false) B := fun {B} => by rw [eq_str]; rfl
  unfold F__law_called b__law_called
  cases M with
  | nil =>
    rw [if_pos rfl] at e
    simp only [defM, sSeq, sIf, sSet, sRet, sRetN, sExpr, sNext, sFld_def, sSub, sRaise, eVar, eC, eBin, eUn, tB', eB, bNot, bAnd, bOr, bIf, eIf, eAnd, eOr, eNot, aNil, aCons, eTup, aLst, eFrz, eRef, pN, pA, pK, pAK, eCall, eMeth_def, eFld_def, eMake_def, bind_ok, bind_err, bind_bad, fs_ok, fs_err, fs_bad, List.map_cons, List.map_nil, List.length_cons, List.length_nil, List.replicate, List.cons_append, List.nil_append, List.getElem?_cons_zero, List.getElem?_cons_succ, List.set_cons_zero, List.set_cons_succ, sz0, sz1, sz2, sz3, sz4, sz5, if_true, and_self, Nat.reduceSub, Nat.reduceAdd, Nat.reduceLeDiff, List.lookup_cons, List.lookup_nil, sTry, g1, g2, g3, m1, e, List.isEmpty_nil, Bool.not_true]
    rfl
  | cons p r =>
    rw [if_neg (by intro z; cases z)] at e
    simp only [defM, sSeq, sIf, sSet, sRet, sRetN, sExpr, sNext, sFld_def, sSub, sRaise, eVar, eC, eBin, eUn, tB', eB, bNot, bAnd, bOr, bIf, eIf, eAnd, eOr, eNot, aNil, aCons, eTup, aLst, eFrz, eRef, pN, pA, pK, pAK, eCall, eMeth_def, eFld_def, eMake_def, bind_ok, bind_err, bind_bad, fs_ok, fs_err, fs_bad, List.map_cons, List.map_nil, List.length_cons, List.length_nil, List.replicate, List.cons_append, List.nil_append, List.getElem?_cons_zero, List.getElem?_cons_succ, List.set_cons_zero, List.set_cons_succ, sz0, sz1, sz2, sz3, sz4, sz5, if_true, and_self, Nat.reduceSub, Nat.reduceAdd, Nat.reduceLeDiff, List.lookup_cons, List.lookup_nil, sTry, g1, g2, g3, m1, e, List.isEmpty_cons, Bool.not_false]
end
/-! ### dicts put together -/
def mg (fd fd2 : Tb Unit) : Tb Unit := fd2.foldl (fun acc p => put acc p.1 p.2) fd
theorem merge_mapK : ∀ (fd2 fd : Tb Unit), mergeM (mapK uV fd) (mapK uV fd2) = mapK uV (mg fd fd2)
  | [], fd => rfl
  | p :: fd2, fd => by
    have := merge_mapK fd2 (put fd p.1 p.2)
    unfold mergeM mapK mg at *
    rw [List.map_cons, List.foldl_cons, List.foldl_cons]
    rw [← this]
    congr 1
    exact put_mapK (f := uV) (T := fd) (k := p.1) (v := p.2)
theorem mem_put {β : Type} {T : Tb β} {k x : Str} {v : β} : x ∈ keys (put T k v) ↔ x ∈ keys T ∨ x = k := by
  rw [keys_put]
  split
  · rename_i q
    exact ⟨.inl, fun z => z.elim id fun e => by rw [e]; exact q⟩
  · rw [List.mem_append, List.mem_singleton]
theorem mem_mg {x : Str} : ∀ {fd2 fd : Tb Unit}, x ∈ keys (mg fd fd2) ↔ x ∈ keys fd ∨ x ∈ keys fd2
  | [], fd => by
    show x ∈ keys fd ↔ x ∈ keys fd ∨ x ∈ []
    simp
  | p :: fd2, fd => by
    show x ∈ keys (mg (put fd p.1 p.2) fd2) ↔ x ∈ keys fd ∨ x ∈ p.1 :: keys fd2
    rw [mem_mg (fd2 := fd2), mem_put, List.mem_cons, or_assoc]
theorem nodup_mg : ∀ {fd2 fd : Tb Unit}, (keys fd).Nodup → (keys (mg fd fd2)).Nodup
  | [], fd, h => h
  | p :: fd2, fd, h => nodup_mg (fd2 := fd2) (nodup_put h)
theorem keys_len {β : Type} {T : Tb β} {F : Fa} (h : (keys T).Nodup) (hf : ∀ x ∈ keys T, x ∈ keys F) : T.length ≤ F.length := by
  have := nodup_le h hf
  unfold keys at this
  rwa [List.length_map, List.length_map] at this
/-! ### what the law says is reached -/
def faV (p : List Str × Int) : MV := .tup [.tup (p.1.map MV.str), .int p.2]
structure RdAt (A : AH) (F P : Fa) (r f : Nat) (R : Tb Nat) : Prop where
  ra : A[r]? = some (.dct (mapK MV.ref R))
  rf : r ≠ f
  ks : ∀ x, x ∈ keys R ↔ x ∈ keys P
  nd : (keys R).Nodup
  e : ∀ x n, get R x = some n → n ≠ r ∧ n ≠ f ∧ n < A.length ∧ ∃ fd, A[n]? = some (.dct (mapK uV fd)) ∧ (keys fd).Nodup ∧ ∀ y, y ∈ keys fd ↔ Rch F (fun w => w = x) y
def rcI : FS := (sExpr (eUpd (eBin ixM (eVar 1) (eVar 2)) (eBin ixM (eVar 1) (eVar 3))))
def rcB : FS := (sSeq (sSub (eDisp [((eVar 2), (eC (.bl true)))]) (eVar 1) (eVar 2)) (sLk (eBin ixM (eBin ixM (eVar 0) (eVar 2)) (eC (.int 0))) (sFor (iAny (eBin ixM (eBin ixM (eVar 0) (eVar 2)) (eC (.int 0)))) [3] gNm (sExpr (eUpd (eBin ixM (eVar 1) (eVar 2)) (eBin ixM (eVar 1) (eVar 3)))))))
section
variable {A : AH} {F : Fa} {r f n : Nat} {R : Tb Nat} {x0 : Option MV}
theorem upd_at {m : Nat} {fd fd2 : Tb Unit} (h1 : A[n]? = some (.dct (mapK uV fd))) (h2 : A[m]? = some (.dct (mapK uV fd2))) (hne : n ≠ m) (hl : fd.length + fd2.length ≤ 1000000) : updM (.ref n) (.ref m) A = .ok .non (A.set n (.dct (mapK uV (mg fd fd2)))) := by
  unfold updM dctW
  dsimp only
  rw [h1, dctV_at h2]
  dsimp only
  rw [if_pos ⟨hne, by rw [len_mapK, len_mapK]; exact hl⟩, merge_mapK]
theorem rc_inner (ok : FaOk F) {x : Str} (hr : A[r]? = some (.dct (mapK MV.ref R))) (hx : get R x = some n) (hnr : n ≠ r) : ∀ (ps : List Str) (fd : Tb Unit) (x3 : Option MV), A.length > n → (keys fd).Nodup → (∀ z ∈ keys fd, z ∈ keys F) →
    (∀ y ∈ ps, ∃ m fm, get R y = some m ∧ m ≠ n ∧ A[m]? = some (.dct (mapK uV fm)) ∧ (keys fm).Nodup ∧ (∀ z ∈ keys fm, z ∈ keys F) ∧ ∀ z, z ∈ keys fm ↔ Rch F (fun w => w = y) z) →
    ∃ fd' x3', runL (turn [3] gNm rcI) (ps.map MV.str) [x0, some (.ref r), some (.str x), x3] (A.set n (.dct (mapK uV fd))) = .nx [x0, some (.ref r), some (.str x), x3'] (A.set n (.dct (mapK uV fd'))) ∧ (keys fd').Nodup ∧ (∀ z ∈ keys fd', z ∈ keys F) ∧ ∀ z, z ∈ keys fd' ↔ z ∈ keys fd ∨ ∃ y ∈ ps, Rch F (fun w => w = y) z
  | [], fd, x3, _, nd, hf, _ => ⟨fd, x3, rfl, nd, hf, fun z => by simp⟩
  | y :: ps, fd, x3, hn, nd, hf, H => by
    obtain ⟨m, fm, em, hmn, am, ndm, hfm, mm⟩ := H y (List.mem_cons_self ..)
    have an : (A.set n (.dct (mapK uV fd)))[n]? = some (.dct (mapK uV fd)) := by
      obtain ⟨o, ho⟩ : ∃ o, A[n]? = some o := ⟨A[n], List.getElem?_eq_getElem hn⟩
      exact set_at ho
    have am' : (A.set n (.dct (mapK uV fd)))[m]? = some (.dct (mapK uV fm)) := by rw [set_ne (Ne.symm hmn)]; exact am
    have ar : (A.set n (.dct (mapK uV fd)))[r]? = some (.dct (mapK MV.ref R)) := by rw [set_ne hnr]; exact hr
    have lF := ok.len
    have l1 := keys_len nd hf
    have l2 := keys_len ndm hfm
    have up := upd_at an am' (Ne.symm hmn) (by omega)
    rw [List.set_set] at up
    obtain ⟨fd', x3', e, nd', hf', mm'⟩ := rc_inner ok hr hx hnr ps (mg fd fm) (some (.str y)) hn (nodup_mg nd) (fun z hz => (mem_mg.mp hz).elim (hf z) (hfm z)) fun y' hy' => H y' (List.mem_cons_of_mem _ hy')
    refine ⟨fd', x3', ?_, nd', hf', fun z => ?_⟩
    · have ix1 := ix_mapK (dctV_at ar) hx
      have ix2 := ix_mapK (dctV_at ar) em
      have dw : (dctW (A.set n (.dct (mapK uV fd))) (.ref n)).isSome = true := by
        unfold dctW
        dsimp only
        rw [an]
        rfl
      have bd : rcI [x0, some (.ref r), some (.str x), some (.str y)] (A.set n (.dct (mapK uV fd))) = .nx [x0, some (.ref r), some (.str x), some (.str y)] (A.set n (.dct (mapK uV (mg fd fm)))) := by
        unfold rcI
        simp only [defM, sSeq, sIf, sSet, sRet, sRetN, sExpr, sNext, sFld_def, sSub, sRaise, eVar, eC, eBin, eUn, tB', eB, bNot, bAnd, bOr, bIf, eIf, eAnd, eOr, eNot, aNil, aCons, eTup, aLst, eFrz, eRef, pN, pA, pK, pAK, eCall, eMeth_def, eFld_def, eMake_def, bind_ok, bind_err, bind_bad, fs_ok, fs_err, fs_bad, List.map_cons, List.map_nil, List.length_cons, List.length_nil, List.replicate, List.cons_append, List.nil_append, List.getElem?_cons_zero, List.getElem?_cons_succ, List.set_cons_zero, List.set_cons_succ, sz0, sz1, sz2, sz3, sz4, sz5, if_true, and_self, Nat.reduceSub, Nat.reduceAdd, Nat.reduceLeDiff, List.lookup_cons, List.lookup_nil, eUpd, ix1, ix2, dw, up]
      rw [List.map_cons]
      unfold runL
      rw [show turn [3] gNm rcI (.str y) [x0, some (.ref r), some (.str x), x3] (A.set n (.dct (mapK uV fd))) = rcI [x0, some (.ref r), some (.str x), some (.str y)] (A.set n (.dct (mapK uV fd))) from rfl, bd]
      exact e
    · rw [mm', mem_mg, mm]
      simp only [List.mem_cons, exists_eq_or_imp, or_assoc]
theorem faR {P Q : Fa} {p : Str × (List Str × Int)} (ok : FaOk F) (e : F = P ++ p :: Q) : get F p.1 = some p.2 := get_of_mem ok.nd (by rw [e]; exact List.mem_append_right _ (List.mem_cons_self ..))
theorem rc_loop (ok : FaOk F) : ∀ (Q P : Fa) (A : AH) (R : Tb Nat) (x2 x3 : Option MV), F = P ++ Q → A[f]? = some (.lkd (mapK faV F)) → RdAt A F P r f R →
    ∃ A' R' x2' x3', runL (turn [2] gNm rcB) ((keys Q).map MV.str) [some (.ref f), some (.ref r), x2, x3] A = .nx [some (.ref f), some (.ref r), x2', x3'] A' ∧ Fr (fun n => n = r) A A' ∧ RdAt A' F F r f R'
  | [], P, A, R, x2, x3, e, hf, Rd => ⟨A, R, x2, x3, rfl, Fr.refl, by rw [List.append_nil] at e; rw [← e] at Rd; exact Rd⟩
  | p :: Q, P, A, R, x2, x3, e, hf, Rd => by
    obtain ⟨x, ps, t⟩ := p
    have gx : get F x = some (ps, t) := faR ok e
    have hxP : x ∉ keys P := fun z => by
      have nd := ok.nd
      rw [e] at nd
      unfold keys at nd z
      rw [List.map_append, List.map_cons, List.nodup_append] at nd
      exact nd.2.2 x z x (List.mem_cons_self ..) rfl
    have hxR : x ∉ keys R := fun z => hxP ((Rd.ks x).mp z)
    have ord := ok.ord P (x, (ps, t)) Q e
    have hxF : x ∈ keys F := Decidable.byContradiction fun z => by rw [get_none.mpr z] at gx; cases gx
    have hr := Rd.ra
    have lr := at_lt hr
    have lf := at_lt hf
    have lR : R.length ≤ 60 := by
      have := keys_len Rd.nd (F := F) fun y hy => by
        have := (Rd.ks y).mp hy
        rw [e]
        unfold keys at *
        rw [List.map_append]
        exact List.mem_append_left _ this
      have q := ok.len
      omega
    -- the new dict
    have r1 : (A ++ [MO.dct (mapK uV [(x, ())])])[r]? = some (.dct (mapK MV.ref R)) := app_at hr
    have st := setM_dct (f := MV.ref) (x := x) (v := A.length) r1 (by omega)
    let A2 : AH := (A ++ [MO.dct (mapK uV [(x, ())])]).set r (.dct (mapK MV.ref (put R x A.length)))
    have l2 : A2.length = A.length + 1 := by simp [A2]
    have r2 : A2[r]? = some (.dct (mapK MV.ref (put R x A.length))) := set_at r1
    have n2 : A2[A.length]? = some (.dct (mapK uV [(x, ())])) := by
      show (List.set _ _ _)[A.length]? = _
      rw [set_ne (by omega)]
      exact new_at
    have f2 : A2[f]? = some (.lkd (mapK faV F)) := by
      show (List.set _ _ _)[f]? = _
      rw [set_ne Rd.rf]
      exact app_at hf
    have s2 : A2.set A.length (.dct (mapK uV [(x, ())])) = A2 := set_same n2
    have gR : get (put R x A.length) x = some A.length := by rw [get_put, if_pos rfl]
    have old : ∀ y m, get R y = some m → A2[m]? = A[m]? := fun y m q => by
      obtain ⟨a, b, c, _⟩ := Rd.e y m q
      show (List.set _ _ _)[m]? = _
      rw [set_ne (Ne.symm a), List.getElem?_append_left c]
    obtain ⟨fd', x3', el, nd', hf', mm'⟩ := rc_inner (A := A2) (x0 := some (.ref f)) (R := put R x A.length) (r := r) (n := A.length) ok r2 gR (by omega) ps [(x, ())] x3 (by omega) (by simp [keys]) (fun z hz => by
      have : z = x := by simpa [keys] using hz
      rw [this]; exact hxF) fun y hy => by
        obtain ⟨m, em⟩ := mem_get ((Rd.ks y).mpr (ord y hy))
        obtain ⟨a, b, c, fm, q1, q2, q3⟩ := Rd.e y m em
        have hyF : y ∈ keys F := by
          rw [e]
          unfold keys
          rw [List.map_append]
          exact List.mem_append_left _ (ord y hy)
        refine ⟨m, fm, ?_, by omega, by rw [old y m em]; exact q1, q2, fun z hz => ok.rch (fun w hw => by rw [hw]; exact hyF) ((q3 z).mp hz), q3⟩
        rw [get_put, if_neg (fun z => hxR (by rw [← z]; exact (Rd.ks y).mpr (ord y hy)))]
        exact em
    rw [s2] at el
    -- after this name
    let A3 : AH := A2.set A.length (.dct (mapK uV fd'))
    have l3 : A3.length = A.length + 1 := by simp [A3, l2]
    have fr3 : Fr (fun n => n = r) A A3 := by
      have q1 : Fr (fun n => n = r) A A2 := Fr.app.trans (Fr.set rfl)
      exact q1.cut (Fr.set (.inr (Nat.le_refl _)))
    have Rd3 : RdAt A3 F (P ++ [(x, (ps, t))]) r f (put R x A.length) := by
      refine ⟨by show (List.set _ _ _)[r]? = _; rw [set_ne (by omega)]; exact r2, Rd.rf, fun y => ?_, nodup_put Rd.nd, fun y m q => ?_⟩
      · rw [mem_put, Rd.ks]
        unfold keys
        rw [List.map_append, List.mem_append]
        simp
      · rw [get_put] at q
        by_cases z : y = x
        · rw [if_pos z] at q
          cases q
          subst z
          refine ⟨by omega, by omega, by omega, fd', set_at n2, nd', fun w => ?_⟩
          rw [mm', rch_down, par_of gx]
          simp [keys]
        · rw [if_neg z] at q
          obtain ⟨a, b, c, fm, q1, q2, q3⟩ := Rd.e y m q
          refine ⟨a, b, by omega, fm, ?_, q2, q3⟩
          show (List.set _ _ _)[m]? = _
          rw [set_ne (by omega), old y m q]
          exact q1
    have f3 : A3[f]? = some (.lkd (mapK faV F)) := by
      show (List.set _ _ _)[f]? = _
      rw [set_ne (by omega)]
      exact f2
    obtain ⟨A', R', y2, y3, e', fr', Rd'⟩ := rc_loop ok Q (P ++ [(x, (ps, t))]) A3 (put R x A.length) (some (.str x)) x3' (by rw [e, List.append_assoc]; rfl) f3 Rd3
    refine ⟨A', R', y2, y3, ?_, fr3.trans fr', Rd'⟩
    show runL (turn [2] gNm rcB) (MV.str x :: (keys Q).map MV.str) [some (.ref f), some (.ref r), x2, x3] A = _
    have dsp : ∀ {B : AH}, mergeM [] [((.inr x : L2.Key), MV.bl true)] = mapK uV [(x, ())] := fun {B} => rfl
    have ix1 : ixM (.ref f) (.str x) A2 = .ok (faV (ps, t)) A2 := ix_mapK (dctV_lk f2) gx
    have ix0 : ixM (faV (ps, t)) (.int 0) A2 = .ok (.tup (ps.map MV.str)) A2 := ix_tup rfl
    have it : itV A2 (.tup (ps.map MV.str)) = some (ps.map MV.str) := rfl
    have bd : rcB [some (.ref f), some (.ref r), some (.str x), x3] A = .nx [some (.ref f), some (.ref r), some (.str x), x3'] A3 := by
      have eA2 : (A ++ [MO.dct (mapK uV [(x, ())])]).set r (.dct (mapK MV.ref (put R x A.length))) = A2 := rfl
      have rb : rcB = sSeq (sSub (eDisp [((eVar 2), (eC (.bl true)))]) (eVar 1) (eVar 2)) (sLk (eBin ixM (eBin ixM (eVar 0) (eVar 2)) (eC (.int 0))) (sFor (iAny (eBin ixM (eBin ixM (eVar 0) (eVar 2)) (eC (.int 0)))) [3] gNm rcI)) := rfl
      rw [rb]
      simp only [defM, sSeq, sIf, sSet, sRet, sRetN, sExpr, sNext, sFld_def, sSub, sRaise, eVar, eC, eBin, eUn, tB', eB, bNot, bAnd, bOr, bIf, eIf, eAnd, eOr, eNot, aNil, aCons, eTup, aLst, eFrz, eRef, pN, pA, pK, pAK, eCall, eMeth_def, eFld_def, eMake_def, bind_ok, bind_err, bind_bad, fs_ok, fs_err, fs_bad, List.map_cons, List.map_nil, List.length_cons, List.length_nil, List.replicate, List.cons_append, List.nil_append, List.getElem?_cons_zero, List.getElem?_cons_succ, List.set_cons_zero, List.set_cons_succ, sz0, sz1, sz2, sz3, sz4, sz5, if_true, and_self, Nat.reduceSub, Nat.reduceAdd, Nat.reduceLeDiff, List.lookup_cons, List.lookup_nil, eDisp, prsM, keyOf, dsp (B := A), Nat.reduceLeDiff, st, eA2, sLk, ix1, ix0, sFor, iAny, it, el]
      rfl
    unfold runL
    rw [show turn [2] gNm rcB (.str x) [some (.ref f), some (.ref r), x2, x3] A = rcB [some (.ref f), some (.ref r), some (.str x), x3] A from rfl, bd]
    exact e'
end
end Rp
/-! SpA: what the law says is reached; its candidates -/
namespace Rp
open PySem PySem.Spec PyProof.Rows Mv Rf
section
variable {A : AH} {F : Fa} {r f : Nat} {R : Tb Nat}
theorem rc_def : b__law_reached = sSeq (sSet 1 eDict0) (sSeq (sLk (eVar 0) (sFor (iAny (eVar 0)) [2] gNm rcB)) (sRet (eVar 1))) := rfl
theorem reached_ok (ok : FaOk F) (hf : A[f]? = some (.dct (mapK faV F))) : ∃ A' R, F__law_reached [.ref f] A = .ok (.ref A.length) A' ∧ Fr (fun _ => False) A A' ∧ RdAt A' F F A.length f R := by
  have lf := at_lt hf
  have h1 : (A ++ [MO.dct []])[f]? = some (.dct (mapK faV F)) := app_at hf
  have h2 : ((A ++ [MO.dct []]).set f (.lkd (mapK faV F)))[f]? = some (.lkd (mapK faV F)) := set_at h1
  have h3 : ((A ++ [MO.dct []]).set f (.lkd (mapK faV F)))[A.length]? = some (.dct (mapK MV.ref ([] : Tb Nat))) := by
    rw [set_ne (by omega)]
    exact new_at
  obtain ⟨A', R, x2, x3, e, fr, Rd⟩ := rc_loop (r := A.length) (f := f) ok F [] ((A ++ [MO.dct []]).set f (.lkd (mapK faV F))) [] none none rfl h2 ⟨h3, by omega, fun x => by simp [keys], by simp [keys], fun x n q => by cases q⟩
  have a1 : A'[f]? = some (.lkd (mapK faV F)) := fr.same _ _ (by omega) h2
  refine ⟨A'.set f (.dct (mapK faV F)), R, ?_, ⟨?_, fun n o _ q => ?_⟩, ?_⟩
  · have it := it_lkd h2
    have ed : ∀ {ρ : ME}, eDict0 ρ A = .ok (.ref A.length) (A ++ [.dct []]) := fun {ρ} => rfl
    unfold F__law_reached
    rw [rc_def]
    simp only [defM, sSeq, sIf, sSet, sRet, sRetN, sExpr, sNext, sFld_def, sSub, sRaise, eVar, eC, eBin, eUn, tB', eB, bNot, bAnd, bOr, bIf, eIf, eAnd, eOr, eNot, aNil, aCons, eTup, aLst, eFrz, eRef, pN, pA, pK, pAK, eCall, eMeth_def, eFld_def, eMake_def, bind_ok, bind_err, bind_bad, fs_ok, fs_err, fs_bad, List.map_cons, List.map_nil, List.length_cons, List.length_nil, List.replicate, List.cons_append, List.nil_append, List.getElem?_cons_zero, List.getElem?_cons_succ, List.set_cons_zero, List.set_cons_succ, sz0, sz1, sz2, sz3, sz4, sz5, if_true, and_self, Nat.reduceSub, Nat.reduceAdd, Nat.reduceLeDiff, List.lookup_cons, List.lookup_nil, ed, sLk, sLock, h1, lkO, sFor, iAny, it, e, unlk]
  · have := fr.len
    simp only [List.length_set, List.length_append, List.length_cons, List.length_nil] at this ⊢
    omega
  · have ln := at_lt q
    by_cases z : f = n
    · subst z
      rw [set_at a1, ← hf, q]
    · rw [set_ne z]
      refine fr.same n o (by omega) ?_
      rw [set_ne z]
      exact app_at q
  · refine ⟨by rw [set_ne (Ne.symm Rd.rf)]; exact Rd.ra, Rd.rf, Rd.ks, Rd.nd, fun x n q => ?_⟩
    obtain ⟨a, b, c, fd, q1, q2, q3⟩ := Rd.e x n q
    exact ⟨a, b, by rw [List.length_set]; exact c, fd, by rw [set_ne (Ne.symm b)]; exact q1, q2, q3⟩
theorem RdAt.fr {A' : AH} {Z : Nat → Prop} (Rd : RdAt A F F r f R) (h : Fr Z A A') (hr : ¬ Z r) (hd : ∀ x n, get R x = some n → ¬ Z n) : RdAt A' F F r f R :=
  ⟨h.same _ _ hr Rd.ra, Rd.rf, Rd.ks, Rd.nd, fun x n q => by
    obtain ⟨a, b, c, fd, q1, q2, q3⟩ := Rd.e x n q
    exact ⟨a, b, Nat.lt_of_lt_of_le c h.len, fd, h.same _ _ (hd x n q) q1, q2, q3⟩⟩
def lk1 : FL := (aLc (iFrz (eVar 1)) [5, 6] [5, 6] (gTupM 2 (gConsM gNm (gConsM gNm gNilM))) (qElt (tB' (eBin eqM (eVar 5) (eC (.str "bad")))) (eVar 6)))
def lk2 : FL := aLc (iFrz (eVar 1)) [5, 6] [5, 6] (gTupM 2 (gConsM gNm (gConsM gNm gNilM))) (qElt (tB' (eBin eqM (eVar 5) (eC (.str "good")))) (eVar 6))
def lc1 : FL := (aLc (iAny (eVar 0)) [6] [6] gNm (qElt (tB' (fun ρ A => ((aCons (eFrz (aLc (iFrz (eVar 2)) [7] [7] gNm (qElt bYes (eBin inM (eVar 6) (eBin ixM (eVar 0) (eVar 7)))))) aNil) ρ A).bind (allM fun bs => bs.all id))) (eVar 6)))
def lc2 : FL := (aLc (iFrz (eVar 4)) [6] [6] gNm (qElt (bNot (tB' (fun ρ A => ((aCons (eFrz (aLc (iFrz (eVar 3)) [7] [7] gNm (qElt bYes (eBin inM (eVar 6) (eBin ixM (eVar 0) (eVar 7)))))) aNil) ρ A).bind (allM fun bs => bs.any id)))) (eVar 6)))
theorem lcd_def : b__law_candidates = (sSeq (sSet 2 (eFrz lk1)) (sSeq (sSet 3 (eFrz lk2)) (sSeq (sIf (tB' (eBin eqM (eVar 2) (eFrz (aLst aNil)))) (sRet (eC (.ptp []))) sNext) (sSeq (sLk (eVar 0) (sSet 4 (eFrz lc1))) (sRet (fun ρ A => ((aCons (eFrz (fun ρ A => ((aCons (eFrz lc2) aNil) ρ A).bind sortedL)) aNil) ρ A).bind tupleM)))))) := rfl
theorem sel_ok {B : AH} {M : List (Str × Str)} (hl : M.length ≤ 1000) {x0 x2 x3 x4 x5 x6 x7 : Option MV} : lk1 [x0, some (.lst (M.map spV)), x2, x3, x4, x5, x6, x7] B = .ok ((sel M "bad").map MV.str) B ∧ lk2 [x0, some (.lst (M.map spV)), x2, x3, x4, x5, x6, x7] B = .ok ((sel M "good").map MV.str) B := by
  constructor
  · rw [← sel_flat]
    unfold lk1
    refine lc_ys (inj := spV) (by simp only [defM, sSeq, sIf, sSet, sRet, sRetN, sExpr, sNext, sFld_def, sSub, sRaise, eVar, eC, eBin, eUn, tB', eB, bNot, bAnd, bOr, bIf, eIf, eAnd, eOr, eNot, aNil, aCons, eTup, aLst, eFrz, eRef, pN, pA, pK, pAK, eCall, eMeth_def, eFld_def, eMake_def, bind_ok, bind_err, bind_bad, fs_ok, fs_err, fs_bad, List.map_cons, List.map_nil, List.length_cons, List.length_nil, List.replicate, List.cons_append, List.nil_append, List.getElem?_cons_zero, List.getElem?_cons_succ, List.set_cons_zero, List.set_cons_succ, sz0, sz1, sz2, sz3, sz4, sz5, if_true, and_self, Nat.reduceSub, Nat.reduceAdd, Nat.reduceLeDiff, List.lookup_cons, List.lookup_nil, iFrz]) (fun p hp => ⟨[.str p.1, .str p.2], rfl, ?_⟩) ?_
    · by_cases e : p.1 = "bad"
      · simp only [defM, sSeq, sIf, sSet, sRet, sRetN, sExpr, sNext, sFld_def, sSub, sRaise, eVar, eC, eBin, eUn, tB', eB, bNot, bAnd, bOr, bIf, eIf, eAnd, eOr, eNot, aNil, aCons, eTup, aLst, eFrz, eRef, pN, pA, pK, pAK, eCall, eMeth_def, eFld_def, eMake_def, bind_ok, bind_err, bind_bad, fs_ok, fs_err, fs_bad, List.map_cons, List.map_nil, List.length_cons, List.length_nil, List.replicate, List.cons_append, List.nil_append, List.getElem?_cons_zero, List.getElem?_cons_succ, List.set_cons_zero, List.set_cons_succ, sz0, sz1, sz2, sz3, sz4, sz5, if_true, and_self, Nat.reduceSub, Nat.reduceAdd, Nat.reduceLeDiff, List.lookup_cons, List.lookup_nil, qElt, wipeM, setAllM, eq_str, decide_eq_true e, if_pos e]
      · simp only [defM, sSeq, sIf, sSet, sRet, sRetN, sExpr, sNext, sFld_def, sSub, sRaise, eVar, eC, eBin, eUn, tB', eB, bNot, bAnd, bOr, bIf, eIf, eAnd, eOr, eNot, aNil, aCons, eTup, aLst, eFrz, eRef, pN, pA, pK, pAK, eCall, eMeth_def, eFld_def, eMake_def, bind_ok, bind_err, bind_bad, fs_ok, fs_err, fs_bad, List.map_cons, List.map_nil, List.length_cons, List.length_nil, List.replicate, List.cons_append, List.nil_append, List.getElem?_cons_zero, List.getElem?_cons_succ, List.set_cons_zero, List.set_cons_succ, sz0, sz1, sz2, sz3, sz4, sz5, if_true, and_self, Nat.reduceSub, Nat.reduceAdd, Nat.reduceLeDiff, List.lookup_cons, List.lookup_nil, qElt, wipeM, setAllM, eq_str, decide_eq_false e, if_neg e]
    · rw [sel_flat]
      exact szL_le (by rw [List.length_map]; exact Nat.le_trans sel_len hl)
  · rw [← sel_flat]
    unfold lk2
    refine lc_ys (inj := spV) (by simp only [defM, sSeq, sIf, sSet, sRet, sRetN, sExpr, sNext, sFld_def, sSub, sRaise, eVar, eC, eBin, eUn, tB', eB, bNot, bAnd, bOr, bIf, eIf, eAnd, eOr, eNot, aNil, aCons, eTup, aLst, eFrz, eRef, pN, pA, pK, pAK, eCall, eMeth_def, eFld_def, eMake_def, bind_ok, bind_err, bind_bad, fs_ok, fs_err, fs_bad, List.map_cons, List.map_nil, List.length_cons, List.length_nil, List.replicate, List.cons_append, List.nil_append, List.getElem?_cons_zero, List.getElem?_cons_succ, List.set_cons_zero, List.set_cons_succ, sz0, sz1, sz2, sz3, sz4, sz5, if_true, and_self, Nat.reduceSub, Nat.reduceAdd, Nat.reduceLeDiff, List.lookup_cons, List.lookup_nil, iFrz]) (fun p hp => ⟨[.str p.1, .str p.2], rfl, ?_⟩) ?_
    · by_cases e : p.1 = "good"
      · simp only [defM, sSeq, sIf, sSet, sRet, sRetN, sExpr, sNext, sFld_def, sSub, sRaise, eVar, eC, eBin, eUn, tB', eB, bNot, bAnd, bOr, bIf, eIf, eAnd, eOr, eNot, aNil, aCons, eTup, aLst, eFrz, eRef, pN, pA, pK, pAK, eCall, eMeth_def, eFld_def, eMake_def, bind_ok, bind_err, bind_bad, fs_ok, fs_err, fs_bad, List.map_cons, List.map_nil, List.length_cons, List.length_nil, List.replicate, List.cons_append, List.nil_append, List.getElem?_cons_zero, List.getElem?_cons_succ, List.set_cons_zero, List.set_cons_succ, sz0, sz1, sz2, sz3, sz4, sz5, if_true, and_self, Nat.reduceSub, Nat.reduceAdd, Nat.reduceLeDiff, List.lookup_cons, List.lookup_nil, qElt, wipeM, setAllM, eq_str, decide_eq_true e, if_pos e]
      · simp only [defM, sSeq, sIf, sSet, sRet, sRetN, sExpr, sNext, sFld_def, sSub, sRaise, eVar, eC, eBin, eUn, tB', eB, bNot, bAnd, bOr, bIf, eIf, eAnd, eOr, eNot, aNil, aCons, eTup, aLst, eFrz, eRef, pN, pA, pK, pAK, eCall, eMeth_def, eFld_def, eMake_def, bind_ok, bind_err, bind_bad, fs_ok, fs_err, fs_bad, List.map_cons, List.map_nil, List.length_cons, List.length_nil, List.replicate, List.cons_append, List.nil_append, List.getElem?_cons_zero, List.getElem?_cons_succ, List.set_cons_zero, List.set_cons_succ, sz0, sz1, sz2, sz3, sz4, sz5, if_true, and_self, Nat.reduceSub, Nat.reduceAdd, Nat.reduceLeDiff, List.lookup_cons, List.lookup_nil, qElt, wipeM, setAllM, eq_str, decide_eq_false e, if_neg e]
    · rw [sel_flat]
      exact szL_le (by rw [List.length_map]; exact Nat.le_trans sel_len hl)
/-- what is reached from a name, by the law -/
structure Rq (A : AH) (F : Fa) (r : Nat) (R : Tb Nat) : Prop where
  d : dctV A (.ref r) = some (mapK MV.ref R)
  ks : ∀ x, x ∈ keys R ↔ x ∈ keys F
  nd : (keys R).Nodup
  e : ∀ x n, get R x = some n → ∃ fd, dctV A (.ref n) = some (mapK uV fd) ∧ ∀ y, y ∈ keys fd ↔ Rch F (fun w => w = x) y
theorem RdAt.rq (Rd : RdAt A F F r f R) : Rq A F r R := ⟨dctV_at Rd.ra, Rd.ks, Rd.nd, fun x n q => by
  obtain ⟨a, b, c, fd, q1, q2, q3⟩ := Rd.e x n q
  exact ⟨fd, dctV_at q1, q3⟩⟩
theorem RdAt.rqL (Rd : RdAt A F F r f R) : Rq (A.set r (.lkd (mapK MV.ref R))) F r R := ⟨dctV_lk (set_at Rd.ra), Rd.ks, Rd.nd, fun x n q => by
  obtain ⟨a, b, c, fd, q1, q2, q3⟩ := Rd.e x n q
  exact ⟨fd, dctV_at (by rw [set_ne (Ne.symm a)]; exact q1), q3⟩⟩
theorem Rq.mem (Q : Rq A F r R) {x y : Str} (hx : x ∈ keys F) : y ∈ dk A R x ↔ Rch F (fun w => w = x) y := by
  obtain ⟨n, e⟩ := mem_get ((Q.ks x).mpr hx)
  obtain ⟨fd, d, m⟩ := Q.e x n e
  have : dk A R x = keys fd := by
    unfold dk
    rw [e]
    dsimp only
    rw [d]
    dsimp only
    rw [keyStrs_mapK]
    rfl
  rw [this]
  exact m y
abbrev innL (i : Nat) : FL := aLc (iFrz (eVar i)) [7] [7] gNm (qElt bYes (eBin inM (eVar 6) (eBin ixM (eVar 0) (eVar 7))))
theorem innL_ok (Q : Rq A F r R) {bs : List Str} (hb : ∀ b ∈ bs, b ∈ keys F) (hl : bs.length ≤ 1000) {i : Nat} {x1 x2 x3 x4 x5 x7 : Option MV} {y : Str} (hi : ([some (.ref r), x1, x2, x3, x4, x5, some (.str y), x7] : ME)[i]? = some (some (.lst (bs.map MV.str)))) :
    innL i [some (.ref r), x1, x2, x3, x4, x5, some (.str y), x7] A = .ok ((bs.map fun b => decide (y ∈ dk A R b)).map MV.bl) A := by
  rw [← flat_bl]
  refine lc_ys (inj := MV.str) ?_ (fun b hx => ⟨[.str b], rfl, ?_⟩) (by rw [flat_bl]; exact szL_le (by rw [List.length_map, List.length_map]; exact hl))
  · unfold iFrz eVar
    rw [hi]
    rfl
  · obtain ⟨n, e⟩ := mem_get ((Q.ks b).mpr (hb b hx))
    obtain ⟨fd, d, m⟩ := Q.e b n e
    have : dk A R b = keys fd := by
      unfold dk
      rw [e]
      dsimp only
      rw [d]
      dsimp only
      rw [keyStrs_mapK]
      rfl
    simp only [defM, sSeq, sIf, sSet, sRet, sRetN, sExpr, sNext, sFld_def, sSub, sRaise, eVar, eC, eBin, eUn, tB', eB, bNot, bAnd, bOr, bIf, eIf, eAnd, eOr, eNot, aNil, aCons, eTup, aLst, eFrz, eRef, pN, pA, pK, pAK, eCall, eMeth_def, eFld_def, eMake_def, bind_ok, bind_err, bind_bad, fs_ok, fs_err, fs_bad, List.map_cons, List.map_nil, List.length_cons, List.length_nil, List.replicate, List.cons_append, List.nil_append, List.getElem?_cons_zero, List.getElem?_cons_succ, List.set_cons_zero, List.set_cons_succ, sz0, sz1, sz2, sz3, sz4, sz5, if_true, and_self, Nat.reduceSub, Nat.reduceAdd, Nat.reduceLeDiff, List.lookup_cons, List.lookup_nil, qElt, wipeM, setAllM, bYes, ix_mapK Q.d e, in_dct d, this]
theorem lcand_none {M : List (Str × Str)} (hm : M.length ≤ 1000) (hb : sel M "bad" = []) : F__law_candidates [.ref r, .lst (M.map spV)] A = .ok (.ptp []) A := by
  have s1 := fun {x0 x2 x3 x4 x5 x6 x7 : Option MV} => (sel_ok (B := A) hm (x0 := x0) (x2 := x2) (x3 := x3) (x4 := x4) (x5 := x5) (x6 := x6) (x7 := x7)).1
  have s2 := fun {x0 x2 x3 x4 x5 x6 x7 : Option MV} => (sel_ok (B := A) hm (x0 := x0) (x2 := x2) (x3 := x3) (x4 := x4) (x5 := x5) (x6 := x6) (x7 := x7)).2
  rw [hb] at s1
  have eq : eqM (.lst []) (.lst []) A = .ok (.bl true) A := rfl
  unfold F__law_candidates
  rw [lcd_def]
  simp only [defM, sSeq, sIf, sSet, sRet, sRetN, sExpr, sNext, sFld_def, sSub, sRaise, eVar, eC, eBin, eUn, tB', eB, bNot, bAnd, bOr, bIf, eIf, eAnd, eOr, eNot, aNil, aCons, eTup, aLst, eFrz, eRef, pN, pA, pK, pAK, eCall, eMeth_def, eFld_def, eMake_def, bind_ok, bind_err, bind_bad, fs_ok, fs_err, fs_bad, List.map_cons, List.map_nil, List.length_cons, List.length_nil, List.replicate, List.cons_append, List.nil_append, List.getElem?_cons_zero, List.getElem?_cons_succ, List.set_cons_zero, List.set_cons_succ, sz0, sz1, sz2, sz3, sz4, sz5, if_true, and_self, Nat.reduceSub, Nat.reduceAdd, Nat.reduceLeDiff, List.lookup_cons, List.lookup_nil, s1, s2, eq]
theorem lcand_some (ok : FaOk F) (Rd : RdAt A F F r f R) {M : List (Str × Str)} (hm : M.length ≤ 1000) (hM : ∀ p ∈ M, p.2 ∈ keys F) (hb : sel M "bad" ≠ []) : ∃ L, F__law_candidates [.ref r, .lst (M.map spV)] A = .ok (.tup (L.map MV.str)) A ∧ Cand F (sel M "bad") (sel M "good") L := by
  have s1 := fun {x0 x2 x3 x4 x5 x6 x7 : Option MV} => (sel_ok (B := A) hm (x0 := x0) (x2 := x2) (x3 := x3) (x4 := x4) (x5 := x5) (x6 := x6) (x7 := x7)).1
  have s2 := fun {x0 x2 x3 x4 x5 x6 x7 : Option MV} => (sel_ok (B := A) hm (x0 := x0) (x2 := x2) (x3 := x3) (x4 := x4) (x5 := x5) (x6 := x6) (x7 := x7)).2
  have hbad : ∀ b ∈ sel M "bad", b ∈ keys F := fun b q => by obtain ⟨p, hp, e⟩ := sel_mem q; rw [← e]; exact hM p hp
  have hgood : ∀ b ∈ sel M "good", b ∈ keys F := fun b q => by obtain ⟨p, hp, e⟩ := sel_mem q; rw [← e]; exact hM p hp
  have l1 : (sel M "bad").length ≤ 1000 := Nat.le_trans sel_len hm
  have l2 : (sel M "good").length ≤ 1000 := Nat.le_trans sel_len hm
  generalize sel M "bad" = bad at *
  generalize sel M "good" = good at *
  obtain ⟨b0, h0⟩ : ∃ b0, b0 ∈ bad := by cases bad with | nil => exact absurd rfl hb | cons a q => exact ⟨a, List.mem_cons_self ..⟩
  have kl : (keys R).length ≤ 60 := by
    have := keys_len Rd.nd (F := F) fun x hx => (Rd.ks x).mp hx
    have q := ok.len
    unfold keys
    rw [List.length_map]
    omega
  let A1 : AH := A.set r (.lkd (mapK MV.ref R))
  have Q1 : Rq A1 F r R := Rd.rqL
  have Q : Rq A F r R := Rd.rq
  have it : itV A1 (.ref r) = some ((keys R).map MV.str) := it_lkd (set_at (o' := .lkd (mapK MV.ref R)) Rd.ra)
  have c1 : lc1 [some (.ref r), some (.lst (M.map spV)), some (.lst (bad.map MV.str)), some (.lst (good.map MV.str)), none, none, none, none] A1 = .ok (((keys R).filter fun y => (bad.map fun b => decide (y ∈ dk A1 R b)).all id).map MV.str) A1 := by
    rw [← flat_filter]
    unfold lc1
    refine lc_ys (inj := MV.str) (by simp only [defM, sSeq, sIf, sSet, sRet, sRetN, sExpr, sNext, sFld_def, sSub, sRaise, eVar, eC, eBin, eUn, tB', eB, bNot, bAnd, bOr, bIf, eIf, eAnd, eOr, eNot, aNil, aCons, eTup, aLst, eFrz, eRef, pN, pA, pK, pAK, eCall, eMeth_def, eFld_def, eMake_def, bind_ok, bind_err, bind_bad, fs_ok, fs_err, fs_bad, List.map_cons, List.map_nil, List.length_cons, List.length_nil, List.replicate, List.cons_append, List.nil_append, List.getElem?_cons_zero, List.getElem?_cons_succ, List.set_cons_zero, List.set_cons_succ, sz0, sz1, sz2, sz3, sz4, sz5, if_true, and_self, Nat.reduceSub, Nat.reduceAdd, Nat.reduceLeDiff, List.lookup_cons, List.lookup_nil, iAny, it]) (fun y hy => ⟨[.str y], rfl, ?_⟩) ?_
    · have q := innL_ok Q1 hbad l1 (i := 2) (x1 := some (.lst (M.map spV))) (x2 := some (.lst (bad.map MV.str))) (x3 := some (.lst (good.map MV.str))) (x4 := none) (x5 := none) (x7 := none) (y := y) rfl
      by_cases z : (bad.map fun b => decide (y ∈ dk A1 R b)).all id = true
      · simp only [defM, sSeq, sIf, sSet, sRet, sRetN, sExpr, sNext, sFld_def, sSub, sRaise, eVar, eC, eBin, eUn, tB', eB, bNot, bAnd, bOr, bIf, eIf, eAnd, eOr, eNot, aNil, aCons, eTup, aLst, eFrz, eRef, pN, pA, pK, pAK, eCall, eMeth_def, eFld_def, eMake_def, bind_ok, bind_err, bind_bad, fs_ok, fs_err, fs_bad, List.map_cons, List.map_nil, List.length_cons, List.length_nil, List.replicate, List.cons_append, List.nil_append, List.getElem?_cons_zero, List.getElem?_cons_succ, List.set_cons_zero, List.set_cons_succ, sz0, sz1, sz2, sz3, sz4, sz5, if_true, and_self, Nat.reduceSub, Nat.reduceAdd, Nat.reduceLeDiff, List.lookup_cons, List.lookup_nil, qElt, wipeM, setAllM, q, all_bls, z]
      · have z' : (bad.map fun b => decide (y ∈ dk A1 R b)).all id = false := by simpa using z
        simp only [defM, sSeq, sIf, sSet, sRet, sRetN, sExpr, sNext, sFld_def, sSub, sRaise, eVar, eC, eBin, eUn, tB', eB, bNot, bAnd, bOr, bIf, eIf, eAnd, eOr, eNot, aNil, aCons, eTup, aLst, eFrz, eRef, pN, pA, pK, pAK, eCall, eMeth_def, eFld_def, eMake_def, bind_ok, bind_err, bind_bad, fs_ok, fs_err, fs_bad, List.map_cons, List.map_nil, List.length_cons, List.length_nil, List.replicate, List.cons_append, List.nil_append, List.getElem?_cons_zero, List.getElem?_cons_succ, List.set_cons_zero, List.set_cons_succ, sz0, sz1, sz2, sz3, sz4, sz5, if_true, and_self, Nat.reduceSub, Nat.reduceAdd, Nat.reduceLeDiff, List.lookup_cons, List.lookup_nil, qElt, wipeM, setAllM, q, all_bls, z']
        rfl
    · rw [flat_filter]
      exact szL_le (by rw [List.length_map]; exact Nat.le_trans (List.length_filter_le ..) (by omega))
  have lfl : ((keys R).filter fun y => (bad.map fun b => decide (y ∈ dk A1 R b)).all id).length ≤ 60 := Nat.le_trans (List.length_filter_le ..) kl
  have c2 : ∀ {fl : List Str}, fl.length ≤ 60 → lc2 [some (.ref r), some (.lst (M.map spV)), some (.lst (bad.map MV.str)), some (.lst (good.map MV.str)), some (.lst (fl.map MV.str)), none, none, none] A = .ok ((fl.filter fun y => !(good.map fun b => decide (y ∈ dk A R b)).any id).map MV.str) A := fun {fl} hfl => by
    rw [← flat_filter]
    unfold lc2
    refine lc_ys (inj := MV.str) (by simp only [defM, sSeq, sIf, sSet, sRet, sRetN, sExpr, sNext, sFld_def, sSub, sRaise, eVar, eC, eBin, eUn, tB', eB, bNot, bAnd, bOr, bIf, eIf, eAnd, eOr, eNot, aNil, aCons, eTup, aLst, eFrz, eRef, pN, pA, pK, pAK, eCall, eMeth_def, eFld_def, eMake_def, bind_ok, bind_err, bind_bad, fs_ok, fs_err, fs_bad, List.map_cons, List.map_nil, List.length_cons, List.length_nil, List.replicate, List.cons_append, List.nil_append, List.getElem?_cons_zero, List.getElem?_cons_succ, List.set_cons_zero, List.set_cons_succ, sz0, sz1, sz2, sz3, sz4, sz5, if_true, and_self, Nat.reduceSub, Nat.reduceAdd, Nat.reduceLeDiff, List.lookup_cons, List.lookup_nil, iFrz]) (fun y hy => ⟨[.str y], rfl, ?_⟩) ?_
    · have q := innL_ok Q hgood l2 (i := 3) (x1 := some (.lst (M.map spV))) (x2 := some (.lst (bad.map MV.str))) (x3 := some (.lst (good.map MV.str))) (x4 := some (.lst (fl.map MV.str))) (x5 := none) (x7 := none) (y := y) rfl
      by_cases z : (good.map fun b => decide (y ∈ dk A R b)).any id = true
      · simp only [defM, sSeq, sIf, sSet, sRet, sRetN, sExpr, sNext, sFld_def, sSub, sRaise, eVar, eC, eBin, eUn, tB', eB, bNot, bAnd, bOr, bIf, eIf, eAnd, eOr, eNot, aNil, aCons, eTup, aLst, eFrz, eRef, pN, pA, pK, pAK, eCall, eMeth_def, eFld_def, eMake_def, bind_ok, bind_err, bind_bad, fs_ok, fs_err, fs_bad, List.map_cons, List.map_nil, List.length_cons, List.length_nil, List.replicate, List.cons_append, List.nil_append, List.getElem?_cons_zero, List.getElem?_cons_succ, List.set_cons_zero, List.set_cons_succ, sz0, sz1, sz2, sz3, sz4, sz5, if_true, and_self, Nat.reduceSub, Nat.reduceAdd, Nat.reduceLeDiff, List.lookup_cons, List.lookup_nil, qElt, wipeM, setAllM, q, all_bls, z, Bool.not_true]
        rfl
      · have z' : (good.map fun b => decide (y ∈ dk A R b)).any id = false := by simpa using z
        simp only [defM, sSeq, sIf, sSet, sRet, sRetN, sExpr, sNext, sFld_def, sSub, sRaise, eVar, eC, eBin, eUn, tB', eB, bNot, bAnd, bOr, bIf, eIf, eAnd, eOr, eNot, aNil, aCons, eTup, aLst, eFrz, eRef, pN, pA, pK, pAK, eCall, eMeth_def, eFld_def, eMake_def, bind_ok, bind_err, bind_bad, fs_ok, fs_err, fs_bad, List.map_cons, List.map_nil, List.length_cons, List.length_nil, List.replicate, List.cons_append, List.nil_append, List.getElem?_cons_zero, List.getElem?_cons_succ, List.set_cons_zero, List.set_cons_succ, sz0, sz1, sz2, sz3, sz4, sz5, if_true, and_self, Nat.reduceSub, Nat.reduceAdd, Nat.reduceLeDiff, List.lookup_cons, List.lookup_nil, qElt, wipeM, setAllM, q, all_bls, z', Bool.not_false]
    · rw [flat_filter]
      exact szL_le (by rw [List.length_map]; exact Nat.le_trans (List.length_filter_le ..) (by omega))
  have q2 := c2 lfl
  have lfl2 : (((keys R).filter fun y => (bad.map fun b => decide (y ∈ dk A1 R b)).all id).filter fun y => !(good.map fun b => decide (y ∈ dk A R b)).any id).length < 64 := Nat.lt_of_le_of_lt (Nat.le_trans (List.length_filter_le ..) lfl) (by decide)
  refine ⟨sortS (((keys R).filter fun y => (bad.map fun b => decide (y ∈ dk A1 R b)).all id).filter fun y => !(good.map fun b => decide (y ∈ dk A R b)).any id), ?_, ⟨(sortS_perm _).nodup_iff.mpr ((Rd.nd.filter _).filter _), sortS_asc _, fun y => ?_⟩⟩
  · unfold F__law_candidates
    rw [lcd_def]
    have ne : eqM (.lst (bad.map MV.str)) (.lst []) A = .ok (.bl false) A := by
      rw [eq_lst_nil]
      cases bad with
      | nil => exact absurd rfl hb
      | cons a q => rfl
    have eA1 : A.set r (.lkd (mapK MV.ref R)) = A1 := rfl
    have sb : A1.set r (.dct (mapK MV.ref R)) = A := set_back Rd.ra
    simp only [defM, sSeq, sIf, sSet, sRet, sRetN, sExpr, sNext, sFld_def, sSub, sRaise, eVar, eC, eBin, eUn, tB', eB, bNot, bAnd, bOr, bIf, eIf, eAnd, eOr, eNot, aNil, aCons, eTup, aLst, eFrz, eRef, pN, pA, pK, pAK, eCall, eMeth_def, eFld_def, eMake_def, bind_ok, bind_err, bind_bad, fs_ok, fs_err, fs_bad, List.map_cons, List.map_nil, List.length_cons, List.length_nil, List.replicate, List.cons_append, List.nil_append, List.getElem?_cons_zero, List.getElem?_cons_succ, List.set_cons_zero, List.set_cons_succ, sz0, sz1, sz2, sz3, sz4, sz5, if_true, and_self, Nat.reduceSub, Nat.reduceAdd, Nat.reduceLeDiff, List.lookup_cons, List.lookup_nil, s1, s2, ne, sLk, sLock, Rd.ra, lkO, eA1, c1, unlk, sb, q2, sorted_strs lfl2, tuple_lst]
  · rw [(sortS_perm _).mem_iff, List.mem_filter, List.mem_filter]
    have a1 : ((bad.map fun b => decide (y ∈ dk A1 R b)).all id = true) ↔ ∀ b ∈ bad, Rch F (fun w => w = b) y := by
      rw [List.all_eq_true]
      constructor
      · intro q b hb
        have := q _ (List.mem_map_of_mem (f := fun b => decide (y ∈ dk A1 R b)) hb)
        exact (Q1.mem (hbad b hb)).mp (of_decide_eq_true this)
      · intro q z hz
        obtain ⟨b, hb, rfl⟩ := List.mem_map.mp hz
        exact decide_eq_true ((Q1.mem (hbad b hb)).mpr (q b hb))
    have a2 : ((!(good.map fun b => decide (y ∈ dk A R b)).any id) = true) ↔ ¬ ∃ g ∈ good, Rch F (fun w => w = g) y := by
      rw [Bool.not_eq_true', ← Bool.not_eq_true, List.any_eq_true]
      refine not_congr ⟨fun ⟨z, hz, q⟩ => ?_, fun ⟨g, hg, q⟩ => ⟨_, List.mem_map_of_mem (f := fun b => decide (y ∈ dk A R b)) hg, decide_eq_true ((Q.mem (hgood g hg)).mpr q)⟩⟩
      obtain ⟨g, hg, rfl⟩ := List.mem_map.mp hz
      exact ⟨g, hg, (Q.mem (hgood g hg)).mp (of_decide_eq_true q)⟩
    rw [a1, a2]
    constructor
    · exact fun q => ⟨q.1.2, q.2⟩
    · refine fun q => ⟨⟨(Rd.ks y).mpr (ok.rch (fun w hw => ?_) (q.1 b0 h0)), q.1⟩, q.2⟩
      rw [hw]
      exact hbad b0 h0
end
end Rp
/-! SpB: texts, sums, ids -/
namespace Rp
open PySem PySem.Spec PyProof.Rows Mv Rf
/-! ### short plain texts -/
structure Sh (n : Nat) (x : Str) : Prop where
  a : ascB x = true
  l : x.length ≤ n
theorem app_cps (x y : Str) : (x ++ y).cps = x.cps ++ y.cps := rfl
theorem len_app (x y : Str) : (x ++ y).length = x.length + y.length := by
  show (x ++ y).cps.size = _
  rw [app_cps, Array.size_append]
  rfl
theorem Sh.app {n m : Nat} {x y : Str} (h : Sh n x) (h' : Sh m y) : Sh (n + m) (x ++ y) := by
  refine ⟨?_, by rw [len_app]; exact Nat.add_le_add h.l h'.l⟩
  unfold ascB
  rw [app_cps, Array.toList_append, List.all_append]
  have a := h.a
  have b := h'.a
  unfold ascB at a b
  rw [a, b]
  rfl
theorem Sh.mono {n m : Nat} {x : Str} (h : Sh n x) (hn : n ≤ m) : Sh m x := ⟨h.a, Nat.le_trans h.l hn⟩
theorem sh_empty : Sh 0 Str.empty := ⟨rfl, Nat.le_refl _⟩
/-- f-strings of texts that are known -/
theorem js_cons {f : FE} {fs : List FE} {acc y : Str} {ρ : ME} {A : AH} (h : f ρ A = .ok (.str y) A) (hl : (acc ++ y).length ≤ 1000000) : jsM (f :: fs) acc ρ A = jsM fs (acc ++ y) ρ A := by
  show (f ρ A).bind _ = _
  rw [h]
  show (if (acc ++ y).length ≤ 1000000 then jsM fs (acc ++ y) ρ A else .bad) = _
  rw [if_pos hl]
theorem js_nil {acc : Str} {ρ : ME} {A : AH} : jsM [] acc ρ A = .ok acc A := rfl
theorem fmt_str {y : Str} {n : Nat} {A : AH} {ρ : ME} {f : FE} (h : f ρ A = .ok (.str y) A) (s : Sh n y) (hn : n ≤ 1000000) : eFmt f ρ A = .ok (.str y) A := by
  unfold eFmt
  rw [h, bind_ok]
  dsimp only
  rw [if_pos (Nat.le_trans s.l hn)]
theorem fmt_int {i : Int} {A : AH} {ρ : ME} {f : FE} (h : f ρ A = .ok (.int i) A) (hl : i.natAbs.log2 < 1920) : eFmt f ρ A = .ok (.str (toString i)) A := by
  unfold eFmt
  rw [h, bind_ok]
  dsimp only
  rw [if_pos hl]
theorem sh_fold : ∀ (l : List Str) (acc : Array Nat) (m : Nat), (acc.toList.all fun c => decide (c < 128)) = true → acc.size ≤ m → (∀ y ∈ l, Sh 1000 y) →
    ((l.foldl (fun acc p => acc ++ (("" : Str)).cps ++ p.cps) acc).toList.all fun c => decide (c < 128)) = true ∧ (l.foldl (fun acc p => acc ++ (("" : Str)).cps ++ p.cps) acc).size ≤ m + 1000 * l.length
  | [], acc, m, h1, h2, _ => ⟨h1, h2⟩
  | y :: l, acc, m, h1, h2, H => by
    have e : (("" : Str)).cps = #[] := rfl
    have sy := H y (List.mem_cons_self ..)
    have h3 : ((acc ++ (("" : Str)).cps ++ y.cps).toList.all fun c => decide (c < 128)) = true := by
      rw [e, Array.append_empty, Array.toList_append, List.all_append, h1]
      exact sy.a
    have h4 : (acc ++ (("" : Str)).cps ++ y.cps).size ≤ m + 1000 := by
      rw [e, Array.append_empty, Array.size_append]
      have : y.cps.size ≤ 1000 := sy.l
      omega
    obtain ⟨a, b⟩ := sh_fold l _ (m + 1000) h3 h4 fun z hz => H z (List.mem_cons_of_mem _ hz)
    refine ⟨a, ?_⟩
    rw [List.length_cons]
    rw [List.foldl_cons]
    omega
theorem sh_join {ys : List Str} (h : ∀ y ∈ ys, Sh 1000 y) (hl : ys.length ≤ 100) : Sh 101000 (Txt.join "" ys) := by
  cases ys with
  | nil => exact ⟨rfl, Nat.zero_le _⟩
  | cons y l =>
    obtain ⟨a, b⟩ := sh_fold l y.cps 1000 (h y (List.mem_cons_self ..)).a (h y (List.mem_cons_self ..)).l fun z hz => h z (List.mem_cons_of_mem _ hz)
    rw [List.length_cons] at hl
    exact ⟨a, Nat.le_trans b (by omega)⟩
theorem sum_len {ys : List Str} (h : ∀ y ∈ ys, Sh 1000 y) : (ys.map (·.length)).sum ≤ 1000 * ys.length := by
  induction ys with
  | nil => exact Nat.le_refl _
  | cons y l ih =>
    rw [List.map_cons, List.sum_cons, List.length_cons]
    have := (h y (List.mem_cons_self ..)).l
    have := ih fun z hz => h z (List.mem_cons_of_mem _ hz)
    omega
/-! ### a commit's text -/
def lT (tr : Str) : Str := Str.empty ++ "tree " ++ tr ++ "\n"
def lP (p : Str) : Str := Str.empty ++ "parent " ++ p ++ "\n"
def lA (au : Str) (tm : Int) : Str := Str.empty ++ "author " ++ au ++ "\ntime " ++ (toString tm : String) ++ "\n\n"
def linesC (tr : Str) (ps : List Str) (au : Str) (tm : Int) : List Str := [("commit\n" : Str), lT tr] ++ ps.map lP ++ [lA au tm]
def textC (tr : Str) (ps : List Str) (au : Str) (tm : Int) (ms : Str) : Str := Txt.join "" (linesC tr ps au tm) ++ ms
structure CmOk (tr : Str) (ps : List Str) (au : Str) (tm : Int) (ms : Str) : Prop where
  htr : Sh 16 tr
  hps : ∀ p ∈ ps, Sh 16 p
  hpl : ps.length ≤ 6
  hau : Sh 20 au
  htm : Sh 20 (Str.ofString (toString tm))
  htl : tm.natAbs.log2 < 1920
  hms : Sh 200 ms
theorem sh_tree : Sh 5 ("tree " : Str) := ⟨by decide, by decide⟩
theorem sh_nl : Sh 1 ("\n" : Str) := ⟨by decide, by decide⟩
theorem sh_parent : Sh 7 ("parent " : Str) := ⟨by decide, by decide⟩
theorem sh_author : Sh 7 ("author " : Str) := ⟨by decide, by decide⟩
theorem sh_time : Sh 6 ("\ntime " : Str) := ⟨by decide, by decide⟩
theorem sh_nn : Sh 2 ("\n\n" : Str) := ⟨by decide, by decide⟩
theorem sh_commit : Sh 7 ("commit\n" : Str) := ⟨by decide, by decide⟩
theorem sh_lines {tr : Str} {ps : List Str} {au : Str} {tm : Int} {ms : Str} (ok : CmOk tr ps au tm ms) : ∀ y ∈ linesC tr ps au tm, Sh 1000 y := fun y hy => by
  unfold linesC at hy
  rcases List.mem_append.mp hy with hy | hy
  · rcases List.mem_append.mp hy with hy | hy
    · rcases List.mem_cons.mp hy with rfl | hy
      · exact sh_commit.mono (by decide)
      · rw [List.mem_singleton.mp hy]
        exact (((sh_empty.app sh_tree).app ok.htr).app sh_nl).mono (by decide)
    · obtain ⟨p, hp, rfl⟩ := List.mem_map.mp hy
      exact (((sh_empty.app sh_parent).app (ok.hps p hp)).app sh_nl).mono (by decide)
  · rw [List.mem_singleton.mp hy]
    exact (((((sh_empty.app sh_author).app ok.hau).app sh_time).app ok.htm).app sh_nn).mono (by decide)
theorem len_lines {tr : Str} {ps : List Str} {au : Str} {tm : Int} : (linesC tr ps au tm).length = ps.length + 3 := by
  unfold linesC
  simp only [List.length_append, List.length_map, List.length_cons, List.length_nil]
  omega
def CmF (A : AH) (c : Nat) (tr : Str) (ps : List Str) (au : Str) (tm : Int) (ms : Str) : Prop := A[c]? = some (.ins "Commit" [("held", .tup [.str tr, .tup (ps.map MV.str), .str au, .int tm, .str ms])])
section
variable {A : AH} {c : Nat} {tr : Str} {ps : List Str} {au : Str} {tm : Int} {ms : Str}
theorem CmF.at_ (h : CmF A c tr ps au tm ms) : CmAt A c ps tm := ⟨tr, au, ms, h⟩
theorem CmF.held (h : CmF A c tr ps au tm ms) : fldM "Commit" "held" (.ref c) A = .ok (.tup [.str tr, .tup (ps.map MV.str), .str au, .int tm, .str ms]) A := fld_at h rfl
theorem CmF.p0 (h : CmF A c tr ps au tm ms) : propM "Commit" F_Commit_tree (.ref c) A = .ok (.str tr) A := propM_at h (by
  have i : ixM (.tup [.str tr, .tup (ps.map MV.str), .str au, .int tm, .str ms]) (.int 0) A = .ok (.str tr) A := ix_tup rfl
  unfold F_Commit_tree b_Commit_tree
  simp only [defM, sSeq, sIf, sSet, sRet, sRetN, sExpr, sNext, sFld_def, sSub, sRaise, eVar, eC, eBin, eUn, tB', eB, bNot, bAnd, bOr, bIf, eIf, eAnd, eOr, eNot, aNil, aCons, eTup, aLst, eFrz, eRef, pN, pA, pK, pAK, eCall, eMeth_def, eFld_def, eMake_def, bind_ok, bind_err, bind_bad, fs_ok, fs_err, fs_bad, List.map_cons, List.map_nil, List.length_cons, List.length_nil, List.replicate, List.cons_append, List.nil_append, List.getElem?_cons_zero, List.getElem?_cons_succ, List.set_cons_zero, List.set_cons_succ, sz0, sz1, sz2, sz3, sz4, sz5, if_true, and_self, Nat.reduceSub, Nat.reduceAdd, Nat.reduceLeDiff, List.lookup_cons, List.lookup_nil, h.held, i])
theorem CmF.p2 (h : CmF A c tr ps au tm ms) : propM "Commit" F_Commit_author (.ref c) A = .ok (.str au) A := propM_at h (by
  have i : ixM (.tup [.str tr, .tup (ps.map MV.str), .str au, .int tm, .str ms]) (.int 2) A = .ok (.str au) A := ix_tup rfl
  unfold F_Commit_author b_Commit_author
  simp only [defM, sSeq, sIf, sSet, sRet, sRetN, sExpr, sNext, sFld_def, sSub, sRaise, eVar, eC, eBin, eUn, tB', eB, bNot, bAnd, bOr, bIf, eIf, eAnd, eOr, eNot, aNil, aCons, eTup, aLst, eFrz, eRef, pN, pA, pK, pAK, eCall, eMeth_def, eFld_def, eMake_def, bind_ok, bind_err, bind_bad, fs_ok, fs_err, fs_bad, List.map_cons, List.map_nil, List.length_cons, List.length_nil, List.replicate, List.cons_append, List.nil_append, List.getElem?_cons_zero, List.getElem?_cons_succ, List.set_cons_zero, List.set_cons_succ, sz0, sz1, sz2, sz3, sz4, sz5, if_true, and_self, Nat.reduceSub, Nat.reduceAdd, Nat.reduceLeDiff, List.lookup_cons, List.lookup_nil, h.held, i])
theorem CmF.p3 (h : CmF A c tr ps au tm ms) : propM "Commit" F_Commit_time (.ref c) A = .ok (.int tm) A := propM_at h (by
  have i : ixM (.tup [.str tr, .tup (ps.map MV.str), .str au, .int tm, .str ms]) (.int 3) A = .ok (.int tm) A := ix_tup rfl
  unfold F_Commit_time b_Commit_time
  simp only [defM, sSeq, sIf, sSet, sRet, sRetN, sExpr, sNext, sFld_def, sSub, sRaise, eVar, eC, eBin, eUn, tB', eB, bNot, bAnd, bOr, bIf, eIf, eAnd, eOr, eNot, aNil, aCons, eTup, aLst, eFrz, eRef, pN, pA, pK, pAK, eCall, eMeth_def, eFld_def, eMake_def, bind_ok, bind_err, bind_bad, fs_ok, fs_err, fs_bad, List.map_cons, List.map_nil, List.length_cons, List.length_nil, List.replicate, List.cons_append, List.nil_append, List.getElem?_cons_zero, List.getElem?_cons_succ, List.set_cons_zero, List.set_cons_succ, sz0, sz1, sz2, sz3, sz4, sz5, if_true, and_self, Nat.reduceSub, Nat.reduceAdd, Nat.reduceLeDiff, List.lookup_cons, List.lookup_nil, h.held, i])
theorem CmF.p4 (h : CmF A c tr ps au tm ms) : propM "Commit" F_Commit_message (.ref c) A = .ok (.str ms) A := propM_at h (by
  have i : ixM (.tup [.str tr, .tup (ps.map MV.str), .str au, .int tm, .str ms]) (.int 4) A = .ok (.str ms) A := ix_tup rfl
  unfold F_Commit_message b_Commit_message
  simp only [defM, sSeq, sIf, sSet, sRet, sRetN, sExpr, sNext, sFld_def, sSub, sRaise, eVar, eC, eBin, eUn, tB', eB, bNot, bAnd, bOr, bIf, eIf, eAnd, eOr, eNot, aNil, aCons, eTup, aLst, eFrz, eRef, pN, pA, pK, pAK, eCall, eMeth_def, eFld_def, eMake_def, bind_ok, bind_err, bind_bad, fs_ok, fs_err, fs_bad, List.map_cons, List.map_nil, List.length_cons, List.length_nil, List.replicate, List.cons_append, List.nil_append, List.getElem?_cons_zero, List.getElem?_cons_succ, List.set_cons_zero, List.set_cons_succ, sz0, sz1, sz2, sz3, sz4, sz5, if_true, and_self, Nat.reduceSub, Nat.reduceAdd, Nat.reduceLeDiff, List.lookup_cons, List.lookup_nil, h.held, i])
theorem CmF.app {l : AH} (h : CmF A c tr ps au tm ms) : CmF (A ++ l) c tr ps au tm ms := app_at h
theorem CmF.set_app {o o' : MO} (h : CmF A c tr ps au tm ms) : CmF ((A ++ [o]).set A.length o') c tr ps au tm ms := by
  have := at_lt h
  show (List.set _ _ _)[c]? = _
  rw [set_ne (by omega)]
  exact app_at h
theorem set_new {o o' : MO} : (A ++ [o]).set A.length o' = A ++ [o'] := by simp
theorem js3 {f : FE} {a b y : Str} {n : Nat} {ρ : ME} (h : f ρ A = .ok (.str y) A) (s : Sh n y) (hn : n ≤ 1000) (sa : Sh 100 a) (sb : Sh 100 b) : eJs [eC (.str a), eFmt f, eC (.str b)] ρ A = .ok (.str (Str.empty ++ a ++ y ++ b)) A := by
  have e1 : eC (.str a) ρ A = .ok (.str a) A := rfl
  have e2 : eC (.str b) ρ A = .ok (.str b) A := rfl
  have e3 := fmt_str h s (by omega)
  have s1 := sh_empty.app sa
  have s2 := s1.app s
  have s3 := s2.app sb
  unfold eJs
  rw [js_cons e1 (Nat.le_trans s1.l (by omega)), js_cons e3 (Nat.le_trans s2.l (by omega)), js_cons e2 (Nat.le_trans s3.l (by omega)), js_nil, bind_ok]
theorem encode_commit_ok (ok : CmOk tr ps au tm ms) (h : CmF A c tr ps au tm ms) : F_encode_commit [.ref c] A = .ok (.str (textC tr ps au tm ms)) (A ++ [.lst ((linesC tr ps au tm).map MV.str)]) := by
  have L0 : ∀ {ρ : ME}, ρ[0]? = some (some (.ref c)) → eProp "Commit" F_Commit_tree (eVar 0) ρ A = .ok (.str tr) A := fun {ρ} q => by
    rw [eProp_def]
    unfold eVar
    rw [q]
    exact h.p0
  have t1 := js3 (a := "tree ") (b := "\n") (L0 (ρ := [some (.ref c), none, none]) rfl) ok.htr (by decide) (sh_tree.mono (by decide)) (sh_nl.mono (by decide))
  let A1 : AH := A ++ [.lst [.str "commit\n", .str (lT tr)]]
  have eA1 : A ++ [MO.lst [.str "commit\n", .str (lT tr)]] = A1 := rfl
  have h1 : CmF A1 c tr ps au tm ms := h.app
  have n1 : A1[A.length]? = some (.lst [.str "commit\n", .str (lT tr)]) := new_at
  have lc : aLc (iSeq (eProp "Commit" F_Commit_parents (eVar 0))) [2] [2] gNm (qElt bYes (eJs [(eC (.str "parent ")), (eFmt (eVar 2)), (eC (.str "\n"))])) [some (.ref c), some (.ref A.length), none] A1 = .ok ((ps.map lP).map MV.str) A1 := by
    rw [List.map_map, ← flat_one]
    refine lc_ys (inj := MV.str) ?_ (fun p hp => ⟨[.str p], rfl, ?_⟩) ?_
    · simp only [defM, sSeq, sIf, sSet, sRet, sRetN, sExpr, sNext, sFld_def, sSub, sRaise, eVar, eC, eBin, eUn, tB', eB, bNot, bAnd, bOr, bIf, eIf, eAnd, eOr, eNot, aNil, aCons, eTup, aLst, eFrz, eRef, pN, pA, pK, pAK, eCall, eMeth_def, eFld_def, eMake_def, bind_ok, bind_err, bind_bad, fs_ok, fs_err, fs_bad, List.map_cons, List.map_nil, List.length_cons, List.length_nil, List.replicate, List.cons_append, List.nil_append, List.getElem?_cons_zero, List.getElem?_cons_succ, List.set_cons_zero, List.set_cons_succ, sz0, sz1, sz2, sz3, sz4, sz5, if_true, and_self, Nat.reduceSub, Nat.reduceAdd, Nat.reduceLeDiff, List.lookup_cons, List.lookup_nil, iSeq, eProp_def, par_prop h1.at_, tupOf]
    · have q := js3 (a := "parent ") (b := "\n") (A := A1) (ρ := [some (.ref c), some (.ref A.length), some (.str p)]) (f := eVar 2) (y := p) rfl (ok.hps p hp) (by decide) (sh_parent.mono (by decide)) (sh_nl.mono (by decide))
      simp only [defM, sSeq, sIf, sSet, sRet, sRetN, sExpr, sNext, sFld_def, sSub, sRaise, eVar, eC, eBin, eUn, tB', eB, bNot, bAnd, bOr, bIf, eIf, eAnd, eOr, eNot, aNil, aCons, eTup, aLst, eFrz, eRef, pN, pA, pK, pAK, eCall, eMeth_def, eFld_def, eMake_def, bind_ok, bind_err, bind_bad, fs_ok, fs_err, fs_bad, List.map_cons, List.map_nil, List.length_cons, List.length_nil, List.replicate, List.cons_append, List.nil_append, List.getElem?_cons_zero, List.getElem?_cons_succ, List.set_cons_zero, List.set_cons_succ, sz0, sz1, sz2, sz3, sz4, sz5, if_true, and_self, Nat.reduceSub, Nat.reduceAdd, Nat.reduceLeDiff, List.lookup_cons, List.lookup_nil, qElt, wipeM, setAllM, bYes, q]
      rfl
    · rw [flat_one]
      exact szL_le (by rw [List.length_map]; have := ok.hpl; omega)
  let A2 : AH := A ++ [.lst ((([("commit\n" : Str), lT tr] : List Str) ++ ps.map lP).map MV.str)]
  have ex : extM (.ref A.length) (.lst ((ps.map lP).map MV.str)) A1 = .ok .non A2 := by
    show _ = Rs.ok MV.non (A ++ [.lst ((([("commit\n" : Str), lT tr] : List Str) ++ ps.map lP).map MV.str)])
    unfold extM
    rw [lstW_at n1]
    dsimp only [seqV, tupOf, lstV]
    rw [if_pos (by simp only [List.length_map, List.length_cons, List.length_nil]; have := ok.hpl; omega), set_new, List.map_append]
    rfl
  have eA2 : A ++ [MO.lst ((([("commit\n" : Str), lT tr] : List Str) ++ ps.map lP).map MV.str)] = A2 := rfl
  have h2 : CmF A2 c tr ps au tm ms := h.app
  have n2 : A2[A.length]? = some (.lst ((([("commit\n" : Str), lT tr] : List Str) ++ ps.map lP).map MV.str)) := new_at
  have ja : eJs [(eC (.str "author ")), (eFmt (eProp "Commit" F_Commit_author (eVar 0))), (eC (.str "\ntime ")), (eFmt (eProp "Commit" F_Commit_time (eVar 0))), (eC (.str "\n\n"))] [some (.ref c), some (.ref A.length), none] A2 = .ok (.str (lA au tm)) A2 := by
    have e1 : eProp "Commit" F_Commit_author (eVar 0) [some (.ref c), some (.ref A.length), none] A2 = .ok (.str au) A2 := h2.p2
    have e2 : eProp "Commit" F_Commit_time (eVar 0) [some (.ref c), some (.ref A.length), none] A2 = .ok (.int tm) A2 := h2.p3
    have s1 := sh_empty.app sh_author
    have s2 := s1.app ok.hau
    have s3 := s2.app sh_time
    have s4 := s3.app ok.htm
    have s5 := s4.app sh_nn
    unfold eJs
    rw [js_cons (y := "author ") rfl (Nat.le_trans s1.l (by omega)), js_cons (fmt_str e1 ok.hau (by omega)) (Nat.le_trans s2.l (by omega)), js_cons (y := "\ntime ") rfl (Nat.le_trans s3.l (by omega)), js_cons (fmt_int e2 ok.htl) (Nat.le_trans s4.l (by omega)), js_cons (y := "\n\n") rfl (Nat.le_trans s5.l (by omega)), js_nil, bind_ok]
    rfl
  let A3 : AH := A ++ [.lst ((linesC tr ps au tm).map MV.str)]
  have ap : appM (.ref A.length) (.str (lA au tm)) A2 = .ok .non A3 := by
    show _ = Rs.ok MV.non (A ++ [.lst ((linesC tr ps au tm).map MV.str)])
    rw [appM_at n2 (by rw [List.length_map, List.length_append, List.length_map]; have := ok.hpl; simp only [List.length_cons, List.length_nil]; omega), set_new]
    unfold linesC
    rw [List.map_append (l₂ := [lA au tm])]
    rfl
  have eA3 : A ++ [MO.lst ((linesC tr ps au tm).map MV.str)] = A3 := rfl
  have h3 : CmF A3 c tr ps au tm ms := h.app
  have n3 : A3[A.length]? = some (.lst ((linesC tr ps au tm).map MV.str)) := new_at
  have sl := sh_lines ok
  have ll : (linesC tr ps au tm).length ≤ 9 := by rw [len_lines]; have := ok.hpl; omega
  have jn : eJoin (eC (.str "")) (eVar 1) [some (.ref c), some (.ref A.length), none] A3 = .ok (.str (Txt.join "" (linesC tr ps au tm))) A3 := by
    have sa : strsA A3 (.ref A.length) = some (linesC tr ps au tm) := by
      unfold strsA
      dsimp only [tupOf]
      rw [lstV_at n3]
      exact strsOf_map _
    unfold eJoin
    simp only [defM, sSeq, sIf, sSet, sRet, sRetN, sExpr, sNext, sFld_def, sSub, sRaise, eVar, eC, eBin, eUn, tB', eB, bNot, bAnd, bOr, bIf, eIf, eAnd, eOr, eNot, aNil, aCons, eTup, aLst, eFrz, eRef, pN, pA, pK, pAK, eCall, eMeth_def, eFld_def, eMake_def, bind_ok, bind_err, bind_bad, fs_ok, fs_err, fs_bad, List.map_cons, List.map_nil, List.length_cons, List.length_nil, List.replicate, List.cons_append, List.nil_append, List.getElem?_cons_zero, List.getElem?_cons_succ, List.set_cons_zero, List.set_cons_succ, sz0, sz1, sz2, sz3, sz4, sz5, if_true, and_self, Nat.reduceSub, Nat.reduceAdd, Nat.reduceLeDiff, List.lookup_cons, List.lookup_nil, sa]
    rw [if_pos]
    have := sum_len sl
    have e0 : (("" : Str)).length = 0 := rfl
    rw [e0]
    omega
  have ad : addM (.str (Txt.join "" (linesC tr ps au tm))) (.str ms) A3 = .ok (.str (textC tr ps au tm ms)) A3 := by
    unfold addM
    dsimp only
    rw [if_pos (by have := (sh_join sl (by omega)).l; have := ok.hms.l; omega)]
    rfl
  unfold F_encode_commit b_encode_commit
  simp only [defM, sSeq, sIf, sSet, sRet, sRetN, sExpr, sNext, sFld_def, sSub, sRaise, eVar, eC, eBin, eUn, tB', eB, bNot, bAnd, bOr, bIf, eIf, eAnd, eOr, eNot, aNil, aCons, eTup, aLst, eFrz, eRef, pN, pA, pK, pAK, eCall, eMeth_def, eFld_def, eMake_def, bind_ok, bind_err, bind_bad, fs_ok, fs_err, fs_bad, List.map_cons, List.map_nil, List.length_cons, List.length_nil, List.replicate, List.cons_append, List.nil_append, List.getElem?_cons_zero, List.getElem?_cons_succ, List.set_cons_zero, List.set_cons_succ, sz0, sz1, sz2, sz3, sz4, sz5, if_true, and_self, Nat.reduceSub, Nat.reduceAdd, Nat.reduceLeDiff, List.lookup_cons, List.lookup_nil, t1, show Str.empty ++ ("tree " : Str) ++ tr ++ ("\n" : Str) = lT tr from rfl, eA1, eExt_def, lstB_at n1, lc, ex, eApp_def, lstB_at n2, ja, ap, jn, eProp_def, h3.p4, ad]
  rfl
end
end Rp
/-! SpC: sums, ids -/
namespace Rp
open PySem PySem.Spec PyProof.Rows Mv Rf
/-! ### sums -/
def LONG : Nat := 2305843009213693951
def sumI : List Int → Int → Int
  | [], i => i
  | z :: zs, i => sumI zs ((i * 1000003 + z + 1) % 2305843009213693951)
theorem sumI_lt : ∀ (zs : List Int) (i : Int), 0 ≤ i ∧ i < 2305843009213693951 → 0 ≤ sumI zs i ∧ sumI zs i < 2305843009213693951
  | [], i, h => h
  | z :: zs, i, h => sumI_lt zs _ (emod_lt (by decide))
def suI : FS := (sSet 2 (eBin modM (fun ρ A => ((aCons (eBin addM (eBin addM (eBin mulM (eVar 2) (eC (.int 1000003))) (eVar 4)) (eC (.int 1))) aNil) ρ A).bind intM) (eVar 3)))
theorem su_def : b_sum_of = sSeq (sIf (bNot (tB' (fun ρ A => ((aCons (eVar 0) (aCons (eC (.ty "bytes")) aNil)) ρ A).bind (isiG own_)))) (sRaise "BadName" mk_BadName (eC (.str "not bytes"))) sNext) (sSeq (sSet 2 (eC (.int 7))) (sSeq (sSet 3 (eIf (tB' (eVar 1)) (eC (.int 251)) (eC (.int 2305843009213693951)))) (sSeq (sFor (Mv.iByt (eVar 0)) [4] gNm suI) (sRet (eHex (eVar 2)))))) := rfl
theorem su_one {A : AH} {x0 x1 : Option MV} {i z : Int} : suI [x0, x1, some (.int i), some (.int 2305843009213693951), some (.int z)] A = .nx [x0, x1, some (.int ((i * 1000003 + z + 1) % 2305843009213693951)), some (.int 2305843009213693951), some (.int z)] A := by
  have sm : small 1000003 = true := by decide
  have p : (0 : Int) < 2305843009213693951 := by decide
  unfold suI
  simp only [defM, sSeq, sIf, sSet, sRet, sRetN, sExpr, sNext, sFld_def, sSub, sRaise, eVar, eC, eBin, eUn, tB', eB, bNot, bAnd, bOr, bIf, eIf, eAnd, eOr, eNot, aNil, aCons, eTup, aLst, eFrz, eRef, pN, pA, pK, pAK, eCall, eMeth_def, eFld_def, eMake_def, bind_ok, bind_err, bind_bad, fs_ok, fs_err, fs_bad, List.map_cons, List.map_nil, List.length_cons, List.length_nil, List.replicate, List.cons_append, List.nil_append, List.getElem?_cons_zero, List.getElem?_cons_succ, List.set_cons_zero, List.set_cons_succ, sz0, sz1, sz2, sz3, sz4, sz5, if_true, and_self, Nat.reduceSub, Nat.reduceAdd, Nat.reduceLeDiff, List.lookup_cons, List.lookup_nil, mulM, sm, Bool.or_true, addM, intM, modM, if_pos p]
theorem su_loop {A : AH} {x0 x1 : Option MV} (zs : List Int) : ∀ (i : Int) (x4 : Option MV), ∃ x4', runL (turn [4] gNm suI) (zs.map MV.int) [x0, x1, some (.int i), some (.int 2305843009213693951), x4] A = .nx [x0, x1, some (.int (sumI zs i)), some (.int 2305843009213693951), x4'] A := by
  induction zs with
  | nil => exact fun i x4 => ⟨x4, rfl⟩
  | cons z zs ih =>
    intro i x4
    obtain ⟨x4', e⟩ := ih ((i * 1000003 + z + 1) % 2305843009213693951) (some (.int z))
    refine ⟨x4', ?_⟩
    rw [List.map_cons]
    unfold runL
    rw [turn1]
    rw [show ([x0, x1, some (.int i), some (.int 2305843009213693951), x4] : ME).set 4 (some (.int z)) = [x0, x1, some (.int i), some (.int 2305843009213693951), some (.int z)] from rfl, su_one]
    exact e
theorem hexC_len {n : Nat} (h : n < LONG) : (hexC n).length ≤ 16 := by
  unfold hexC
  rw [List.length_map]
  refine (Nat.length_toDigits_le_iff (by decide) (by decide)).mpr ?_
  exact Nat.lt_trans h (by decide)
def byI (b : Array UInt8) : List Int := b.toList.map fun c => (c.toNat : Int)
def idN (b : Array UInt8) : Nat := (sumI (byI b) 7).toNat
theorem idN_lt (b : Array UInt8) : idN b < LONG := by
  have := sumI_lt (byI b) 7 (by decide)
  unfold idN LONG
  omega
def idB (b : Array UInt8) : Str := hexT (idN b)
theorem byt_I (b : Array UInt8) : bytM b = (byI b).map MV.int := by
  unfold bytM byI
  rw [List.map_map]
  rfl
theorem sum_of_ok {A : AH} {b : Array UInt8} : F_sum_of [.byt b, .bl false] A = .ok (.str (idB b)) A := by
  have isb : isiG own_ [.byt b, .ty "bytes"] A = .ok (.bl true) A := rfl
  obtain ⟨x4, e⟩ := su_loop (A := A) (x0 := some (.byt b)) (x1 := some (.bl false)) (byI b) 7 none
  have hl := hexC_len (idN_lt b)
  have h0 := (sumI_lt (byI b) 7 (by decide)).1
  have hx : eHex (eVar 2) [some (.byt b), some (.bl false), some (.int (sumI (byI b) 7)), some (.int 2305843009213693951), x4] A = .ok (.str (idB b)) A := by
    unfold eHex
    simp only [defM, sSeq, sIf, sSet, sRet, sRetN, sExpr, sNext, sFld_def, sSub, sRaise, eVar, eC, eBin, eUn, tB', eB, bNot, bAnd, bOr, bIf, eIf, eAnd, eOr, eNot, aNil, aCons, eTup, aLst, eFrz, eRef, pN, pA, pK, pAK, eCall, eMeth_def, eFld_def, eMake_def, bind_ok, bind_err, bind_bad, fs_ok, fs_err, fs_bad, List.map_cons, List.map_nil, List.length_cons, List.length_nil, List.replicate, List.cons_append, List.nil_append, List.getElem?_cons_zero, List.getElem?_cons_succ, List.set_cons_zero, List.set_cons_succ, sz0, sz1, sz2, sz3, sz4, sz5, if_true, and_self, Nat.reduceSub, Nat.reduceAdd, Nat.reduceLeDiff, List.lookup_cons, List.lookup_nil]
    rw [if_pos ⟨h0, hl⟩]
    rfl
  unfold F_sum_of
  rw [su_def]
  simp only [defM, sSeq, sIf, sSet, sRet, sRetN, sExpr, sNext, sFld_def, sSub, sRaise, eVar, eC, eBin, eUn, tB', eB, bNot, bAnd, bOr, bIf, eIf, eAnd, eOr, eNot, aNil, aCons, eTup, aLst, eFrz, eRef, pN, pA, pK, pAK, eCall, eMeth_def, eFld_def, eMake_def, bind_ok, bind_err, bind_bad, fs_ok, fs_err, fs_bad, List.map_cons, List.map_nil, List.length_cons, List.length_nil, List.replicate, List.cons_append, List.nil_append, List.getElem?_cons_zero, List.getElem?_cons_succ, List.set_cons_zero, List.set_cons_succ, sz0, sz1, sz2, sz3, sz4, sz5, if_true, and_self, Nat.reduceSub, Nat.reduceAdd, Nat.reduceLeDiff, List.lookup_cons, List.lookup_nil, isb, Bool.not_true, sFor, Mv.iByt, byt_I, e, hx]
/-! ### ids are ids -/
def hexDs : List Nat := [48, 49, 50, 51, 52, 53, 54, 55, 56, 57, 97, 98, 99, 100, 101, 102]
theorem digit_hex : ∀ d : Nat, d < 16 → (Nat.digitChar d).toNat ∈ hexDs := by decide
theorem digits_hex : ∀ (f n : Nat) (ds : List Char), (∀ c ∈ ds, c.toNat ∈ hexDs) → ∀ c ∈ Nat.toDigitsCore 16 f n ds, c.toNat ∈ hexDs
  | 0, n, ds, h => by
    unfold Nat.toDigitsCore
    exact h
  | f + 1, n, ds, h => by
    have hd : (Nat.digitChar (n % 16)).toNat ∈ hexDs := digit_hex _ (Nat.mod_lt _ (by decide))
    have hc : ∀ c ∈ Nat.digitChar (n % 16) :: ds, c.toNat ∈ hexDs := fun c hc => (List.mem_cons.mp hc).elim (fun e => by rw [e]; exact hd) (h c)
    unfold Nat.toDigitsCore
    dsimp only
    split
    · exact hc
    · exact digits_hex f _ _ hc
theorem hexT_cps {n : Nat} (h : n < LONG) : (hexT n).cps.size = 16 ∧ ∀ c ∈ (hexT n).cps.toList, c ∈ hexDs := by
  have hl := hexC_len h
  constructor
  · unfold hexT
    simp only [List.size_toArray, List.length_append, List.length_replicate]
    omega
  · intro c hc
    unfold hexT at hc
    simp only at hc
    rcases List.mem_append.mp hc with q | q
    · rw [List.eq_of_mem_replicate q]
      decide
    · unfold hexC at q
      obtain ⟨d, hd, rfl⟩ := List.mem_map.mp q
      exact digits_hex _ _ _ (fun c hc => by cases hc) d hd
/-- a text that is an id -/
structure IsId (x : Str) : Prop where
  l : x.cps.size = 16
  m : ∀ c ∈ x.cps.toList, c ∈ hexDs
theorem idB_id (b : Array UInt8) : IsId (idB b) := by
  obtain ⟨a, c⟩ := hexT_cps (idN_lt b)
  exact ⟨a, c⟩
theorem IsId.sh {x : Str} (h : IsId x) : Sh 16 x := by
  refine ⟨?_, Nat.le_of_eq h.l⟩
  unfold ascB
  rw [List.all_eq_true]
  intro c hc
  have : ∀ c ∈ hexDs, decide (c < 128) = true := by decide
  exact this c (h.m c hc)
theorem in_hex {A : AH} : ∀ c ∈ hexDs, inM (.str ⟨#[c]⟩) (.str "0123456789abcdef") A = .ok (.bl true) A :=
  all_mem ⟨by kernel_rfl, by kernel_rfl, by kernel_rfl, by kernel_rfl, by kernel_rfl, by kernel_rfl, by kernel_rfl, by kernel_rfl, by kernel_rfl, by kernel_rfl, by kernel_rfl, by kernel_rfl, by kernel_rfl, by kernel_rfl, by kernel_rfl, by kernel_rfl, trivial⟩
theorem aLk_str {α : Type} {g : ME → AH → Rs α} {x : Str} {ρ : ME} {A : AH} : aLk (eVar 0) g (some (.str x) :: ρ) A = g (some (.str x) :: ρ) A := rfl
theorem it_str {A : AH} {x : Str} : itV A (.str x) = some (Mv.signs x) := rfl
theorem is_id_ok {A : AH} {x : Str} (h : IsId x) : F_is_id [.str x] A = .ok (.bl true) A := by
  have l16 : x.length = 16 := h.l
  have ln : lenM [.str x] A = .ok (.int 16) A := by
    unfold lenM
    dsimp only [tupOf, lstV, dctV]
    rw [l16, if_pos (by decide)]
    rfl
  have ho : F_has_only [.str x, .str "0123456789abcdef"] A = .ok (.bl true) A := by
    have lc : aLc (iAny (eVar 0)) [2] [2] gNm (qElt bYes (eBin inM (eVar 2) (eVar 1))) [some (.str x), some (.str "0123456789abcdef"), none] A = .ok ((x.cps.toList.map fun _ => true).map MV.bl) A := by
      refine lc_true (inj := fun c => MV.str ⟨#[c]⟩) ?_ (fun c hc => ⟨[.str ⟨#[c]⟩], rfl, ?_⟩) ?_
      · simp only [defM, sSeq, sIf, sSet, sRet, sRetN, sExpr, sNext, sFld_def, sSub, sRaise, eVar, eC, eBin, eUn, tB', eB, bNot, bAnd, bOr, bIf, eIf, eAnd, eOr, eNot, aNil, aCons, eTup, aLst, eFrz, eRef, pN, pA, pK, pAK, eCall, eMeth_def, eFld_def, eMake_def, bind_ok, bind_err, bind_bad, fs_ok, fs_err, fs_bad, List.map_cons, List.map_nil, List.length_cons, List.length_nil, List.replicate, List.cons_append, List.nil_append, List.getElem?_cons_zero, List.getElem?_cons_succ, List.set_cons_zero, List.set_cons_succ, sz0, sz1, sz2, sz3, sz4, sz5, if_true, and_self, Nat.reduceSub, Nat.reduceAdd, Nat.reduceLeDiff, List.lookup_cons, List.lookup_nil, iAny, it_str]
        rfl
      · simp only [defM, sSeq, sIf, sSet, sRet, sRetN, sExpr, sNext, sFld_def, sSub, sRaise, eVar, eC, eBin, eUn, tB', eB, bNot, bAnd, bOr, bIf, eIf, eAnd, eOr, eNot, aNil, aCons, eTup, aLst, eFrz, eRef, pN, pA, pK, pAK, eCall, eMeth_def, eFld_def, eMake_def, bind_ok, bind_err, bind_bad, fs_ok, fs_err, fs_bad, List.map_cons, List.map_nil, List.length_cons, List.length_nil, List.replicate, List.cons_append, List.nil_append, List.getElem?_cons_zero, List.getElem?_cons_succ, List.set_cons_zero, List.set_cons_succ, sz0, sz1, sz2, sz3, sz4, sz5, if_true, and_self, Nat.reduceSub, Nat.reduceAdd, Nat.reduceLeDiff, List.lookup_cons, List.lookup_nil, qElt, wipeM, setAllM, bYes, in_hex c (h.m c hc)]
      · have : x.cps.toList.length = 16 := by rw [Array.length_toList]; exact h.l
        omega
    unfold F_has_only b_has_only
    simp only [defM, sSeq, sIf, sSet, sRet, sRetN, sExpr, sNext, sFld_def, sSub, sRaise, eVar, eC, eBin, eUn, tB', eB, bNot, bAnd, bOr, bIf, eIf, eAnd, eOr, eNot, aNil, aCons, eTup, aLst, eFrz, eRef, pN, pA, pK, pAK, eCall, eMeth_def, eFld_def, eMake_def, bind_ok, bind_err, bind_bad, fs_ok, fs_err, fs_bad, List.map_cons, List.map_nil, List.length_cons, List.length_nil, List.replicate, List.cons_append, List.nil_append, List.getElem?_cons_zero, List.getElem?_cons_succ, List.set_cons_zero, List.set_cons_succ, sz0, sz1, sz2, sz3, sz4, sz5, if_true, and_self, Nat.reduceSub, Nat.reduceAdd, Nat.reduceLeDiff, List.lookup_cons, List.lookup_nil, aLk_str, lc, all_bls, all_true]
  unfold F_is_id b_is_id
  simp only [defM, sSeq, sIf, sSet, sRet, sRetN, sExpr, sNext, sFld_def, sSub, sRaise, eVar, eC, eBin, eUn, tB', eB, bNot, bAnd, bOr, bIf, eIf, eAnd, eOr, eNot, aNil, aCons, eTup, aLst, eFrz, eRef, pN, pA, pK, pAK, eCall, eMeth_def, eFld_def, eMake_def, bind_ok, bind_err, bind_bad, fs_ok, fs_err, fs_bad, List.map_cons, List.map_nil, List.length_cons, List.length_nil, List.replicate, List.cons_append, List.nil_append, List.getElem?_cons_zero, List.getElem?_cons_succ, List.set_cons_zero, List.set_cons_succ, sz0, sz1, sz2, sz3, sz4, sz5, if_true, and_self, Nat.reduceSub, Nat.reduceAdd, Nat.reduceLeDiff, List.lookup_cons, List.lookup_nil, isi_str, ln, eq_int, ho]
  rfl
end Rp
/-! SpD: objects made, ids, Store.put -/
namespace Rp
open PySem PySem.Spec PyProof.Rows Mv Rf
section
variable {A : AH} {c n : Nat} {tr : Str} {ps : List Str} {au : Str} {tm : Int} {ms : Str} {C : Str} {fs : List (Str × MV)}
theorem clsT_own (h : A[n]? = some (.ins C fs)) (hC : own_.contains C = true) : clsT own_ A (.ref n) = some (.inr C) := by
  unfold clsT
  rw [insN_at h]
  dsimp only
  rw [if_pos hC]
theorem is_object_commit (h : A[n]? = some (.ins "Commit" fs)) : F_is_object [.ref n] A = .ok (.bl true) A := by
  have q := clsT_own h (by decide)
  unfold F_is_object b_is_object
  simp only [defM, sSeq, sIf, sSet, sRet, sRetN, sExpr, sNext, sFld_def, sSub, sRaise, eVar, eC, eBin, eUn, tB', eB, bNot, bAnd, bOr, bIf, eIf, eAnd, eOr, eNot, aNil, aCons, eTup, aLst, eFrz, eRef, pN, pA, pK, pAK, eCall, eMeth_def, eFld_def, eMake_def, bind_ok, bind_err, bind_bad, fs_ok, fs_err, fs_bad, List.map_cons, List.map_nil, List.length_cons, List.length_nil, List.replicate, List.cons_append, List.nil_append, List.getElem?_cons_zero, List.getElem?_cons_succ, List.set_cons_zero, List.set_cons_succ, sz0, sz1, sz2, sz3, sz4, sz5, if_true, and_self, Nat.reduceSub, Nat.reduceAdd, Nat.reduceLeDiff, List.lookup_cons, List.lookup_nil, eIsiT, q]
  rfl
theorem is_object_tree (h : A[n]? = some (.ins "Tree" fs)) : F_is_object [.ref n] A = .ok (.bl true) A := by
  have q := clsT_own h (by decide)
  unfold F_is_object b_is_object
  simp only [defM, sSeq, sIf, sSet, sRet, sRetN, sExpr, sNext, sFld_def, sSub, sRaise, eVar, eC, eBin, eUn, tB', eB, bNot, bAnd, bOr, bIf, eIf, eAnd, eOr, eNot, aNil, aCons, eTup, aLst, eFrz, eRef, pN, pA, pK, pAK, eCall, eMeth_def, eFld_def, eMake_def, bind_ok, bind_err, bind_bad, fs_ok, fs_err, fs_bad, List.map_cons, List.map_nil, List.length_cons, List.length_nil, List.replicate, List.cons_append, List.nil_append, List.getElem?_cons_zero, List.getElem?_cons_succ, List.set_cons_zero, List.set_cons_succ, sz0, sz1, sz2, sz3, sz4, sz5, if_true, and_self, Nat.reduceSub, Nat.reduceAdd, Nat.reduceLeDiff, List.lookup_cons, List.lookup_nil, eIsiT, q]
  rfl
def idC (tr : Str) (ps : List Str) (au : Str) (tm : Int) (ms : Str) : Str := idB (encB (textC tr ps au tm ms))
theorem id_commit (ok : CmOk tr ps au tm ms) (h : CmF A c tr ps au tm ms) : F_id_of [.ref c, .bl false] A = .ok (.str (idC tr ps au tm ms)) (A ++ [.lst ((linesC tr ps au tm).map MV.str)]) := by
  have sl := sh_lines ok
  have ll : (linesC tr ps au tm).length ≤ 9 := by rw [len_lines]; have := ok.hpl; omega
  have st : Sh 101200 (textC tr ps au tm ms) := (sh_join sl (by omega)).app ok.hms
  have hh : A[c]? = some (.ins "Commit" _) := h
  have i1 : isiG own_ [.ref c, .glo "Blob"] A = .ok (.bl false) A := isi_own hh (by decide) (by decide)
  have i2 : isiG own_ [.ref c, .glo "Tree"] A = .ok (.bl false) A := isi_own hh (by decide) (by decide)
  have en : F_encode [.ref c] A = .ok (.byt (encB (textC tr ps au tm ms))) (A ++ [.lst ((linesC tr ps au tm).map MV.str)]) := by
    have ee : ∀ {B : AH} {ρ : ME}, ρ[1]? = some (some (.str (textC tr ps au tm ms))) → eEnc (eVar 1) ρ B = .ok (.byt (encB (textC tr ps au tm ms))) B := fun {B ρ} q => by
      unfold eEnc eVar
      rw [q, bind_ok]
      dsimp only
      rw [if_pos ⟨st.a, Nat.le_trans st.l (by decide)⟩]
    unfold F_encode b_encode
    simp only [defM, sSeq, sIf, sSet, sRet, sRetN, sExpr, sNext, sFld_def, sSub, sRaise, eVar, eC, eBin, eUn, tB', eB, bNot, bAnd, bOr, bIf, eIf, eAnd, eOr, eNot, aNil, aCons, eTup, aLst, eFrz, eRef, pN, pA, pK, pAK, eCall, eMeth_def, eFld_def, eMake_def, bind_ok, bind_err, bind_bad, fs_ok, fs_err, fs_bad, List.map_cons, List.map_nil, List.length_cons, List.length_nil, List.replicate, List.cons_append, List.nil_append, List.getElem?_cons_zero, List.getElem?_cons_succ, List.set_cons_zero, List.set_cons_succ, sz0, sz1, sz2, sz3, sz4, sz5, if_true, and_self, Nat.reduceSub, Nat.reduceAdd, Nat.reduceLeDiff, List.lookup_cons, List.lookup_nil, is_object_commit hh, Bool.not_true, i1, i2, isi_cm h.at_, encode_commit_ok ok h]
    rw [ee rfl]
    simp only [defM, sSeq, sIf, sSet, sRet, sRetN, sExpr, sNext, sFld_def, sSub, sRaise, eVar, eC, eBin, eUn, tB', eB, bNot, bAnd, bOr, bIf, eIf, eAnd, eOr, eNot, aNil, aCons, eTup, aLst, eFrz, eRef, pN, pA, pK, pAK, eCall, eMeth_def, eFld_def, eMake_def, bind_ok, bind_err, bind_bad, fs_ok, fs_err, fs_bad, List.map_cons, List.map_nil, List.length_cons, List.length_nil, List.replicate, List.cons_append, List.nil_append, List.getElem?_cons_zero, List.getElem?_cons_succ, List.set_cons_zero, List.set_cons_succ, sz0, sz1, sz2, sz3, sz4, sz5, if_true, and_self, Nat.reduceSub, Nat.reduceAdd, Nat.reduceLeDiff, List.lookup_cons, List.lookup_nil]
  unfold F_id_of b_id_of
  simp only [defM, sSeq, sIf, sSet, sRet, sRetN, sExpr, sNext, sFld_def, sSub, sRaise, eVar, eC, eBin, eUn, tB', eB, bNot, bAnd, bOr, bIf, eIf, eAnd, eOr, eNot, aNil, aCons, eTup, aLst, eFrz, eRef, pN, pA, pK, pAK, eCall, eMeth_def, eFld_def, eMake_def, bind_ok, bind_err, bind_bad, fs_ok, fs_err, fs_bad, List.map_cons, List.map_nil, List.length_cons, List.length_nil, List.replicate, List.cons_append, List.nil_append, List.getElem?_cons_zero, List.getElem?_cons_succ, List.set_cons_zero, List.set_cons_succ, sz0, sz1, sz2, sz3, sz4, sz5, if_true, and_self, Nat.reduceSub, Nat.reduceAdd, Nat.reduceLeDiff, List.lookup_cons, List.lookup_nil, en, gkw, List.zip_cons_cons, List.zip_nil_right, List.getD_cons_zero, List.append_nil, sum_of_ok]
  rfl
end
end Rp
/-! SpE: Store.put, Store(), Tree({}), Commit(..) -/
namespace Rp
open PySem PySem.Spec PyProof.Rows Mv Rf
theorem plain_strs : ∀ ks : List Str, PyData.plainAll (ks.map PyData.str) = true
  | [] => rfl
  | k :: ks => by
    show (PyData.plain (.str k) && PyData.plainAll (ks.map PyData.str)) = true
    rw [plain_strs ks]
    rfl
theorem depth_strs : ∀ ks : List Str, PyData.depthAll (ks.map PyData.str) ≤ 5
  | [] => by decide
  | k :: ks => by
    have := depth_strs ks
    simp only [List.map_cons, PyData.depthAll]
    have h : PyData.depth (.str k) ≤ 4 := by simp [PyData.depth]
    omega
section
variable {A : AH} {c n s k : Nat} {tr : Str} {ps : List Str} {au : Str} {tm : Int} {ms : Str} {T : Tb Nat} {F : Fa}
theorem good_held : good (.tup [.str tr, .tup (ps.map MV.str), .str au, .int tm, .str ms]) = true := by
  have e : datM (.tup [.str tr, .tup (ps.map MV.str), .str au, .int tm, .str ms]) = some (.tuple [.str tr, .tuple (ps.map PyData.str), .str au, .int tm, .str ms]) := by
    simp only [datM, datMs, datMs_str, Option.map_some]
  unfold good
  rw [e]
  dsimp only
  have p := plain_strs ps
  have d := depth_strs ps
  unfold okD
  simp only [PyData.plain, PyData.plainAll, p, PyData.depth, PyData.depthAll, Bool.and_true, Bool.true_and]
  exact decide_eq_true (by omega)
theorem eq_commit (h : CmF A c tr ps au tm ms) : F_Commit___eq__ [.ref c, .ref c] A = .ok (.bl true) A := by
  unfold F_Commit___eq__ b_Commit___eq__
  simp only [defM, sSeq, sIf, sSet, sRet, sRetN, sExpr, sNext, sFld_def, sSub, sRaise, eVar, eC, eBin, eUn, tB', eB, bNot, bAnd, bOr, bIf, eIf, eAnd, eOr, eNot, aNil, aCons, eTup, aLst, eFrz, eRef, pN, pA, pK, pAK, eCall, eMeth_def, eFld_def, eMake_def, bind_ok, bind_err, bind_bad, fs_ok, fs_err, fs_bad, List.map_cons, List.map_nil, List.length_cons, List.length_nil, List.replicate, List.cons_append, List.nil_append, List.getElem?_cons_zero, List.getElem?_cons_succ, List.set_cons_zero, List.set_cons_succ, sz0, sz1, sz2, sz3, sz4, sz5, if_true, and_self, Nat.reduceSub, Nat.reduceAdd, Nat.reduceLeDiff, List.lookup_cons, List.lookup_nil, isi_cm h.at_, h.held, eq_self good_held]
theorem put_commit (ok : CmOk tr ps au tm ms) (h : CmF A c tr ps au tm ms) (hs : A[s]? = some (.ins "Store" [("short", .bl false), ("kept", .ref k)])) (hk : A[k]? = some (.dct (mapK MV.ref T))) (hl : T.length ≤ 100) (hx : idC tr ps au tm ms ∉ keys T) :
    F_Store_put [.ref s, .ref c] A = .ok (.str (idC tr ps au tm ms)) ((A ++ [MO.lst ((linesC tr ps au tm).map MV.str)]).set k (.dct (mapK MV.ref (put T (idC tr ps au tm ms) c)))) := by
  let A1 : AH := A ++ [.lst ((linesC tr ps au tm).map MV.str)]
  have id1 : F_id_of [.ref c, .bl false] A = .ok (.str (idC tr ps au tm ms)) A1 := id_commit ok h
  have h1 : CmF A1 c tr ps au tm ms := h.app
  have s1 : A1[s]? = some (.ins "Store" [("short", .bl false), ("kept", .ref k)]) := app_at hs
  have k1 : A1[k]? = some (.dct (mapK MV.ref T)) := app_at hk
  have f0 : fldM "Store" "short" (.ref s) A = .ok (.bl false) A := fld_at hs rfl
  have f1 : fldM "Store" "kept" (.ref s) A1 = .ok (.ref k) A1 := fld_at s1 rfl
  have hh : A[c]? = some (.ins "Commit" _) := h
  have hh1 : A1[c]? = some (.ins "Commit" _) := h1
  have db : dctB A1 (.ref k) = true := by unfold dctB; rw [dctV_at k1]; rfl
  have gv : valM (mapK MV.ref T) (.inr (idC tr ps au tm ms)) = none := by rw [val_mapK, get_none.mpr hx]; rfl
  have g2 : eGet2 (eFld "Store" "kept" (eVar 0)) (eVar 2) (eVar 1) [some (.ref s), some (.ref c), some (.str (idC tr ps au tm ms))] A1 = .ok (.ref c) A1 := by
    unfold eGet2
    simp only [defM, sSeq, sIf, sSet, sRet, sRetN, sExpr, sNext, sFld_def, sSub, sRaise, eVar, eC, eBin, eUn, tB', eB, bNot, bAnd, bOr, bIf, eIf, eAnd, eOr, eNot, aNil, aCons, eTup, aLst, eFrz, eRef, pN, pA, pK, pAK, eCall, eMeth_def, eFld_def, eMake_def, bind_ok, bind_err, bind_bad, fs_ok, fs_err, fs_bad, List.map_cons, List.map_nil, List.length_cons, List.length_nil, List.replicate, List.cons_append, List.nil_append, List.getElem?_cons_zero, List.getElem?_cons_succ, List.set_cons_zero, List.set_cons_succ, sz0, sz1, sz2, sz3, sz4, sz5, if_true, and_self, Nat.reduceSub, Nat.reduceAdd, Nat.reduceLeDiff, List.lookup_cons, List.lookup_nil, f1, db, dctV_at k1, keyOf, gv, Option.getD_none]
  have cg : cmpG own_ eq_T true neM (.ref c) (.ref c) A1 = .ok (.bl false) A1 := by
    unfold cmpG
    rw [insN_at hh1]
    dsimp only
    rw [clsT_own hh1 (by decide), show eq_T.lookup ("Commit" : Str) = some F_Commit___eq__ from rfl]
    dsimp only
    rw [eq_commit h1]
    rfl
  have st : setM (.ref k) (.str (idC tr ps au tm ms)) (.ref c) A1 = some (A1.set k (.dct (mapK MV.ref (put T (idC tr ps au tm ms) c)))) := setM_dct (f := MV.ref) k1 (by omega)
  unfold F_Store_put b_Store_put
  simp only [defM, sSeq, sIf, sSet, sRet, sRetN, sExpr, sNext, sFld_def, sSub, sRaise, eVar, eC, eBin, eUn, tB', eB, bNot, bAnd, bOr, bIf, eIf, eAnd, eOr, eNot, aNil, aCons, eTup, aLst, eFrz, eRef, pN, pA, pK, pAK, eCall, eMeth_def, eFld_def, eMake_def, bind_ok, bind_err, bind_bad, fs_ok, fs_err, fs_bad, List.map_cons, List.map_nil, List.length_cons, List.length_nil, List.replicate, List.cons_append, List.nil_append, List.getElem?_cons_zero, List.getElem?_cons_succ, List.set_cons_zero, List.set_cons_succ, sz0, sz1, sz2, sz3, sz4, sz5, if_true, and_self, Nat.reduceSub, Nat.reduceAdd, Nat.reduceLeDiff, List.lookup_cons, List.lookup_nil, is_object_commit hh, Bool.not_true, f0, gkw, List.zip_cons_cons, List.zip_nil_right, List.getD_cons_zero, List.append_nil, id1, g2, cg, f1, st]
  rfl
theorem store_new {ρ : ME} : eMake "Store" 0 0 (fun ms _ => ms ++ [.bl false]) F_Store___init__ pN ρ A = .ok (.ref A.length) (A ++ [.ins "Store" [("short", .bl false), ("kept", .ref (A.length + 1))], .dct []]) := by
  have h1 : (A ++ [MO.ins "Store" []])[A.length]? = some (.ins "Store" []) := new_at
  have bb : ∀ {B : AH}, boolM [.bl false] B = .ok (.bl false) B := fun {B} => rfl
  have p1 : putFld "Store" "short" (.ref A.length) (.bl false) (A ++ [.ins "Store" []]) = some (A ++ [.ins "Store" [("short", .bl false)]]) := by
    rw [putFld_at h1 (by decide), set_new]
    rfl
  have ed : ∀ {ρ : ME} {B : AH}, eDict0 ρ B = .ok (.ref B.length) (B ++ [.dct []]) := fun {ρ B} => rfl
  have h2 : (A ++ [MO.ins "Store" [("short", .bl false)]] ++ [MO.dct []])[A.length]? = some (.ins "Store" [("short", .bl false)]) := app_at new_at
  have ln : (A ++ [MO.ins "Store" [("short", .bl false)]]).length = A.length + 1 := by simp
  have p2 : putFld "Store" "kept" (.ref A.length) (.ref (A.length + 1)) (A ++ [.ins "Store" [("short", .bl false)]] ++ [.dct []]) = some (A ++ [.ins "Store" [("short", .bl false), ("kept", .ref (A.length + 1))], .dct []]) := by
    rw [putFld_at h2 (by decide)]
    simp
    rfl
  have fi : F_Store___init__ [.ref A.length, .bl false] (A ++ [.ins "Store" []]) = .ok .non (A ++ [.ins "Store" [("short", .bl false), ("kept", .ref (A.length + 1))], .dct []]) := by
    unfold F_Store___init__ b_Store___init__
    simp only [defM, sSeq, sIf, sSet, sRet, sRetN, sExpr, sNext, sFld_def, sSub, sRaise, eVar, eC, eBin, eUn, tB', eB, bNot, bAnd, bOr, bIf, eIf, eAnd, eOr, eNot, aNil, aCons, eTup, aLst, eFrz, eRef, pN, pA, pK, pAK, eCall, eMeth_def, eFld_def, eMake_def, bind_ok, bind_err, bind_bad, fs_ok, fs_err, fs_bad, List.map_cons, List.map_nil, List.length_cons, List.length_nil, List.replicate, List.cons_append, List.nil_append, List.getElem?_cons_zero, List.getElem?_cons_succ, List.set_cons_zero, List.set_cons_succ, sz0, sz1, sz2, sz3, sz4, sz5, if_true, and_self, Nat.reduceSub, Nat.reduceAdd, Nat.reduceLeDiff, List.lookup_cons, List.lookup_nil, bb, p1, ed, ln]
    rw [show A ++ [MO.ins "Store" [("short", .bl false)]] ++ [MO.dct []] = A ++ [MO.ins "Store" [("short", .bl false)]] ++ [MO.dct []] from rfl, p2]
  simp only [defM, sSeq, sIf, sSet, sRet, sRetN, sExpr, sNext, sFld_def, sSub, sRaise, eVar, eC, eBin, eUn, tB', eB, bNot, bAnd, bOr, bIf, eIf, eAnd, eOr, eNot, aNil, aCons, eTup, aLst, eFrz, eRef, pN, pA, pK, pAK, eCall, eMeth_def, eFld_def, eMake_def, bind_ok, bind_err, bind_bad, fs_ok, fs_err, fs_bad, List.map_cons, List.map_nil, List.length_cons, List.length_nil, List.replicate, List.cons_append, List.nil_append, List.getElem?_cons_zero, List.getElem?_cons_succ, List.set_cons_zero, List.set_cons_succ, sz0, sz1, sz2, sz3, sz4, sz5, if_true, and_self, Nat.reduceSub, Nat.reduceAdd, Nat.reduceLeDiff, List.lookup_cons, List.lookup_nil, fi]
end
end Rp
/-! SpF: Commit(..), Tree({}), History(..), Search(..) -/
namespace Rp
open PySem PySem.Spec PyProof.Rows Mv Rf
def nV : Unit → MV := fun _ => .non
theorem put_len {β : Type} {T : Tb β} {k : Str} {v : β} : (put T k v).length ≤ T.length + 1 := by
  unfold put
  split
  · rw [List.length_map]
    omega
  · rw [List.length_append]
    exact Nat.le_refl _
theorem sc_run {A : AH} {x0 : Option MV} : ∀ (ps : List Str) (acc : Tb Unit) (a : Option MV), acc.length + ps.length ≤ 1000 → dRun [1] gNm (dElt bYes (eVar 1) (eC .non)) (ps.map MV.str) (mapK nV acc) [x0, a] A = .ok (mapK nV (ps.foldl (fun t p => put t p ()) acc)) A
  | [], acc, a, _ => rfl
  | p :: ps, acc, a, hl => by
    rw [List.length_cons] at hl
    have := sc_run (A := A) (x0 := x0) ps (put acc p ()) a (by have := put_len (T := acc) (k := p) (v := ()); omega)
    rw [List.map_cons]
    unfold dRun
    have e : dElt bYes (eVar 1) (eC .non) (mapK nV acc) (setAllM [x0, a] [1] [MV.str p]) A = .ok (mapK nV (put acc p ())) A := by
      rw [← put_mapK (f := nV)]
      show (if (mapK nV acc).length < 1000000 then Rs.ok (putM (mapK nV acc) (.inr p) .non) A else .bad) = _
      rw [if_pos (by rw [len_mapK]; omega)]
      rfl
    rw [show gNm (MV.str p) = some [MV.str p] from rfl]
    dsimp only
    rw [e]
    exact this
theorem sc_len : ∀ (ps : List Str) (acc : Tb Unit), ps.Nodup → (∀ p ∈ ps, p ∉ keys acc) → (ps.foldl (fun t p => put t p ()) acc).length = acc.length + ps.length
  | [], acc, _, _ => rfl
  | p :: ps, acc, nd, h => by
    rw [List.nodup_cons] at nd
    have hp := h p (List.mem_cons_self ..)
    have l : (put acc p ()).length = acc.length + 1 := by
      have := congrArg List.length (keys_put_unit hp)
      unfold keys at this
      rwa [List.length_map, List.length_append, List.length_map] at this
    rw [List.foldl_cons, sc_len ps _ nd.2 fun q hq => ?_, l, List.length_cons]
    · omega
    · rw [keys_put_unit hp, List.mem_append, List.mem_singleton]
      exact fun z => z.elim (h q (List.mem_cons_of_mem _ hq)) fun e => nd.1 (by rw [← e]; exact hq)
section
variable {A : AH} {c n s k : Nat} {tr : Str} {ps : List Str} {au : Str} {tm : Int} {ms : Str}
theorem len_tup {xs : List MV} : lenM [.tup xs] A = .ok (.int (xs.length : Nat)) A := rfl
theorem are_ids_ok (h : ∀ p ∈ ps, IsId p) (hl : ps.length ≤ 100) : F_are_ids [.tup (ps.map MV.str)] A = .ok (.bl true) A := by
  have lc : aLc (iSeq (eVar 0)) [1] [1] gNm (qElt bYes (eCall 1 0 (fun ms _ => ms) F_is_id (pA (aCons (eVar 1) aNil)))) [some (.tup (ps.map MV.str)), none] A = .ok ((ps.map fun _ => true).map MV.bl) A := by
    refine lc_true (inj := MV.str) (by simp only [defM, sSeq, sIf, sSet, sRet, sRetN, sExpr, sNext, sFld_def, sSub, sRaise, eVar, eC, eBin, eUn, tB', eB, bNot, bAnd, bOr, bIf, eIf, eAnd, eOr, eNot, aNil, aCons, eTup, aLst, eFrz, eRef, pN, pA, pK, pAK, eCall, eMeth_def, eFld_def, eMake_def, bind_ok, bind_err, bind_bad, fs_ok, fs_err, fs_bad, List.map_cons, List.map_nil, List.length_cons, List.length_nil, List.replicate, List.cons_append, List.nil_append, List.getElem?_cons_zero, List.getElem?_cons_succ, List.set_cons_zero, List.set_cons_succ, sz0, sz1, sz2, sz3, sz4, sz5, if_true, and_self, Nat.reduceSub, Nat.reduceAdd, Nat.reduceLeDiff, List.lookup_cons, List.lookup_nil, iSeq, tupOf]) (fun p hp => ⟨[.str p], rfl, ?_⟩) (by omega)
    simp only [defM, sSeq, sIf, sSet, sRet, sRetN, sExpr, sNext, sFld_def, sSub, sRaise, eVar, eC, eBin, eUn, tB', eB, bNot, bAnd, bOr, bIf, eIf, eAnd, eOr, eNot, aNil, aCons, eTup, aLst, eFrz, eRef, pN, pA, pK, pAK, eCall, eMeth_def, eFld_def, eMake_def, bind_ok, bind_err, bind_bad, fs_ok, fs_err, fs_bad, List.map_cons, List.map_nil, List.length_cons, List.length_nil, List.replicate, List.cons_append, List.nil_append, List.getElem?_cons_zero, List.getElem?_cons_succ, List.set_cons_zero, List.set_cons_succ, sz0, sz1, sz2, sz3, sz4, sz5, if_true, and_self, Nat.reduceSub, Nat.reduceAdd, Nat.reduceLeDiff, List.lookup_cons, List.lookup_nil, qElt, wipeM, setAllM, bYes, is_id_ok (h p hp)]
  unfold F_are_ids b_are_ids
  simp only [defM, sSeq, sIf, sSet, sRet, sRetN, sExpr, sNext, sFld_def, sSub, sRaise, eVar, eC, eBin, eUn, tB', eB, bNot, bAnd, bOr, bIf, eIf, eAnd, eOr, eNot, aNil, aCons, eTup, aLst, eFrz, eRef, pN, pA, pK, pAK, eCall, eMeth_def, eFld_def, eMake_def, bind_ok, bind_err, bind_bad, fs_ok, fs_err, fs_bad, List.map_cons, List.map_nil, List.length_cons, List.length_nil, List.replicate, List.cons_append, List.nil_append, List.getElem?_cons_zero, List.getElem?_cons_succ, List.set_cons_zero, List.set_cons_succ, sz0, sz1, sz2, sz3, sz4, sz5, if_true, and_self, Nat.reduceSub, Nat.reduceAdd, Nat.reduceLeDiff, List.lookup_cons, List.lookup_nil, isi_tup, lc, all_bls, all_true]
theorem are_parents_ok (h : ∀ p ∈ ps, IsId p) (nd : ps.Nodup) (hl : ps.length ≤ 6) : F_are_parents [.tup (ps.map MV.str)] A = .ok (.bl true) A := by
  have gt : gtM (.int ((ps.map MV.str).length : Nat)) (.int 6) A = .ok (.bl false) A := by
    unfold gtM
    dsimp only
    rw [decide_eq_false (by rw [List.length_map]; omega)]
  have sc : eScLen (iSeq (eVar 0)) [1] [1] gNm bYes (eVar 1) [some (.tup (ps.map MV.str)), none] A = .ok (.int ((ps.map MV.str).length : Nat)) A := by
    have l := sc_len ps [] nd (by intro p _ z; cases z)
    have r := sc_run (A := A) (x0 := some (.tup (ps.map MV.str))) ps [] none (by rw [List.length_nil]; omega)
    unfold eScLen
    simp only [defM, sSeq, sIf, sSet, sRet, sRetN, sExpr, sNext, sFld_def, sSub, sRaise, eVar, eC, eBin, eUn, tB', eB, bNot, bAnd, bOr, bIf, eIf, eAnd, eOr, eNot, aNil, aCons, eTup, aLst, eFrz, eRef, pN, pA, pK, pAK, eCall, eMeth_def, eFld_def, eMake_def, bind_ok, bind_err, bind_bad, fs_ok, fs_err, fs_bad, List.map_cons, List.map_nil, List.length_cons, List.length_nil, List.replicate, List.cons_append, List.nil_append, List.getElem?_cons_zero, List.getElem?_cons_succ, List.set_cons_zero, List.set_cons_succ, sz0, sz1, sz2, sz3, sz4, sz5, if_true, and_self, Nat.reduceSub, Nat.reduceAdd, Nat.reduceLeDiff, List.lookup_cons, List.lookup_nil, iSeq, tupOf, wipeM]
    rw [show ([] : List (L2.Key × MV)) = mapK nV [] from rfl, r]
    dsimp only
    rw [len_mapK, l, if_pos (by rw [List.length_nil]; omega), List.length_map, List.length_nil, Nat.zero_add]
  unfold F_are_parents b_are_parents
  simp only [defM, sSeq, sIf, sSet, sRet, sRetN, sExpr, sNext, sFld_def, sSub, sRaise, eVar, eC, eBin, eUn, tB', eB, bNot, bAnd, bOr, bIf, eIf, eAnd, eOr, eNot, aNil, aCons, eTup, aLst, eFrz, eRef, pN, pA, pK, pAK, eCall, eMeth_def, eFld_def, eMake_def, bind_ok, bind_err, bind_bad, fs_ok, fs_err, fs_bad, List.map_cons, List.map_nil, List.length_cons, List.length_nil, List.replicate, List.cons_append, List.nil_append, List.getElem?_cons_zero, List.getElem?_cons_succ, List.set_cons_zero, List.set_cons_succ, sz0, sz1, sz2, sz3, sz4, sz5, if_true, and_self, Nat.reduceSub, Nat.reduceAdd, Nat.reduceLeDiff, List.lookup_cons, List.lookup_nil, are_ids_ok h (by omega), Bool.not_true, len_tup, gt, sc, eq_int, decide_true]
theorem is_time_ok {t : Int} (h0 : 0 ≤ t) (h1 : t ≤ 1000) : F_is_time [.int t] A = .ok (.bl true) A := by
  have h2 : t ≤ 1000000000000 := by omega
  unfold F_is_time b_is_time F_is_count b_is_count F_is_whole b_is_whole
  simp only [defM, sSeq, sIf, sSet, sRet, sRetN, sExpr, sNext, sFld_def, sSub, sRaise, eVar, eC, eBin, eUn, tB', eB, bNot, bAnd, bOr, bIf, eIf, eAnd, eOr, eNot, aNil, aCons, eTup, aLst, eFrz, eRef, pN, pA, pK, pAK, eCall, eMeth_def, eFld_def, eMake_def, bind_ok, bind_err, bind_bad, fs_ok, fs_err, fs_bad, List.map_cons, List.map_nil, List.length_cons, List.length_nil, List.replicate, List.cons_append, List.nil_append, List.getElem?_cons_zero, List.getElem?_cons_succ, List.set_cons_zero, List.set_cons_succ, sz0, sz1, sz2, sz3, sz4, sz5, if_true, and_self, Nat.reduceSub, Nat.reduceAdd, Nat.reduceLeDiff, List.lookup_cons, List.lookup_nil, and_self, if_true, geM, leM, decide_eq_true h0, decide_eq_true h2, isi_int, isi_int_bool]
  rfl
/-- what a new commit is made of -/
structure CmNew (tr : Str) (ps : List Str) (au : Str) (tm : Int) (ms : Str) : Prop where
  i : IsId tr
  p : ∀ q ∈ ps, IsId q
  nd : ps.Nodup
  l : ps.length ≤ 6
  a : ∀ A : AH, F_is_author [.str au] A = .ok (.bl true) A
  t0 : 0 ≤ tm
  t1 : tm ≤ 1000
  x : ∀ A : AH, F_is_text [.str ms, .int 200] A = .ok (.bl true) A
theorem commit_init (N : CmNew tr ps au tm ms) (h : A[c]? = some (.ins "Commit" [])) : F_Commit___init__ [.ref c, .str tr, .tup (ps.map MV.str), .str au, .int tm, .str ms] A = .ok .non (A.set c (.ins "Commit" [("held", .tup [.str tr, .tup (ps.map MV.str), .str au, .int tm, .str ms])])) := by
  have p1 : putFld "Commit" "held" (.ref c) (.tup [.str tr, .tup (ps.map MV.str), .str au, .int tm, .str ms]) A = some (A.set c (.ins "Commit" [("held", .tup [.str tr, .tup (ps.map MV.str), .str au, .int tm, .str ms])])) := by
    rw [putFld_at h (by decide)]
    rfl
  unfold F_Commit___init__ b_Commit___init__
  simp only [defM, sSeq, sIf, sSet, sRet, sRetN, sExpr, sNext, sFld_def, sSub, sRaise, eVar, eC, eBin, eUn, tB', eB, bNot, bAnd, bOr, bIf, eIf, eAnd, eOr, eNot, aNil, aCons, eTup, aLst, eFrz, eRef, pN, pA, pK, pAK, eCall, eMeth_def, eFld_def, eMake_def, bind_ok, bind_err, bind_bad, fs_ok, fs_err, fs_bad, List.map_cons, List.map_nil, List.length_cons, List.length_nil, List.replicate, List.cons_append, List.nil_append, List.getElem?_cons_zero, List.getElem?_cons_succ, List.set_cons_zero, List.set_cons_succ, sz0, sz1, sz2, sz3, sz4, sz5, if_true, and_self, Nat.reduceSub, Nat.reduceAdd, Nat.reduceLeDiff, List.lookup_cons, List.lookup_nil, is_id_ok N.i, are_parents_ok N.p N.nd N.l, N.a A, is_time_ok N.t0 N.t1, N.x A, Bool.not_true, p1]
theorem history_new {ρ : ME} {i : Nat} (hi : ρ[i]? = some (some (.ref s))) : eMake "History" 1 0 (fun ms zs => plan [.kd 0] ms [] [.tup []] zs) F_History___init__ (pA (aCons (eVar i) aNil)) ρ A = .ok (.ref A.length) (A ++ [.ins "History" [("held", .ref s), ("ends", .tup []), ("known", .ref (A.length + 1)), ("depths", .ref (A.length + 2))], .dct [], .dct []]) := by
  have ed : ∀ {ρ : ME} {B : AH}, eDict0 ρ B = .ok (.ref B.length) (B ++ [.dct []]) := fun {ρ B} => rfl
  have ai : ∀ {B : AH}, F_are_ids [.tup []] B = .ok (.bl true) B := fun {B} => are_ids_ok (ps := []) (fun p hp => by cases hp) (by decide)
  have q : ∀ (fs : List (Str × MV)) (f : Str) (v : MV) (l : AH), fs.length < 900 → putFld "History" f (.ref A.length) v (A ++ MO.ins "History" fs :: l) = some (A ++ MO.ins "History" (putFM f v fs) :: l) := fun fs f v l hl => by
    rw [putFld_at (by simp : (A ++ MO.ins "History" fs :: l)[A.length]? = some (.ins "History" fs)) hl]
    simp
  have pl : plan [.kd 0] [MV.ref A.length, MV.ref s] [] [.tup []] ([] : List MV) = [.ref A.length, .ref s, .tup []] := rfl
  have fi : F_History___init__ [.ref A.length, .ref s, .tup []] (A ++ [.ins "History" []]) = .ok .non (A ++ [.ins "History" [("held", .ref s), ("ends", .tup []), ("known", .ref (A.length + 1)), ("depths", .ref (A.length + 2))], .dct [], .dct []]) := by
    have q1 : putFld "History" "held" (.ref A.length) (.ref s) (A ++ [MO.ins "History" []]) = some (A ++ [MO.ins "History" [("held", .ref s)]]) := q [] "held" (.ref s) [] (by simp)
    have q2 : putFld "History" "ends" (.ref A.length) (.tup []) (A ++ [MO.ins "History" [("held", .ref s)]]) = some (A ++ [MO.ins "History" [("held", .ref s), ("ends", .tup [])]]) := q [("held", .ref s)] "ends" (.tup []) [] (by simp)
    have q3 : putFld "History" "known" (.ref A.length) (.ref (A.length + 1)) (A ++ [MO.ins "History" [("held", .ref s), ("ends", .tup [])], .dct []]) = some (A ++ [MO.ins "History" [("held", .ref s), ("ends", .tup []), ("known", .ref (A.length + 1))], .dct []]) := q [("held", .ref s), ("ends", .tup [])] "known" (.ref (A.length + 1)) [.dct []] (by simp)
    have q4 : putFld "History" "depths" (.ref A.length) (.ref (A.length + 2)) (A ++ [MO.ins "History" [("held", .ref s), ("ends", .tup []), ("known", .ref (A.length + 1))], .dct [], .dct []]) = some (A ++ [MO.ins "History" [("held", .ref s), ("ends", .tup []), ("known", .ref (A.length + 1)), ("depths", .ref (A.length + 2))], .dct [], .dct []]) := q [("held", .ref s), ("ends", .tup []), ("known", .ref (A.length + 1))] "depths" (.ref (A.length + 2)) [.dct [], .dct []] (by simp)
    unfold F_History___init__ b_History___init__
    simp only [defM, sSeq, sIf, sSet, sRet, sRetN, sExpr, sNext, sFld_def, sSub, sRaise, eVar, eC, eBin, eUn, tB', eB, bNot, bAnd, bOr, bIf, eIf, eAnd, eOr, eNot, aNil, aCons, eTup, aLst, eFrz, eRef, pN, pA, pK, pAK, eCall, eMeth_def, eFld_def, eMake_def, bind_ok, bind_err, bind_bad, fs_ok, fs_err, fs_bad, List.map_cons, List.map_nil, List.length_cons, List.length_nil, List.replicate, List.cons_append, List.nil_append, List.getElem?_cons_zero, List.getElem?_cons_succ, List.set_cons_zero, List.set_cons_succ, sz0, sz1, sz2, sz3, sz4, sz5, if_true, and_self, Nat.reduceSub, Nat.reduceAdd, Nat.reduceLeDiff, List.lookup_cons, List.lookup_nil, ai, Bool.not_true, q1, q2, ed, List.append_assoc, List.length_append, q3, q4]
  unfold eVar
  simp only [defM, sSeq, sIf, sSet, sRet, sRetN, sExpr, sNext, sFld_def, sSub, sRaise, eVar, eC, eBin, eUn, tB', eB, bNot, bAnd, bOr, bIf, eIf, eAnd, eOr, eNot, aNil, aCons, eTup, aLst, eFrz, eRef, pN, pA, pK, pAK, eCall, eMeth_def, eFld_def, eMake_def, bind_ok, bind_err, bind_bad, fs_ok, fs_err, fs_bad, List.map_cons, List.map_nil, List.length_cons, List.length_nil, List.replicate, List.cons_append, List.nil_append, List.getElem?_cons_zero, List.getElem?_cons_succ, List.set_cons_zero, List.set_cons_succ, sz0, sz1, sz2, sz3, sz4, sz5, if_true, and_self, Nat.reduceSub, Nat.reduceAdd, Nat.reduceLeDiff, List.lookup_cons, List.lookup_nil, hi, pl, fi]
theorem search_new {ρ : ME} {i h : Nat} (hi : ρ[i]? = some (some (.ref h))) : eMake "Search" 1 0 (fun ms _ => ms) F_Search___init__ (pA (aCons (eVar i) aNil)) ρ A = .ok (.ref A.length) (A ++ [.ins "Search" [("past", .ref h), ("marks", .ref (A.length + 1))], .lst []]) := by
  have q : ∀ (fs : List (Str × MV)) (f : Str) (v : MV) (l : AH), fs.length < 900 → putFld "Search" f (.ref A.length) v (A ++ MO.ins "Search" fs :: l) = some (A ++ MO.ins "Search" (putFM f v fs) :: l) := fun fs f v l hl => by
    rw [putFld_at (by simp : (A ++ MO.ins "Search" fs :: l)[A.length]? = some (.ins "Search" fs)) hl]
    simp
  have fi : F_Search___init__ [.ref A.length, .ref h] (A ++ [.ins "Search" []]) = .ok .non (A ++ [.ins "Search" [("past", .ref h), ("marks", .ref (A.length + 1))], .lst []]) := by
    have q1 : putFld "Search" "past" (.ref A.length) (.ref h) (A ++ [MO.ins "Search" []]) = some (A ++ [MO.ins "Search" [("past", .ref h)]]) := q [] "past" (.ref h) [] (by simp)
    have q2 : putFld "Search" "marks" (.ref A.length) (.ref (A.length + 1)) (A ++ [MO.ins "Search" [("past", .ref h)], .lst []]) = some (A ++ [MO.ins "Search" [("past", .ref h), ("marks", .ref (A.length + 1))], .lst []]) := q [("past", .ref h)] "marks" (.ref (A.length + 1)) [.lst []] (by simp)
    unfold F_Search___init__ b_Search___init__
    simp only [defM, sSeq, sIf, sSet, sRet, sRetN, sExpr, sNext, sFld_def, sSub, sRaise, eVar, eC, eBin, eUn, tB', eB, bNot, bAnd, bOr, bIf, eIf, eAnd, eOr, eNot, aNil, aCons, eTup, aLst, eFrz, eRef, pN, pA, pK, pAK, eCall, eMeth_def, eFld_def, eMake_def, bind_ok, bind_err, bind_bad, fs_ok, fs_err, fs_bad, List.map_cons, List.map_nil, List.length_cons, List.length_nil, List.replicate, List.cons_append, List.nil_append, List.getElem?_cons_zero, List.getElem?_cons_succ, List.set_cons_zero, List.set_cons_succ, sz0, sz1, sz2, sz3, sz4, sz5, if_true, and_self, Nat.reduceSub, Nat.reduceAdd, Nat.reduceLeDiff, List.lookup_cons, List.lookup_nil, q1, List.append_assoc, List.length_append, q2]
  unfold eVar
  simp only [defM, sSeq, sIf, sSet, sRet, sRetN, sExpr, sNext, sFld_def, sSub, sRaise, eVar, eC, eBin, eUn, tB', eB, bNot, bAnd, bOr, bIf, eIf, eAnd, eOr, eNot, aNil, aCons, eTup, aLst, eFrz, eRef, pN, pA, pK, pAK, eCall, eMeth_def, eFld_def, eMake_def, bind_ok, bind_err, bind_bad, fs_ok, fs_err, fs_bad, List.map_cons, List.map_nil, List.length_cons, List.length_nil, List.replicate, List.cons_append, List.nil_append, List.getElem?_cons_zero, List.getElem?_cons_succ, List.set_cons_zero, List.set_cons_succ, sz0, sz1, sz2, sz3, sz4, sz5, if_true, and_self, Nat.reduceSub, Nat.reduceAdd, Nat.reduceLeDiff, List.lookup_cons, List.lookup_nil, hi, fi]
end
end Rp
/-! SpG: the empty tree -/
namespace Rp
open PySem PySem.Spec PyProof.Rows Mv Rf
section
variable {A : AH} {c n s k t d : Nat}
theorem isi_dct {kvs : List (L2.Key × MV)} (h : A[n]? = some (.dct kvs)) : isiG own_ [.ref n, .ty "dict"] A = .ok (.bl true) A := by
  have e1 : insN A (.ref n) = none := by
    unfold insN
    dsimp only
    rw [h]
  have e2 : tyN A (.ref n) = some "dict" := by
    unfold tyN
    dsimp only
    rw [h]
  unfold isiG clsT
  dsimp only
  rw [e1]
  dsimp only
  rw [e2]
  rfl
theorem len_dct {kvs : List (L2.Key × MV)} (h : A[n]? = some (.dct kvs)) : lenM [.ref n] A = .ok (.int (kvs.length : Nat)) A := by
  unfold lenM
  have e : lstV A (.ref n) = none := by
    unfold lstV
    dsimp only
    rw [h]
  dsimp only [tupOf]
  rw [e, dctV_at h]
theorem tree_init (ht : A[t]? = some (.ins "Tree" [])) (hd : A[d]? = some (.dct [])) : F_Tree___init__ [.ref t, .ref d] A = .ok .non (A.set t (.ins "Tree" [("held", .tup [])])) := by
  have e1 := isi_dct hd
  have e2 : lenM [.ref d] A = .ok (.int 0) A := len_dct hd
  have gt : gtM (.int 0) (.int 30) A = .ok (.bl false) A := rfl
  have lk : lkdOf (A.set d (.lkd [])) (.ref d) = some [] := by
    unfold lkdOf
    dsimp only
    rw [set_at hd]
  have so : sortedL [.ref d] A = .ok [] A := by
    unfold sortedL
    dsimp only
    rw [dctV_at hd]
    rfl
  have p1 : putFld "Tree" "held" (.ref t) (.tup []) A = some (A.set t (.ins "Tree" [("held", .tup [])])) := by
    rw [putFld_at ht (by decide)]
    rfl
  have al : allM (fun bs => bs.all id) [.lst []] A = .ok (.bl true) A := rfl
  have z : szL [] = true := rfl
  unfold F_Tree___init__ b_Tree___init__
  simp only [defM, sSeq, sIf, sSet, sRet, sRetN, sExpr, sNext, sFld_def, sSub, sRaise, eVar, eC, eBin, eUn, tB', eB, bNot, bAnd, bOr, bIf, eIf, eAnd, eOr, eNot, aNil, aCons, eTup, aLst, eFrz, eRef, pN, pA, pK, pAK, eCall, eMeth_def, eFld_def, eMake_def, bind_ok, bind_err, bind_bad, fs_ok, fs_err, fs_bad, List.map_cons, List.map_nil, List.length_cons, List.length_nil, List.replicate, List.cons_append, List.nil_append, List.getElem?_cons_zero, List.getElem?_cons_succ, List.set_cons_zero, List.set_cons_succ, sz0, sz1, sz2, sz3, sz4, sz5, if_true, and_self, Nat.reduceSub, Nat.reduceAdd, Nat.reduceLeDiff, List.lookup_cons, List.lookup_nil, e1, Bool.not_true, e2, gt, aLk, aLock, hd, lkO, aLc, Mv.iItems, lk, qRun, z, set_back hd, al, iFrz, so, tuple_lst, p1]
theorem tree_new {ρ : ME} : eMake "Tree" 1 0 (fun ms _ => ms) F_Tree___init__ (pA (aCons eDict0 aNil)) ρ A = .ok (.ref (A.length + 1)) (A ++ [.dct [], .ins "Tree" [("held", .tup [])]]) := by
  have ed : eDict0 ρ A = .ok (.ref A.length) (A ++ [.dct []]) := rfl
  have ln : (A ++ [MO.dct []]).length = A.length + 1 := by simp
  have h1 : (A ++ [MO.dct []] ++ [MO.ins "Tree" []])[A.length + 1]? = some (.ins "Tree" []) := by rw [← ln]; exact new_at
  have h2 : (A ++ [MO.dct []] ++ [MO.ins "Tree" []])[A.length]? = some (.dct []) := app_at new_at
  have fi := tree_init h1 h2
  have e : (A ++ [MO.dct []] ++ [MO.ins "Tree" []]).set (A.length + 1) (.ins "Tree" [("held", .tup [])]) = A ++ [.dct [], .ins "Tree" [("held", .tup [])]] := by
    simp
  rw [e] at fi
  simp only [defM, sSeq, sIf, sSet, sRet, sRetN, sExpr, sNext, sFld_def, sSub, sRaise, eVar, eC, eBin, eUn, tB', eB, bNot, bAnd, bOr, bIf, eIf, eAnd, eOr, eNot, aNil, aCons, eTup, aLst, eFrz, eRef, pN, pA, pK, pAK, eCall, eMeth_def, eFld_def, eMake_def, bind_ok, bind_err, bind_bad, fs_ok, fs_err, fs_bad, List.map_cons, List.map_nil, List.length_cons, List.length_nil, List.replicate, List.cons_append, List.nil_append, List.getElem?_cons_zero, List.getElem?_cons_succ, List.set_cons_zero, List.set_cons_succ, sz0, sz1, sz2, sz3, sz4, sz5, if_true, and_self, Nat.reduceSub, Nat.reduceAdd, Nat.reduceLeDiff, List.lookup_cons, List.lookup_nil, ed, ln, fi]
def treeT : Str := "tree\n"
def treeId : Str := idB (encB treeT)
theorem entries_tree (h : A[t]? = some (.ins "Tree" [("held", .tup [])])) : F_Tree_entries [.ref t] A = .ok (.ref A.length) (A ++ [.dct []]) := by
  have f : fldM "Tree" "held" (.ref t) A = .ok (.tup []) A := fld_at h rfl
  unfold F_Tree_entries b_Tree_entries
  simp only [defM, sSeq, sIf, sSet, sRet, sRetN, sExpr, sNext, sFld_def, sSub, sRaise, eVar, eC, eBin, eUn, tB', eB, bNot, bAnd, bOr, bIf, eIf, eAnd, eOr, eNot, aNil, aCons, eTup, aLst, eFrz, eRef, pN, pA, pK, pAK, eCall, eMeth_def, eFld_def, eMake_def, bind_ok, bind_err, bind_bad, fs_ok, fs_err, fs_bad, List.map_cons, List.map_nil, List.length_cons, List.length_nil, List.replicate, List.cons_append, List.nil_append, List.getElem?_cons_zero, List.getElem?_cons_succ, List.set_cons_zero, List.set_cons_succ, sz0, sz1, sz2, sz3, sz4, sz5, if_true, and_self, Nat.reduceSub, Nat.reduceAdd, Nat.reduceLeDiff, List.lookup_cons, List.lookup_nil, eDc, iSeq, f, tupOf, dRun]
theorem encode_tree_ok (h : A[t]? = some (.ins "Tree" [("held", .tup [])])) : F_encode_tree [.ref t] A = .ok (.str treeT) (A ++ [.lst [.str treeT], .lkd []]) := by
  have h1 : (A ++ [MO.lst [.str treeT]])[t]? = some (.ins "Tree" [("held", .tup [])]) := app_at h
  have ln : (A ++ [MO.lst [.str treeT]]).length = A.length + 1 := by simp
  have pe : propM "Tree" F_Tree_entries (.ref t) (A ++ [.lst [.str treeT]]) = .ok (.ref (A.length + 1)) (A ++ [.lst [.str treeT], .dct []]) := by
    have q := entries_tree h1
    rw [ln] at q
    unfold propM
    rw [insN_at h1]
    dsimp only
    rw [if_pos rfl, q]
    simp
  have n1 : (A ++ [MO.lst [.str treeT], .dct []])[A.length + 1]? = some (.dct []) := by simp
  have st : (A ++ [MO.lst [.str treeT], .dct []]).set (A.length + 1) (.lkd []) = A ++ [.lst [.str treeT], .lkd []] := by simp
  have n2 : (A ++ [MO.lst [.str treeT], .lkd []])[A.length + 1]? = some (.lkd []) := by simp
  have n3 : (A ++ [MO.lst [.str treeT], .lkd []])[A.length]? = some (.lst [.str treeT]) := by simp
  have lk : lkdOf (A ++ [MO.lst [.str treeT], .lkd []]) (.ref (A.length + 1)) = some [] := by
    unfold lkdOf
    dsimp only
    rw [n2]
  have jn : eJoin (eC (.str "")) (eVar 1) [some (.ref t), some (.ref A.length), none, none, none] (A ++ [MO.lst [.str treeT], .lkd []]) = .ok (.str treeT) (A ++ [MO.lst [.str treeT], .lkd []]) := by
    have sa : strsA (A ++ [MO.lst [.str treeT], .lkd []]) (.ref A.length) = some [treeT] := by
      unfold strsA
      dsimp only [tupOf]
      rw [lstV_at n3]
      rfl
    unfold eJoin
    simp only [defM, sSeq, sIf, sSet, sRet, sRetN, sExpr, sNext, sFld_def, sSub, sRaise, eVar, eC, eBin, eUn, tB', eB, bNot, bAnd, bOr, bIf, eIf, eAnd, eOr, eNot, aNil, aCons, eTup, aLst, eFrz, eRef, pN, pA, pK, pAK, eCall, eMeth_def, eFld_def, eMake_def, bind_ok, bind_err, bind_bad, fs_ok, fs_err, fs_bad, List.map_cons, List.map_nil, List.length_cons, List.length_nil, List.replicate, List.cons_append, List.nil_append, List.getElem?_cons_zero, List.getElem?_cons_succ, List.set_cons_zero, List.set_cons_succ, sz0, sz1, sz2, sz3, sz4, sz5, if_true, and_self, Nat.reduceSub, Nat.reduceAdd, Nat.reduceLeDiff, List.lookup_cons, List.lookup_nil, sa]
    rfl
  have tt : ("tree\n" : Str) = treeT := rfl
  unfold F_encode_tree b_encode_tree
  simp only [defM, sSeq, sIf, sSet, sRet, sRetN, sExpr, sNext, sFld_def, sSub, sRaise, eVar, eC, eBin, eUn, tB', eB, bNot, bAnd, bOr, bIf, eIf, eAnd, eOr, eNot, aNil, aCons, eTup, aLst, eFrz, eRef, pN, pA, pK, pAK, eCall, eMeth_def, eFld_def, eMake_def, bind_ok, bind_err, bind_bad, fs_ok, fs_err, fs_bad, List.map_cons, List.map_nil, List.length_cons, List.length_nil, List.replicate, List.cons_append, List.nil_append, List.getElem?_cons_zero, List.getElem?_cons_succ, List.set_cons_zero, List.set_cons_succ, sz0, sz1, sz2, sz3, sz4, sz5, if_true, and_self, Nat.reduceSub, Nat.reduceAdd, Nat.reduceLeDiff, List.lookup_cons, List.lookup_nil, tt, sFor, Mv.iItems, eFz, eProp_def, pe, n1, lkO, st, lk, runL, jn]
theorem id_tree (h : A[t]? = some (.ins "Tree" [("held", .tup [])])) : F_id_of [.ref t, .bl false] A = .ok (.str treeId) (A ++ [.lst [.str treeT], .lkd []]) := by
  have i1 : isiG own_ [.ref t, .glo "Blob"] A = .ok (.bl false) A := isi_own h (by decide) (by decide)
  have i2 : isiG own_ [.ref t, .glo "Tree"] A = .ok (.bl true) A := isi_own h (by decide) (by decide)
  have ee : ∀ {B : AH} {ρ : ME}, ρ[1]? = some (some (.str treeT)) → eEnc (eVar 1) ρ B = .ok (.byt (encB treeT)) B := fun {B ρ} q => by
    unfold eEnc eVar
    rw [q, bind_ok]
    dsimp only
    rw [if_pos ⟨by decide, by decide⟩]
  have en : F_encode [.ref t] A = .ok (.byt (encB treeT)) (A ++ [.lst [.str treeT], .lkd []]) := by
    unfold F_encode b_encode
    simp only [defM, sSeq, sIf, sSet, sRet, sRetN, sExpr, sNext, sFld_def, sSub, sRaise, eVar, eC, eBin, eUn, tB', eB, bNot, bAnd, bOr, bIf, eIf, eAnd, eOr, eNot, aNil, aCons, eTup, aLst, eFrz, eRef, pN, pA, pK, pAK, eCall, eMeth_def, eFld_def, eMake_def, bind_ok, bind_err, bind_bad, fs_ok, fs_err, fs_bad, List.map_cons, List.map_nil, List.length_cons, List.length_nil, List.replicate, List.cons_append, List.nil_append, List.getElem?_cons_zero, List.getElem?_cons_succ, List.set_cons_zero, List.set_cons_succ, sz0, sz1, sz2, sz3, sz4, sz5, if_true, and_self, Nat.reduceSub, Nat.reduceAdd, Nat.reduceLeDiff, List.lookup_cons, List.lookup_nil, is_object_tree h, Bool.not_true, i1, i2, encode_tree_ok h]
    rw [ee rfl]
    simp only [defM, sSeq, sIf, sSet, sRet, sRetN, sExpr, sNext, sFld_def, sSub, sRaise, eVar, eC, eBin, eUn, tB', eB, bNot, bAnd, bOr, bIf, eIf, eAnd, eOr, eNot, aNil, aCons, eTup, aLst, eFrz, eRef, pN, pA, pK, pAK, eCall, eMeth_def, eFld_def, eMake_def, bind_ok, bind_err, bind_bad, fs_ok, fs_err, fs_bad, List.map_cons, List.map_nil, List.length_cons, List.length_nil, List.replicate, List.cons_append, List.nil_append, List.getElem?_cons_zero, List.getElem?_cons_succ, List.set_cons_zero, List.set_cons_succ, sz0, sz1, sz2, sz3, sz4, sz5, if_true, and_self, Nat.reduceSub, Nat.reduceAdd, Nat.reduceLeDiff, List.lookup_cons, List.lookup_nil]
  unfold F_id_of b_id_of
  simp only [defM, sSeq, sIf, sSet, sRet, sRetN, sExpr, sNext, sFld_def, sSub, sRaise, eVar, eC, eBin, eUn, tB', eB, bNot, bAnd, bOr, bIf, eIf, eAnd, eOr, eNot, aNil, aCons, eTup, aLst, eFrz, eRef, pN, pA, pK, pAK, eCall, eMeth_def, eFld_def, eMake_def, bind_ok, bind_err, bind_bad, fs_ok, fs_err, fs_bad, List.map_cons, List.map_nil, List.length_cons, List.length_nil, List.replicate, List.cons_append, List.nil_append, List.getElem?_cons_zero, List.getElem?_cons_succ, List.set_cons_zero, List.set_cons_succ, sz0, sz1, sz2, sz3, sz4, sz5, if_true, and_self, Nat.reduceSub, Nat.reduceAdd, Nat.reduceLeDiff, List.lookup_cons, List.lookup_nil, en, gkw, List.zip_cons_cons, List.zip_nil_right, List.getD_cons_zero, List.append_nil, sum_of_ok]
  rfl
theorem put_tree (h : A[t]? = some (.ins "Tree" [("held", .tup [])])) (hs : A[s]? = some (.ins "Store" [("short", .bl false), ("kept", .ref k)])) (hk : A[k]? = some (.dct [])) :
    F_Store_put [.ref s, .ref t] A = .ok (.str treeId) ((A ++ [MO.lst [.str treeT], .lkd []]).set k (.dct (mapK MV.ref [(treeId, t)]))) := by
  let A1 : AH := A ++ [.lst [.str treeT], .lkd []]
  have id1 : F_id_of [.ref t, .bl false] A = .ok (.str treeId) A1 := id_tree h
  have h1 : A1[t]? = some (.ins "Tree" [("held", .tup [])]) := app_at h
  have s1 : A1[s]? = some (.ins "Store" [("short", .bl false), ("kept", .ref k)]) := app_at hs
  have k1 : A1[k]? = some (.dct (mapK MV.ref ([] : Tb Nat))) := app_at hk
  have f0 : fldM "Store" "short" (.ref s) A = .ok (.bl false) A := fld_at hs rfl
  have f1 : fldM "Store" "kept" (.ref s) A1 = .ok (.ref k) A1 := fld_at s1 rfl
  have db : dctB A1 (.ref k) = true := by unfold dctB; rw [dctV_at k1]; rfl
  have gv : valM (mapK MV.ref ([] : Tb Nat)) (.inr treeId) = none := rfl
  have g2 : eGet2 (eFld "Store" "kept" (eVar 0)) (eVar 2) (eVar 1) [some (.ref s), some (.ref t), some (.str treeId)] A1 = .ok (.ref t) A1 := by
    unfold eGet2
    simp only [defM, sSeq, sIf, sSet, sRet, sRetN, sExpr, sNext, sFld_def, sSub, sRaise, eVar, eC, eBin, eUn, tB', eB, bNot, bAnd, bOr, bIf, eIf, eAnd, eOr, eNot, aNil, aCons, eTup, aLst, eFrz, eRef, pN, pA, pK, pAK, eCall, eMeth_def, eFld_def, eMake_def, bind_ok, bind_err, bind_bad, fs_ok, fs_err, fs_bad, List.map_cons, List.map_nil, List.length_cons, List.length_nil, List.replicate, List.cons_append, List.nil_append, List.getElem?_cons_zero, List.getElem?_cons_succ, List.set_cons_zero, List.set_cons_succ, sz0, sz1, sz2, sz3, sz4, sz5, if_true, and_self, Nat.reduceSub, Nat.reduceAdd, Nat.reduceLeDiff, List.lookup_cons, List.lookup_nil, f1, db, dctV_at k1, keyOf, gv, Option.getD_none]
  have fh : fldM "Tree" "held" (.ref t) A1 = .ok (.tup []) A1 := fld_at h1 rfl
  have eq : F_Tree___eq__ [.ref t, .ref t] A1 = .ok (.bl true) A1 := by
    have i2 : isiG own_ [.ref t, .glo "Tree"] A1 = .ok (.bl true) A1 := isi_own h1 (by decide) (by decide)
    have es : eqM (.tup []) (.tup []) A1 = .ok (.bl true) A1 := rfl
    unfold F_Tree___eq__ b_Tree___eq__
    simp only [defM, sSeq, sIf, sSet, sRet, sRetN, sExpr, sNext, sFld_def, sSub, sRaise, eVar, eC, eBin, eUn, tB', eB, bNot, bAnd, bOr, bIf, eIf, eAnd, eOr, eNot, aNil, aCons, eTup, aLst, eFrz, eRef, pN, pA, pK, pAK, eCall, eMeth_def, eFld_def, eMake_def, bind_ok, bind_err, bind_bad, fs_ok, fs_err, fs_bad, List.map_cons, List.map_nil, List.length_cons, List.length_nil, List.replicate, List.cons_append, List.nil_append, List.getElem?_cons_zero, List.getElem?_cons_succ, List.set_cons_zero, List.set_cons_succ, sz0, sz1, sz2, sz3, sz4, sz5, if_true, and_self, Nat.reduceSub, Nat.reduceAdd, Nat.reduceLeDiff, List.lookup_cons, List.lookup_nil, i2, fh, es]
  have cg : cmpG own_ eq_T true neM (.ref t) (.ref t) A1 = .ok (.bl false) A1 := by
    unfold cmpG
    rw [insN_at h1]
    dsimp only
    rw [clsT_own h1 (by decide), show eq_T.lookup ("Tree" : Str) = some F_Tree___eq__ from rfl]
    dsimp only
    rw [eq]
    rfl
  have st : setM (.ref k) (.str treeId) (.ref t) A1 = some (A1.set k (.dct (mapK MV.ref [(treeId, t)]))) := setM_dct (f := MV.ref) k1 (by decide)
  unfold F_Store_put b_Store_put
  simp only [defM, sSeq, sIf, sSet, sRet, sRetN, sExpr, sNext, sFld_def, sSub, sRaise, eVar, eC, eBin, eUn, tB', eB, bNot, bAnd, bOr, bIf, eIf, eAnd, eOr, eNot, aNil, aCons, eTup, aLst, eFrz, eRef, pN, pA, pK, pAK, eCall, eMeth_def, eFld_def, eMake_def, bind_ok, bind_err, bind_bad, fs_ok, fs_err, fs_bad, List.map_cons, List.map_nil, List.length_cons, List.length_nil, List.replicate, List.cons_append, List.nil_append, List.getElem?_cons_zero, List.getElem?_cons_succ, List.set_cons_zero, List.set_cons_succ, sz0, sz1, sz2, sz3, sz4, sz5, if_true, and_self, Nat.reduceSub, Nat.reduceAdd, Nat.reduceLeDiff, List.lookup_cons, List.lookup_nil, is_object_tree h, Bool.not_true, f0, gkw, List.zip_cons_cons, List.zip_nil_right, List.getD_cons_zero, List.append_nil, id1, g2, cg, f1, st]
  rfl
end
end Rp
/-! SpH: draws, shuffles -/
namespace Rp
open PySem PySem.Spec PyProof.Rows Mv Rf
def srcO (a b c : Int) : MO := .lst [.int a, .int b, .int c]
structure Src (A : AH) (s : Nat) : Prop where
  ex : ∃ a b c : Int, A[s]? = some (srcO a b c)
theorem draw_ok {A : AH} {s : Nat} {k : Int} (h : Src A s) (hk : 0 < k) (hk2 : k ≤ 1000) : ∃ (d a b c : Int), F__law_draw [.ref s, .int k] A = .ok (.int d) (A.set s (srcO a b c)) ∧ 0 ≤ d ∧ d < k := by
  obtain ⟨a, b, c, h⟩ := h
  unfold srcO at h
  have i0 : ixM (.ref s) (.int 0) A = .ok (.int a) A := ix_lst h rfl
  have i2 : ixM (.ref s) (.int 2) A = .ok (.int c) A := ix_lst h rfl
  have hk3 : 0 < k ∧ k < 2 ^ 64 := ⟨hk, by omega⟩
  by_cases ha : 0 < a
  · refine ⟨a % k, a / k, b, c, ?_, (emod_lt hk).1, (emod_lt hk).2⟩
    have st : setM (.ref s) (.int 0) (.int (a / k)) A = some (A.set s (.lst [.int (a / k), .int b, .int c])) := set_src (m := 0) h rfl
    unfold F__law_draw b__law_draw srcO
    simp only [defM, sSeq, sIf, sSet, sRet, sRetN, sExpr, sNext, sFld_def, sSub, sRaise, eVar, eC, eBin, eUn, tB', eB, bNot, bAnd, bOr, bIf, eIf, eAnd, eOr, eNot, aNil, aCons, eTup, aLst, eFrz, eRef, pN, pA, pK, pAK, eCall, eMeth_def, eFld_def, eMake_def, bind_ok, bind_err, bind_bad, fs_ok, fs_err, fs_bad, List.map_cons, List.map_nil, List.length_cons, List.length_nil, List.replicate, List.cons_append, List.nil_append, List.getElem?_cons_zero, List.getElem?_cons_succ, List.set_cons_zero, List.set_cons_succ, sz0, sz1, sz2, sz3, sz4, sz5, if_true, and_self, Nat.reduceSub, Nat.reduceAdd, Nat.reduceLeDiff, List.lookup_cons, List.lookup_nil, i0, gtM, decide_eq_true ha, intM, modM, if_pos hk, fdivM, if_pos hk3, st]
  · have h' : (A.set s (.lst [.int a, .int b, .int (c + 1)]))[s]? = some (.lst [.int a, .int b, .int (c + 1)]) := set_at h
    have j1 : ixM (.ref s) (.int 1) (A.set s (.lst [.int a, .int b, .int (c + 1)])) = .ok (.int b) (A.set s (.lst [.int a, .int b, .int (c + 1)])) := ix_lst h' rfl
    have j2 : ixM (.ref s) (.int 2) (A.set s (.lst [.int a, .int b, .int (c + 1)])) = .ok (.int (c + 1)) (A.set s (.lst [.int a, .int b, .int (c + 1)])) := ix_lst h' rfl
    have sm1 : small 104729 = true := by decide
    have sm2 : small 48271 = true := by decide
    generalize hx : (b + 104729 * (c + 1) + 1) * 48271 % 2147483647 = x
    generalize hy : x * (x / 1009 + 69621) % 2147483647 = y
    have q1 : (0 : Int) < 2147483647 := by decide
    have q3 : (0 : Int) < 2147483399 := by decide
    have q4 : (0 : Int) < 1009 ∧ (1009 : Int) < 2 ^ 64 := by decide
    have q5 : (0 : Int) < 2003 ∧ (2003 : Int) < 2 ^ 64 := by decide
    have x1 : 0 ≤ x ∧ x < 2147483647 := by rw [← hx]; exact emod_lt q1
    have y1 : 0 ≤ y ∧ y < 2147483647 := by rw [← hy]; exact emod_lt q1
    have s1 : (small x || small (x / 1009 + 69621)) = true := by
      have : small x = true := by unfold small; simp only [Bool.and_eq_true, decide_eq_true_eq]; omega
      rw [this]; rfl
    have s2 : (small y || small (y / 2003 + 40692)) = true := by
      have : small y = true := by unfold small; simp only [Bool.and_eq_true, decide_eq_true_eq]; omega
      rw [this]; rfl
    refine ⟨y * (y / 2003 + 40692) % 2147483399 % k, a, b, c + 1, ?_, (emod_lt hk).1, (emod_lt hk).2⟩
    have st : setM (.ref s) (.int 2) (.int (c + 1)) A = some (A.set s (.lst [.int a, .int b, .int (c + 1)])) := set_src (m := 2) h rfl
    unfold F__law_draw b__law_draw srcO
    simp only [defM, sSeq, sIf, sSet, sRet, sRetN, sExpr, sNext, sFld_def, sSub, sRaise, eVar, eC, eBin, eUn, tB', eB, bNot, bAnd, bOr, bIf, eIf, eAnd, eOr, eNot, aNil, aCons, eTup, aLst, eFrz, eRef, pN, pA, pK, pAK, eCall, eMeth_def, eFld_def, eMake_def, bind_ok, bind_err, bind_bad, fs_ok, fs_err, fs_bad, List.map_cons, List.map_nil, List.length_cons, List.length_nil, List.replicate, List.cons_append, List.nil_append, List.getElem?_cons_zero, List.getElem?_cons_succ, List.set_cons_zero, List.set_cons_succ, sz0, sz1, sz2, sz3, sz4, sz5, if_true, and_self, Nat.reduceSub, Nat.reduceAdd, Nat.reduceLeDiff, List.lookup_cons, List.lookup_nil, i0, i2, gtM, decide_eq_false ha, st, addM, j1, j2, mulM, sm1, sm2, intM, modM, hx, if_pos q1, fdivM, if_pos q4, s1, hy, if_pos q5, s2, if_pos q3, if_pos hk, Bool.true_or, Bool.or_true, if_true]
theorem Src.set {A : AH} {s : Nat} (h : Src A s) (a b c : Int) : Src (A.set s (srcO a b c)) s := by
  obtain ⟨a', b', c', e⟩ := h
  exact ⟨a, b, c, set_at e⟩
def popAtM (v w : MV) (A : AH) : Rs MV := match lstW A v, w with
    | some (n, xs), .int i => if -1000000 ≤ i ∧ i ≤ 1000000 then (match seqIndex? i xs.length with
      | some j => (match xs[j]? with
        | some y => .ok y (A.set n (.lst (xs.eraseIdx j)))
        | none => .bad)
      | none => .bad) else .bad
    | _, _ => .bad
theorem ePopAt_def {fo fe : FE} {ρ : ME} {A : AH} : ePopAt fo fe ρ A = (fo ρ A).bind fun v A => if lstB A v then (fe ρ A).bind (popAtM v) else .bad := rfl
theorem seqIx {i : Int} {n : Nat} (h0 : 0 ≤ i) (h1 : i < n) : seqIndex? i n = some i.toNat := by
  unfold seqIndex?
  simp [show ¬ i < 0 by omega, h0, h1]
theorem erase_map {α β : Type} (f : α → β) : ∀ (L : List α) (j : Nat), (L.map f).eraseIdx j = (L.eraseIdx j).map f
  | [], _ => rfl
  | _ :: _, 0 => rfl
  | a :: L, j + 1 => by
    show f a :: (L.map f).eraseIdx j = f a :: (L.eraseIdx j).map f
    rw [erase_map f L j]
theorem popAt_strs {A : AH} {n : Nat} {L : List Str} {i : Int} (h : A[n]? = some (.lst (L.map MV.str))) (h0 : 0 ≤ i) (h1 : i < L.length) (hl : L.length ≤ 1000) : ∃ y, L[i.toNat]? = some y ∧ popAtM (.ref n) (.int i) A = .ok (.str y) (A.set n (.lst ((L.eraseIdx i.toNat).map MV.str))) := by
  obtain ⟨y, hy⟩ : ∃ y, L[i.toNat]? = some y := ⟨_, List.getElem?_eq_getElem (by omega)⟩
  refine ⟨y, hy, ?_⟩
  unfold popAtM
  rw [lstW_at h]
  dsimp only
  rw [if_pos ⟨by omega, by omega⟩, seqIx h0 (by rw [List.length_map]; exact h1)]
  dsimp only
  rw [List.getElem?_map, hy]
  dsimp only [Option.map_some]
  rw [erase_map]
def shC : FB := (tB' (eBin neM (eVar 2) (eFrz (aLst aNil))))
def shB : FS := (sExpr (eApp (eVar 3) (ePopAt (eVar 2) (eCall 2 0 (fun ms _ => ms) F__law_draw (pA (aCons (eVar 0) (aCons (fun ρ A => ((aCons (eVar 2) aNil) ρ A).bind lenM) aNil)))))))
def shR : FS := (sRet (eVar 3))
theorem sh_def : b__law_shuffled = sSeq (sPar 2 3 (aCons (eRef (fun ρ A => ((aCons (eVar 1) aNil) ρ A).bind listL)) (aCons (eRef (aLst aNil)) aNil))) (sSeq (sWhile shC shB) shR) := rfl
theorem len_ref {A : AH} {n : Nat} {xs : List MV} (h : A[n]? = some (.lst xs)) : lenM [.ref n] A = .ok (.int (xs.length : Nat)) A := by
  unfold lenM
  dsimp only [tupOf]
  rw [lstV_at h]
theorem perm_erase {L : List Str} {j : Nat} {y : Str} (h : L[j]? = some y) : L.Perm (y :: L.eraseIdx j) := by
  induction L generalizing j with
  | nil => cases h
  | cons a L ih =>
    cases j with
    | zero =>
      cases h
      exact List.Perm.refl _
    | succ j => exact ((ih h).cons a).trans (List.Perm.swap ..)
/-- a shuffle's loop -/
theorem sh_loop {s l g : Nat} {x1 : Option MV} : ∀ (m : Nat) {A : AH} {L G : List Str}, Src A s → A[l]? = some (.lst (L.map MV.str)) → A[g]? = some (.lst (G.map MV.str)) → l ≠ g → s ≠ l → s ≠ g → L.length < m → L.length + G.length ≤ 900 →
    ∃ (G' : List Str) (A' : AH), runW shC shB m [some (.ref s), x1, some (.ref l), some (.ref g)] A = .nx [some (.ref s), x1, some (.ref l), some (.ref g)] A' ∧ Fr (fun n => n = s ∨ n = l ∨ n = g) A A' ∧ A'.length = A.length ∧ Src A' s ∧ A'[g]? = some (.lst (G'.map MV.str)) ∧ G'.Perm (L ++ G)
  | 0, A, L, G, _, _, _, _, _, _, hm, _ => absurd hm (Nat.not_lt_zero _)
  | m + 1, A, L, G, S, hl, hg, n1, n2, n3, hm, hs => by
    have nn := ne_ref_nil hl
    cases L with
    | nil =>
      refine ⟨G, A, ?_, Fr.refl, rfl, S, hg, List.Perm.refl _⟩
      unfold runW shC
      simp only [defM, sSeq, sIf, sSet, sRet, sRetN, sExpr, sNext, sFld_def, sSub, sRaise, eVar, eC, eBin, eUn, tB', eB, bNot, bAnd, bOr, bIf, eIf, eAnd, eOr, eNot, aNil, aCons, eTup, aLst, eFrz, eRef, pN, pA, pK, pAK, eCall, eMeth_def, eFld_def, eMake_def, bind_ok, bind_err, bind_bad, fs_ok, fs_err, fs_bad, List.map_cons, List.map_nil, List.length_cons, List.length_nil, List.replicate, List.cons_append, List.nil_append, List.getElem?_cons_zero, List.getElem?_cons_succ, List.set_cons_zero, List.set_cons_succ, sz0, sz1, sz2, sz3, sz4, sz5, if_true, and_self, Nat.reduceSub, Nat.reduceAdd, Nat.reduceLeDiff, List.lookup_cons, List.lookup_nil, nn, List.isEmpty_nil, Bool.not_true]
    | cons z L =>
      rw [List.length_cons] at hm hs
      obtain ⟨d, a, b, c, e, d0, d1⟩ := draw_ok S (k := ((z :: L).length : Int)) (by rw [List.length_cons]; omega) (by rw [List.length_cons]; omega)
      obtain ⟨a0, b0, c0, hsrc⟩ := S
      have l1 : (A.set s (srcO a b c))[l]? = some (.lst ((z :: L).map MV.str)) := by rw [set_ne n2]; exact hl
      obtain ⟨y, hy, ep⟩ := popAt_strs l1 d0 d1 (by rw [List.length_cons]; omega)
      let A2 : AH := (A.set s (srcO a b c)).set l (.lst (((z :: L).eraseIdx d.toNat).map MV.str))
      have g2 : A2[g]? = some (.lst (G.map MV.str)) := by
        show (List.set _ _ _)[g]? = _
        rw [set_ne n1, set_ne n3]
        exact hg
      have ap := appM_at (y := MV.str y) g2 (by rw [List.length_map]; omega)
      let A3 : AH := A2.set g (.lst ((G ++ [y]).map MV.str))
      have eA3 : A2.set g (.lst (G.map MV.str ++ [MV.str y])) = A3 := by
        show _ = List.set _ _ _
        rw [List.map_append]
        rfl
      rw [eA3] at ap
      have s3 : Src A3 s := ⟨a, b, c, by
        show (List.set (List.set _ _ _) _ _)[s]? = _
        rw [set_ne (Ne.symm n3), set_ne (Ne.symm n2)]
        exact set_at hsrc⟩
      have l3 : A3[l]? = some (.lst (((z :: L).eraseIdx d.toNat).map MV.str)) := by
        show (List.set _ _ _)[l]? = _
        rw [set_ne (Ne.symm n1)]
        exact set_at l1
      have g3 : A3[g]? = some (.lst ((G ++ [y]).map MV.str)) := set_at g2
      have le : ((z :: L).eraseIdx d.toNat).length = L.length := by
        rw [List.length_eraseIdx_of_lt (by rw [List.length_cons] at *; omega), List.length_cons]
        omega
      obtain ⟨G', A', e', f', l', S', h', P'⟩ := sh_loop (x1 := x1) m s3 l3 g3 n1 n2 n3 (by rw [le]; omega) (by rw [le, List.length_append, List.length_cons, List.length_nil]; omega)
      have f3 : Fr (fun n => n = s ∨ n = l ∨ n = g) A A3 := ((Fr.set (.inl rfl)).trans (Fr.set (.inr (.inl rfl)))).trans (Fr.set (.inr (.inr rfl)))
      refine ⟨G', A', ?_, f3.trans f', by rw [l']; simp [A3, A2], S', h', ?_⟩
      · have ie : (z :: L).isEmpty = false := rfl
        rw [ie] at nn
        have hc : shC [some (.ref s), x1, some (.ref l), some (.ref g)] A = .ok true A := by
          unfold shC
          simp only [defM, sSeq, sIf, sSet, sRet, sRetN, sExpr, sNext, sFld_def, sSub, sRaise, eVar, eC, eBin, eUn, tB', eB, bNot, bAnd, bOr, bIf, eIf, eAnd, eOr, eNot, aNil, aCons, eTup, aLst, eFrz, eRef, pN, pA, pK, pAK, eCall, eMeth_def, eFld_def, eMake_def, bind_ok, bind_err, bind_bad, fs_ok, fs_err, fs_bad, List.map_cons, List.map_nil, List.length_cons, List.length_nil, List.replicate, List.cons_append, List.nil_append, List.getElem?_cons_zero, List.getElem?_cons_succ, List.set_cons_zero, List.set_cons_succ, sz0, sz1, sz2, sz3, sz4, sz5, if_true, and_self, Nat.reduceSub, Nat.reduceAdd, Nat.reduceLeDiff, List.lookup_cons, List.lookup_nil, nn, Bool.not_false]
        have lr := len_ref hl
        rw [List.length_map] at lr
        have hb : shB [some (.ref s), x1, some (.ref l), some (.ref g)] A = .nx [some (.ref s), x1, some (.ref l), some (.ref g)] A3 := by
          have ep' : popAtM (.ref l) (.int d) (A.set s (srcO a b c)) = .ok (.str y) A2 := ep
          obtain ⟨q, hq⟩ : ∃ q : Int, q = ((z :: L).length : Int) := ⟨_, rfl⟩
          rw [← hq] at lr e
          unfold shB
          simp only [defM, sSeq, sIf, sSet, sRet, sRetN, sExpr, sNext, sFld_def, sSub, sRaise, eVar, eC, eBin, eUn, tB', eB, bNot, bAnd, bOr, bIf, eIf, eAnd, eOr, eNot, aNil, aCons, eTup, aLst, eFrz, eRef, pN, pA, pK, pAK, eCall, eMeth_def, eFld_def, eMake_def, bind_ok, bind_err, bind_bad, fs_ok, fs_err, fs_bad, List.map_cons, List.map_nil, List.length_cons, List.length_nil, List.replicate, List.cons_append, List.nil_append, List.getElem?_cons_zero, List.getElem?_cons_succ, List.set_cons_zero, List.set_cons_succ, sz0, sz1, sz2, sz3, sz4, sz5, if_true, and_self, Nat.reduceSub, Nat.reduceAdd, Nat.reduceLeDiff, List.lookup_cons, List.lookup_nil, eApp_def, lstB_at hg, ePopAt_def, lstB_at hl, lr, e, ep', ap]
        unfold runW
        rw [hc]
        show (match shB [some (.ref s), x1, some (.ref l), some (.ref g)] A with
          | .nx ρ' A' => runW shC shB m ρ' A'
          | .ct ρ' A' => runW shC shB m ρ' A'
          | .bk ρ' A' => .nx ρ' A'
          | r => r) = _
        rw [hb]
        exact e'
      · refine P'.trans ?_
        have p1 := perm_erase hy
        have p2 : ((z :: L).eraseIdx d.toNat ++ (G ++ [y])).Perm (y :: (z :: L).eraseIdx d.toNat ++ G) := by
          rw [← List.append_assoc]
          refine List.perm_append_comm.trans ?_
          exact List.Perm.refl _
        exact p2.trans (p1.symm.append_right G)
theorem shuffled_ok {A : AH} {s : Nat} {xs : List Str} (S : Src A s) (hl : xs.length ≤ 900) : ∃ (G : List Str) (A' : AH), F__law_shuffled [.ref s, .lst (xs.map MV.str)] A = .ok (.ref (A.length + 1)) A' ∧ Fr (fun n => n = s) A A' ∧ Src A' s ∧ A'[A.length + 1]? = some (.lst (G.map MV.str)) ∧ G.Perm xs := by
  let A1 : AH := A ++ [.lst (xs.map MV.str)] ++ [.lst []]
  have l0 : (A ++ [MO.lst (xs.map MV.str)]).length = A.length + 1 := by simp
  have S1 : Src A1 s := by
    obtain ⟨a, b, c, e⟩ := S
    exact ⟨a, b, c, app_at (app_at e)⟩
  have hs : s < A.length := by
    obtain ⟨a, b, c, e⟩ := S
    exact at_lt e
  have h1 : A1[A.length]? = some (.lst (xs.map MV.str)) := app_at new_at
  have h2 : A1[A.length + 1]? = some (.lst (([] : List Str).map MV.str)) := by rw [← l0]; exact new_at
  obtain ⟨G, A', e, f, l, S', h', P⟩ := sh_loop (x1 := some (.lst (xs.map MV.str))) 100000 S1 h1 h2 (by omega) (by omega) (by omega) (by omega) (by rw [List.length_nil]; omega)
  refine ⟨G, A', ?_, ?_, S', h', by rw [List.append_nil] at P; exact P⟩
  · have ls : listL [.lst (xs.map MV.str)] A = .ok (xs.map MV.str) A := rfl
    have eA1 : A ++ [MO.lst (xs.map MV.str)] ++ [MO.lst []] = A1 := rfl
    unfold F__law_shuffled
    rw [sh_def]
    simp only [defM, sSeq, sIf, sSet, sRet, sRetN, sExpr, sNext, sFld_def, sSub, sRaise, eVar, eC, eBin, eUn, tB', eB, bNot, bAnd, bOr, bIf, eIf, eAnd, eOr, eNot, aNil, aCons, eTup, aLst, eFrz, eRef, pN, pA, pK, pAK, eCall, eMeth_def, eFld_def, eMake_def, bind_ok, bind_err, bind_bad, fs_ok, fs_err, fs_bad, List.map_cons, List.map_nil, List.length_cons, List.length_nil, List.replicate, List.cons_append, List.nil_append, List.getElem?_cons_zero, List.getElem?_cons_succ, List.set_cons_zero, List.set_cons_succ, sz0, sz1, sz2, sz3, sz4, sz5, if_true, and_self, Nat.reduceSub, Nat.reduceAdd, Nat.reduceLeDiff, List.lookup_cons, List.lookup_nil, sPar, ls, l0, eA1, sWhile, e]
    unfold shR
    simp only [defM, sSeq, sIf, sSet, sRet, sRetN, sExpr, sNext, sFld_def, sSub, sRaise, eVar, eC, eBin, eUn, tB', eB, bNot, bAnd, bOr, bIf, eIf, eAnd, eOr, eNot, aNil, aCons, eTup, aLst, eFrz, eRef, pN, pA, pK, pAK, eCall, eMeth_def, eFld_def, eMake_def, bind_ok, bind_err, bind_bad, fs_ok, fs_err, fs_bad, List.map_cons, List.map_nil, List.length_cons, List.length_nil, List.replicate, List.cons_append, List.nil_append, List.getElem?_cons_zero, List.getElem?_cons_succ, List.set_cons_zero, List.set_cons_succ, sz0, sz1, sz2, sz3, sz4, sz5, if_true, and_self, Nat.reduceSub, Nat.reduceAdd, Nat.reduceLeDiff, List.lookup_cons, List.lookup_nil]
  · have q : Fr (fun n => n = s) A A1 := Fr.trans Fr.app Fr.app
    exact q.cut (f.mono fun n z => by rcases z with z | z | z <;> omega)
end Rp
/-! SpI: one turn of _law_history -/
namespace Rp
open PySem PySem.Spec PyProof.Rows Mv Rf
theorem cut_str {L : List Str} {lo hi : Option Int} : cutM (L.map MV.str) lo hi = (cutM L lo hi).map MV.str := by
  unfold cutM
  rw [List.length_map, ← List.map_drop, ← List.map_take]
theorem cut_sub {α : Type} {L : List α} {lo hi : Option Int} : (cutM L lo hi).Sublist L := by
  unfold cutM
  exact (List.take_sublist ..).trans (List.drop_sublist ..)
theorem cut_len {α : Type} {L : List α} {b : Int} (h0 : 0 ≤ b) (h1 : b ≤ 6) : (cutM L none (some b)).length ≤ 6 := by
  have e : HT.sIx L.length L.length (some b) ≤ 6 := by
    unfold HT.sIx
    simp only
    rw [if_neg (by omega)]
    omega
  unfold cutM
  rw [List.length_take]
  omega
def nums : List Int := [0, 1, 2, 3, 4, 5, 6, 7, 8, 9, 10, 11]
theorem text_num : ∀ i ∈ nums, ∀ A : AH, F_is_text [.str (toString i : String), .int 200] A = .ok (.bl true) A :=
  all_mem ⟨fun A => by kernel_rfl, fun A => by kernel_rfl, fun A => by kernel_rfl, fun A => by kernel_rfl, fun A => by kernel_rfl, fun A => by kernel_rfl, fun A => by kernel_rfl, fun A => by kernel_rfl, fun A => by kernel_rfl, fun A => by kernel_rfl, fun A => by kernel_rfl, fun A => by kernel_rfl, trivial⟩
theorem sh_num : ∀ i ∈ nums, Sh 20 (Str.ofString (toString i)) :=
  all_mem ⟨⟨by decide +kernel, by decide +kernel⟩, ⟨by decide +kernel, by decide +kernel⟩, ⟨by decide +kernel, by decide +kernel⟩, ⟨by decide +kernel, by decide +kernel⟩, ⟨by decide +kernel, by decide +kernel⟩, ⟨by decide +kernel, by decide +kernel⟩, ⟨by decide +kernel, by decide +kernel⟩, ⟨by decide +kernel, by decide +kernel⟩, ⟨by decide +kernel, by decide +kernel⟩, ⟨by decide +kernel, by decide +kernel⟩, ⟨by decide +kernel, by decide +kernel⟩, ⟨by decide +kernel, by decide +kernel⟩, trivial⟩
theorem num_mem {i : Int} (h0 : 0 ≤ i) (h1 : i ≤ 11) : i ∈ nums := by
  unfold nums
  simp only [List.mem_cons, List.mem_nil_iff, or_false]
  omega
theorem num_log {i : Int} (h0 : 0 ≤ i) (h1 : i ≤ 11) : i.natAbs.log2 < 1920 := by
  have : ∀ i ∈ nums, i.natAbs.log2 < 1920 := by decide +kernel
  exact this i (num_mem h0 h1)
theorem author_a (A : AH) : F_is_author [.str "a"] A = .ok (.bl true) A := by kernel_rfl
theorem tree_id : IsId treeId := idB_id _
/-- the first commit's id is another one -/
theorem first_ne : ∀ t ∈ ([0, 1, 2] : List Int), idC treeId [] "a" t "0" ≠ treeId := by decide +kernel
end Rp
/-! SpJ: one turn of _law_history -/
namespace Rp
open PySem PySem.Spec PyProof.Rows Mv Rf
def hb1 : FS := (sSet 7 (eFrz (aSl (eVar 5) (oSome (eUn negM (eBin addM (eC (.int 1)) (eCall 2 0 (fun ms _ => ms) F__law_draw (pA (aCons (eVar 0) (aCons (eC (.int 8)) aNil))))))) oNone)))
def hb2 : FS := (sSet 8 (fun ρ A => ((aCons (eFrz (aSl (eCall 2 0 (fun ms _ => ms) F__law_shuffled (pA (aCons (eVar 0) (aCons (eVar 7) aNil)))) oNone (oSome (eBin ixM (eFrz (aLst (aCons (eC (.int 0)) (aCons (eC (.int 1)) (aCons (eC (.int 1)) (aCons (eC (.int 1)) (aCons (eC (.int 2)) (aCons (eC (.int 3)) (aCons (eC (.int 4)) (aCons (eC (.int 6)) aNil)))))))))) (eCall 2 0 (fun ms _ => ms) F__law_draw (pA (aCons (eVar 0) (aCons (eC (.int 8)) aNil)))))))) aNil) ρ A).bind tupleM))
def hb3 : FS := (sSet 9 (eCall 2 0 (fun ms _ => ms) F__law_draw (pA (aCons (eVar 0) (aCons (eC (.int 3)) aNil)))))
def hb4 : FS := (sSet 10 (eMake "Commit" 2 3 (fun ms zs => plan [.kw 0, .kw 1, .kw 2] ms [.tup []] [] zs) F_Commit___init__ (pAK (aCons (eVar 3) (aCons (eVar 8) aNil)) (aCons (eC (.str "a")) (aCons (eVar 9) (aCons (fun ρ A => ((aCons (eVar 6) aNil) ρ A).bind strM) aNil))))))
def hb5 : FS := (sIf (bAnd (tB' (eBin neM (eCall 1 0 (fun ms _ => ms ++ [.bl false]) F_id_of (pA (aCons (eVar 10) aNil))) (eVar 3))) (tB' (eBin notInM (eCall 1 0 (fun ms _ => ms ++ [.bl false]) F_id_of (pA (aCons (eVar 10) aNil))) (eVar 4)))) (sSeq (sSub (eTup (aCons (eVar 8) (aCons (eVar 9) aNil))) (eVar 4) (eMeth "Store" "put" 2 0 (fun ms _ => ms) F_Store_put (eVar 2) (pA (aCons (eVar 10) aNil)))) (sExpr (eApp (eVar 5) (eCall 1 0 (fun ms _ => ms ++ [.bl false]) F_id_of (pA (aCons (eVar 10) aNil)))))) sNext)
def hbB : FS := (sSeq (sSet 7 (eFrz (aSl (eVar 5) (oSome (eUn negM (eBin addM (eC (.int 1)) (eCall 2 0 (fun ms _ => ms) F__law_draw (pA (aCons (eVar 0) (aCons (eC (.int 8)) aNil))))))) oNone))) (sSeq (sSet 8 (fun ρ A => ((aCons (eFrz (aSl (eCall 2 0 (fun ms _ => ms) F__law_shuffled (pA (aCons (eVar 0) (aCons (eVar 7) aNil)))) oNone (oSome (eBin ixM (eFrz (aLst (aCons (eC (.int 0)) (aCons (eC (.int 1)) (aCons (eC (.int 1)) (aCons (eC (.int 1)) (aCons (eC (.int 2)) (aCons (eC (.int 3)) (aCons (eC (.int 4)) (aCons (eC (.int 6)) aNil)))))))))) (eCall 2 0 (fun ms _ => ms) F__law_draw (pA (aCons (eVar 0) (aCons (eC (.int 8)) aNil)))))))) aNil) ρ A).bind tupleM)) (sSeq (sSet 9 (eCall 2 0 (fun ms _ => ms) F__law_draw (pA (aCons (eVar 0) (aCons (eC (.int 3)) aNil))))) (sSeq (sSet 10 (eMake "Commit" 2 3 (fun ms zs => plan [.kw 0, .kw 1, .kw 2] ms [.tup []] [] zs) F_Commit___init__ (pAK (aCons (eVar 3) (aCons (eVar 8) aNil)) (aCons (eC (.str "a")) (aCons (eVar 9) (aCons (fun ρ A => ((aCons (eVar 6) aNil) ρ A).bind strM) aNil)))))) (sIf (bAnd (tB' (eBin neM (eCall 1 0 (fun ms _ => ms ++ [.bl false]) F_id_of (pA (aCons (eVar 10) aNil))) (eVar 3))) (tB' (eBin notInM (eCall 1 0 (fun ms _ => ms ++ [.bl false]) F_id_of (pA (aCons (eVar 10) aNil))) (eVar 4)))) (sSeq (sSub (eTup (aCons (eVar 8) (aCons (eVar 9) aNil))) (eVar 4) (eMeth "Store" "put" 2 0 (fun ms _ => ms) F_Store_put (eVar 2) (pA (aCons (eVar 10) aNil)))) (sExpr (eApp (eVar 5) (eCall 1 0 (fun ms _ => ms ++ [.bl false]) F_id_of (pA (aCons (eVar 10) aNil)))))) sNext)))))
theorem hb_def : hbB = sSeq hb1 (sSeq hb2 (sSeq hb3 (sSeq hb4 hb5))) := rfl
section
variable {A : AH} {s st k fa nm : Nat} {T : Tb Nat} {F : Fa} {x1 x2 x3 x4 x6 x7 x8 x9 x10 : Option MV}
theorem src_fr {A' : AH} {n : Nat} (S : Src A s) (f : Fr (fun m => m = n) A A') (h : s ≠ n) : Src A' s := by
  obtain ⟨a, b, c, e⟩ := S.ex
  exact ⟨a, b, c, f.same _ _ h e⟩
/-- near -/
theorem hb1_ok (S : Src A s) {L : List Str} (hn : A[nm]? = some (.lst (L.map MV.str))) (n1 : s ≠ nm) : ∃ (N : List Str) (A' : AH), hb1 [some (.ref s), x1, x2, x3, x4, some (.ref nm), x6, x7, x8, x9, x10] A = .nx [some (.ref s), x1, x2, x3, x4, some (.ref nm), x6, some (.lst (N.map MV.str)), x8, x9, x10] A' ∧ Fr (fun n => n = s) A A' ∧ Src A' s ∧ N.Sublist L := by
  obtain ⟨d, a, b, c, e, d0, d1⟩ := draw_ok S (k := 8) (by decide) (by decide)
  have h1 : (A.set s (srcO a b c))[nm]? = some (.lst (L.map MV.str)) := by rw [set_ne n1]; exact hn
  refine ⟨cutM L (some (-(1 + d))) none, A.set s (srcO a b c), ?_, Fr.set rfl, S.set a b c, cut_sub⟩
  unfold hb1
  simp only [defM, sSeq, sIf, sSet, sRet, sRetN, sExpr, sNext, sFld_def, sSub, sRaise, eVar, eC, eBin, eUn, tB', eB, bNot, bAnd, bOr, bIf, eIf, eAnd, eOr, eNot, aNil, aCons, eTup, aLst, eFrz, eRef, pN, pA, pK, pAK, eCall, eMeth_def, eFld_def, eMake_def, bind_ok, bind_err, bind_bad, fs_ok, fs_err, fs_bad, List.map_cons, List.map_nil, List.length_cons, List.length_nil, List.replicate, List.cons_append, List.nil_append, List.getElem?_cons_zero, List.getElem?_cons_succ, List.set_cons_zero, List.set_cons_succ, sz0, sz1, sz2, sz3, sz4, sz5, if_true, and_self, Nat.reduceSub, Nat.reduceAdd, Nat.reduceLeDiff, List.lookup_cons, List.lookup_nil, aSl, oSome, oNone, e, addM, negM, lstV_at h1, cut_str]
/-- parents -/
theorem hb2_ok (S : Src A s) {N : List Str} (hN : N.Nodup) (hl : N.length ≤ 900) : ∃ (P : List Str) (A' : AH), hb2 [some (.ref s), x1, x2, x3, x4, some (.ref nm), x6, some (.lst (N.map MV.str)), x8, x9, x10] A = .nx [some (.ref s), x1, x2, x3, x4, some (.ref nm), x6, some (.lst (N.map MV.str)), some (.tup (P.map MV.str)), x9, x10] A' ∧ Fr (fun n => n = s) A A' ∧ Src A' s ∧ P.Nodup ∧ (∀ p ∈ P, p ∈ N) ∧ P.length ≤ 6 := by
  obtain ⟨G, A1, e1, f1, S1, g1, P1⟩ := shuffled_ok S hl
  obtain ⟨d, a, b, c, e2, d0, d1⟩ := draw_ok S1 (k := 8) (by decide) (by decide)
  obtain ⟨v, hv, ev⟩ := atI_mem (xs := [.int 0, .int 1, .int 1, .int 1, .int 2, .int 3, .int 4, .int 6]) d0 d1
  obtain ⟨i, rfl, i0, i1⟩ : ∃ i : Int, v = .int i ∧ 0 ≤ i ∧ i ≤ 6 := by
    simp only [List.mem_cons, List.mem_nil_iff, or_false] at hv
    rcases hv with rfl | rfl | rfl | rfl | rfl | rfl | rfl | rfl
    all_goals exact ⟨_, rfl, by decide, by decide⟩
  have hs : s < A.length := by
    obtain ⟨a, b, c, e⟩ := S.ex
    exact at_lt e
  have g2 : (A1.set s (srcO a b c))[A.length + 1]? = some (.lst (G.map MV.str)) := by rw [set_ne (by omega)]; exact g1
  have ix : ixM (.lst [.int 0, .int 1, .int 1, .int 1, .int 2, .int 3, .int 4, .int 6]) (.int d) (A1.set s (srcO a b c)) = .ok (.int i) (A1.set s (srcO a b c)) := by simp only [ixM, dctV, tupOf, lstV, ev]
  have z8 : ∀ {a b c d e f g h : MV}, szL [a, b, c, d, e, f, g, h] = true := fun {a b c d e f g h} => rfl
  refine ⟨cutM G none (some i), A1.set s (srcO a b c), ?_, f1.trans (Fr.set rfl), S1.set a b c, cut_sub.nodup (P1.nodup_iff.mpr hN), fun p hp => P1.mem_iff.mp (cut_sub.subset hp), cut_len i0 i1⟩
  unfold hb2
  simp only [defM, sSeq, sIf, sSet, sRet, sRetN, sExpr, sNext, sFld_def, sSub, sRaise, eVar, eC, eBin, eUn, tB', eB, bNot, bAnd, bOr, bIf, eIf, eAnd, eOr, eNot, aNil, aCons, eTup, aLst, eFrz, eRef, pN, pA, pK, pAK, eCall, eMeth_def, eFld_def, eMake_def, bind_ok, bind_err, bind_bad, fs_ok, fs_err, fs_bad, List.map_cons, List.map_nil, List.length_cons, List.length_nil, List.replicate, List.cons_append, List.nil_append, List.getElem?_cons_zero, List.getElem?_cons_succ, List.set_cons_zero, List.set_cons_succ, sz0, sz1, sz2, sz3, sz4, sz5, if_true, and_self, Nat.reduceSub, Nat.reduceAdd, Nat.reduceLeDiff, List.lookup_cons, List.lookup_nil, aSl, oNone, oSome, e1, z8, e2, ix, lstV_at g2, cut_str, tuple_lst]
/-- time -/
theorem hb3_ok (S : Src A s) : ∃ (t : Int) (A' : AH), hb3 [some (.ref s), x1, x2, x3, x4, some (.ref nm), x6, x7, x8, x9, x10] A = .nx [some (.ref s), x1, x2, x3, x4, some (.ref nm), x6, x7, x8, some (.int t), x10] A' ∧ Fr (fun n => n = s) A A' ∧ Src A' s ∧ 0 ≤ t ∧ t < 3 := by
  obtain ⟨d, a, b, c, e, d0, d1⟩ := draw_ok S (k := 3) (by decide) (by decide)
  refine ⟨d, A.set s (srcO a b c), ?_, Fr.set rfl, S.set a b c, d0, d1⟩
  unfold hb3
  simp only [defM, sSeq, sIf, sSet, sRet, sRetN, sExpr, sNext, sFld_def, sSub, sRaise, eVar, eC, eBin, eUn, tB', eB, bNot, bAnd, bOr, bIf, eIf, eAnd, eOr, eNot, aNil, aCons, eTup, aLst, eFrz, eRef, pN, pA, pK, pAK, eCall, eMeth_def, eFld_def, eMake_def, bind_ok, bind_err, bind_bad, fs_ok, fs_err, fs_bad, List.map_cons, List.map_nil, List.length_cons, List.length_nil, List.replicate, List.cons_append, List.nil_append, List.getElem?_cons_zero, List.getElem?_cons_succ, List.set_cons_zero, List.set_cons_succ, sz0, sz1, sz2, sz3, sz4, sz5, if_true, and_self, Nat.reduceSub, Nat.reduceAdd, Nat.reduceLeDiff, List.lookup_cons, List.lookup_nil, e]
/-- the commit -/
theorem hb4_ok {P : List Str} {t j : Int} (N : CmNew treeId P "a" t (Str.ofString (toString j))) (hj : j.natAbs.log2 < 1920) : hb4 [some (.ref s), x1, x2, some (.str treeId), x4, some (.ref nm), some (.int j), x7, some (.tup (P.map MV.str)), some (.int t), x10] A = .nx [some (.ref s), x1, x2, some (.str treeId), x4, some (.ref nm), some (.int j), x7, some (.tup (P.map MV.str)), some (.int t), some (.ref A.length)] (A ++ [.ins "Commit" [("held", .tup [.str treeId, .tup (P.map MV.str), .str "a", .int t, .str (Str.ofString (toString j))])]]) := by
  have sm : strM [.int j] A = .ok (.str (Str.ofString (toString j))) A := by
    unfold strM
    dsimp only
    rw [if_pos hj]
  have h1 : (A ++ [MO.ins "Commit" []])[A.length]? = some (.ins "Commit" []) := new_at
  have ci := commit_init N h1
  rw [set_new] at ci
  have pl : plan [.kw 0, .kw 1, .kw 2] [MV.ref A.length, .str treeId, .tup (P.map MV.str)] [.tup []] [] [.str "a", .int t, .str (Str.ofString (toString j))] = [.ref A.length, .str treeId, .tup (P.map MV.str), .str "a", .int t, .str (Str.ofString (toString j))] := rfl
  unfold hb4
  simp only [defM, sSeq, sIf, sSet, sRet, sRetN, sExpr, sNext, sFld_def, sSub, sRaise, eVar, eC, eBin, eUn, tB', eB, bNot, bAnd, bOr, bIf, eIf, eAnd, eOr, eNot, aNil, aCons, eTup, aLst, eFrz, eRef, pN, pA, pK, pAK, eCall, eMeth_def, eFld_def, eMake_def, bind_ok, bind_err, bind_bad, fs_ok, fs_err, fs_bad, List.map_cons, List.map_nil, List.length_cons, List.length_nil, List.replicate, List.cons_append, List.nil_append, List.getElem?_cons_zero, List.getElem?_cons_succ, List.set_cons_zero, List.set_cons_succ, sz0, sz1, sz2, sz3, sz4, sz5, if_true, and_self, Nat.reduceSub, Nat.reduceAdd, Nat.reduceLeDiff, List.lookup_cons, List.lookup_nil, sm, pl, ci]
end
end Rp
/-! SpK: _law_history -/
namespace Rp
open PySem PySem.Spec PyProof.Rows Mv Rf
theorem put_new {β : Type} {T : Tb β} {k : Str} {v : β} (h : k ∉ keys T) : put T k v = T ++ [(k, v)] := by
  unfold put
  rw [if_neg h]
theorem FaOk.add {F : Fa} (ok : FaOk F) {x : Str} {P : List Str} {t : Int} (hx : x ∉ keys F) (hl : F.length < 60) (pl : P.length ≤ 6) (hp : ∀ p ∈ P, p ∈ keys F) : FaOk (put F x (P, t)) := by
  have e : put F x (P, t) = F ++ [(x, (P, t))] := put_new hx
  refine ⟨nodup_put ok.nd, by rw [e, List.length_append]; exact hl, fun p q => ?_, fun A p R q y hy => ?_⟩
  · rw [e] at q
    rcases List.mem_append.mp q with q | q
    · exact ok.pl p q
    · rw [List.mem_singleton.mp q]; exact pl
  · rw [e] at q
    rcases List.eq_nil_or_concat R with rfl | ⟨R', r, rfl⟩
    · obtain ⟨q1, q2⟩ := List.append_inj' q rfl
      rw [← q1]
      have : p = (x, (P, t)) := by
        have := List.cons.inj q2
        exact this.1.symm
      rw [this] at hy
      exact hp y hy
    · rw [List.concat_eq_append, ← List.cons_append, ← List.append_assoc] at q
      obtain ⟨q1, q2⟩ := List.append_inj' q rfl
      exact ok.ord A p R' q1 y hy
structure HB (A : AH) (s st k fa nm : Nat) (T : Tb Nat) (F : Fa) (j : Nat) : Prop where
  src : Src A s
  hst : StAt A st k T F
  kT : ∀ x ∈ keys T, x = treeId ∨ x ∈ keys F
  lT : T.length ≤ j + 1
  hfa : A[fa]? = some (.dct (mapK faV F))
  hnm : A[nm]? = some (.lst ((keys F).map MV.str))
  ok : FaOk F
  lF : F.length ≤ j
  ids : ∀ x ∈ keys F, IsId x
  n1 : s ≠ nm
  n2 : k ≠ fa
  ne : 0 < j → F ≠ []
section
variable {A : AH} {s st k fa nm j : Nat} {T : Tb Nat} {F : Fa} {x1 x6 x7 x8 x9 x10 : Option MV}
theorem HB.fr {A' : AH} (H : HB A s st k fa nm T F j) (f : Fr (fun n => n = s) A A') (S : Src A' s) : HB A' s st k fa nm T F j := by
  obtain ⟨a, b, c, e⟩ := H.src.ex
  have nz : NoIns (fun n => n = s) A := fun n hn C fs q => by
    rw [hn, e] at q
    cases q
  exact ⟨S, H.hst.fr f nz (at_ne H.hst.k e (by intro z; cases z)), H.kT, H.lT, f.same _ _ (at_ne H.hfa e (by intro z; cases z)) H.hfa, f.same _ _ (Ne.symm H.n1) H.hnm, H.ok, H.lF, H.ids, H.n1, H.n2, H.ne⟩
theorem HB.app {l : AH} (H : HB A s st k fa nm T F j) : HB (A ++ l) s st k fa nm T F j := by
  refine H.fr Fr.app ?_
  obtain ⟨a, b, c, e⟩ := H.src.ex
  exact ⟨a, b, c, app_at e⟩
theorem HB.next (H : HB A s st k fa nm T F j) (h : F ≠ []) : HB A s st k fa nm T F (j + 1) := ⟨H.src, H.hst, H.kT, Nat.le_succ_of_le H.lT, H.hfa, H.hnm, H.ok, Nat.le_succ_of_le H.lF, H.ids, H.n1, H.n2, fun _ => h⟩
theorem hb5_ok (H : HB A s st k fa nm T F j) (hj : j ≤ 11) {P : List Str} {t : Int} {ms : Str} {c : Nat} (ok : CmOk treeId P "a" t ms) (hc : CmF A c treeId P "a" t ms) (hP : ∀ p ∈ P, p ∈ keys F) (hF : F = [] → idC treeId P "a" t ms ≠ treeId) :
    ∃ T' F' A', hb5 [some (.ref s), x1, some (.ref st), some (.str treeId), some (.ref fa), some (.ref nm), x6, x7, some (.tup (P.map MV.str)), some (.int t), some (.ref c)] A = .nx [some (.ref s), x1, some (.ref st), some (.str treeId), some (.ref fa), some (.ref nm), x6, x7, some (.tup (P.map MV.str)), some (.int t), some (.ref c)] A' ∧ HB A' s st k fa nm T' F' (j + 1) := by
  obtain ⟨O, eO⟩ : ∃ O : MO, O = .lst ((linesC treeId P "a" t).map MV.str) := ⟨_, rfl⟩
  obtain ⟨I, eI⟩ : ∃ I : Str, I = idC treeId P "a" t ms := ⟨_, rfl⟩
  rw [← eI] at hF
  have id_ : ∀ {B : AH}, CmF B c treeId P "a" t ms → F_id_of [.ref c, .bl false] B = .ok (.str I) (B ++ [O]) := fun {B} h => by rw [eI, eO]; exact id_commit ok h
  have h1 : CmF (A ++ [O]) c treeId P "a" t ms := hc.app
  have i1 := id_ hc
  have i2 := id_ h1
  by_cases z1 : I = treeId
  · refine ⟨T, F, A ++ [O], ?_, H.app.next (fun z => hF z z1)⟩
    unfold hb5
    simp only [defM, sSeq, sIf, sSet, sRet, sRetN, sExpr, sNext, sFld_def, sSub, sRaise, eVar, eC, eBin, eUn, tB', eB, bNot, bAnd, bOr, bIf, eIf, eAnd, eOr, eNot, aNil, aCons, eTup, aLst, eFrz, eRef, pN, pA, pK, pAK, eCall, eMeth_def, eFld_def, eMake_def, bind_ok, bind_err, bind_bad, fs_ok, fs_err, fs_bad, List.map_cons, List.map_nil, List.length_cons, List.length_nil, List.replicate, List.cons_append, List.nil_append, List.getElem?_cons_zero, List.getElem?_cons_succ, List.set_cons_zero, List.set_cons_succ, sz0, sz1, sz2, sz3, sz4, sz5, if_true, and_self, Nat.reduceSub, Nat.reduceAdd, Nat.reduceLeDiff, List.lookup_cons, List.lookup_nil, i1, ne_str, decide_eq_true z1, Bool.not_true]
  have H2 : HB (A ++ [O] ++ [O]) s st k fa nm T F j := H.app.app
  have ni := notIn_dct (x := I) (dctV_at H2.hfa)
  by_cases z2 : I ∈ keys F
  · refine ⟨T, F, A ++ [O] ++ [O], ?_, H2.next (fun z => by rw [z] at z2; cases z2)⟩
    unfold hb5
    simp only [defM, sSeq, sIf, sSet, sRet, sRetN, sExpr, sNext, sFld_def, sSub, sRaise, eVar, eC, eBin, eUn, tB', eB, bNot, bAnd, bOr, bIf, eIf, eAnd, eOr, eNot, aNil, aCons, eTup, aLst, eFrz, eRef, pN, pA, pK, pAK, eCall, eMeth_def, eFld_def, eMake_def, bind_ok, bind_err, bind_bad, fs_ok, fs_err, fs_bad, List.map_cons, List.map_nil, List.length_cons, List.length_nil, List.replicate, List.cons_append, List.nil_append, List.getElem?_cons_zero, List.getElem?_cons_succ, List.set_cons_zero, List.set_cons_succ, sz0, sz1, sz2, sz3, sz4, sz5, if_true, and_self, Nat.reduceSub, Nat.reduceAdd, Nat.reduceLeDiff, List.lookup_cons, List.lookup_nil, i1, ne_str, decide_eq_false z1, Bool.not_false, i2, ni, decide_eq_true z2, Bool.not_true]
  have hT : I ∉ keys T := fun z => (H.kT I z).elim z1 z2
  have h2 : CmF (A ++ [O] ++ [O]) c treeId P "a" t ms := h1.app
  have lT := H.lT
  have lF := H.lF
  let A3 : AH := (A ++ [O] ++ [O] ++ [O]).set k (.dct (mapK MV.ref (put T I c)))
  have pc : F_Store_put [.ref st, .ref c] (A ++ [O] ++ [O]) = .ok (.str I) A3 := by
    have q := put_commit ok h2 H2.hst.s H2.hst.k (by omega) (by rw [← eI]; exact hT)
    rw [← eI, ← eO] at q
    exact q
  have H3 : HB (A ++ [O] ++ [O] ++ [O]) s st k fa nm T F j := H2.app
  have fk : Fr (fun n => n = k) (A ++ [O] ++ [O] ++ [O]) A3 := Fr.set rfl
  have nzk : NoIns (fun n => n = k) (A ++ [O] ++ [O] ++ [O]) := fun n hn C fs q => by
    rw [hn, H3.hst.k] at q
    cases q
  have fa3 : A3[fa]? = some (.dct (mapK faV F)) := fk.same _ _ (Ne.symm H.n2) H3.hfa
  have nm3 : A3[nm]? = some (.lst ((keys F).map MV.str)) := fk.same _ _ (at_ne H3.hnm H3.hst.k (by intro z; cases z)) H3.hnm
  have c3 : CmF A3 c treeId P "a" t ms := fk.same _ _ (fun q => nzk c q _ _ (h2.app (l := [O]))) (h2.app (l := [O]))
  have st3 : A3[st]? = some (.ins "Store" [("short", .bl false), ("kept", .ref k)]) := fk.same _ _ (fun q => nzk st q _ _ H3.hst.s) H3.hst.s
  have k3 : A3[k]? = some (.dct (mapK MV.ref (put T I c))) := set_at H3.hst.k
  let A4 : AH := A3.set fa (.dct (mapK faV (put F I (P, t))))
  have sf : setM (.ref fa) (.str I) (.tup [.tup (P.map MV.str), .int t]) A3 = some A4 := setM_dct (f := faV) (v := (P, t)) fa3 (by omega)
  have ff : Fr (fun n => n = fa) A3 A4 := Fr.set rfl
  have nzf : NoIns (fun n => n = fa) A3 := fun n hn C fs q => by
    rw [hn, fa3] at q
    cases q
  have c4 : CmF A4 c treeId P "a" t ms := ff.same _ _ (fun q => nzf c q _ _ c3) c3
  have nm4 : A4[nm]? = some (.lst ((keys F).map MV.str)) := ff.same _ _ (at_ne nm3 fa3 (by intro z; cases z)) nm3
  have i4 := id_ c4
  have nm5 : (A4 ++ [O])[nm]? = some (.lst ((keys F).map MV.str)) := app_at nm4
  have lK : (keys F).length = F.length := by unfold keys; rw [List.length_map]
  let A6 : AH := (A4 ++ [O]).set nm (.lst ((keys F).map MV.str ++ [MV.str I]))
  have ap : appM (.ref nm) (.str I) (A4 ++ [O]) = .ok .non A6 := appM_at nm5 (by rw [List.length_map, lK]; omega)
  have kF : keys (put F I (P, t)) = keys F ++ [I] := by rw [keys_put, if_neg z2]
  -- what stands in A6
  have f46 : ∀ (n : Nat) (o : MO), n ≠ nm → A4[n]? = some o → A6[n]? = some o := fun n o q e => by
    show (List.set _ _ _)[n]? = _
    rw [set_ne (Ne.symm q)]
    exact app_at e
  have nI : ∀ (n : Nat) (C : Str) (fs : List (Str × MV)), A4[n]? = some (.ins C fs) → A6[n]? = some (.ins C fs) := fun n C fs e => f46 n _ (at_ne e nm4 (by intro z; cases z)) e
  have n4 : ∀ (n : Nat) (C : Str) (fs : List (Str × MV)), A3[n]? = some (.ins C fs) → A4[n]? = some (.ins C fs) := fun n C fs e => ff.same _ _ (fun q => nzf n q _ _ e) e
  have nAk : ∀ (n : Nat) (C : Str) (fs : List (Str × MV)), (A ++ [O] ++ [O] ++ [O])[n]? = some (.ins C fs) → A3[n]? = some (.ins C fs) := fun n C fs e => fk.same _ _ (fun q => nzk n q _ _ e) e
  have nAll : ∀ (n : Nat) (C : Str) (fs : List (Str × MV)), (A ++ [O] ++ [O] ++ [O])[n]? = some (.ins C fs) → A6[n]? = some (.ins C fs) := fun n C fs e => nI n C fs (n4 n C fs (nAk n C fs e))
  have k4 : A4[k]? = some (.dct (mapK MV.ref (put T I c))) := ff.same _ _ H.n2 k3
  have fa4 : A4[fa]? = some (.dct (mapK faV (put F I (P, t)))) := set_at fa3
  refine ⟨put T I c, put F I (P, t), A6, ?_, ⟨?_, ⟨nAll _ _ _ H3.hst.s, f46 _ _ (at_ne k4 nm4 (by intro z; cases z)) k4, fun x p q => ?_⟩, fun x hx => ?_, ?_, f46 _ _ (at_ne fa4 nm4 (by intro z; cases z)) fa4, ?_, H.ok.add z2 (by omega) ok.hpl hP, ?_, fun x hx => ?_, H.n1, H.n2, fun _ z => ?_⟩⟩
  · have mp : mthB "Store" "put" (.ref st) (A ++ [O] ++ [O]) = true := mth_at H2.hst.s rfl
    unfold hb5
    simp only [defM, sSeq, sIf, sSet, sRet, sRetN, sExpr, sNext, sFld_def, sSub, sRaise, eVar, eC, eBin, eUn, tB', eB, bNot, bAnd, bOr, bIf, eIf, eAnd, eOr, eNot, aNil, aCons, eTup, aLst, eFrz, eRef, pN, pA, pK, pAK, eCall, eMeth_def, eFld_def, eMake_def, bind_ok, bind_err, bind_bad, fs_ok, fs_err, fs_bad, List.map_cons, List.map_nil, List.length_cons, List.length_nil, List.replicate, List.cons_append, List.nil_append, List.getElem?_cons_zero, List.getElem?_cons_succ, List.set_cons_zero, List.set_cons_succ, sz0, sz1, sz2, sz3, sz4, sz5, if_true, and_self, Nat.reduceSub, Nat.reduceAdd, Nat.reduceLeDiff, List.lookup_cons, List.lookup_nil, i1, ne_str, decide_eq_false z1, Bool.not_false, i2, ni, decide_eq_false z2, mp, pc, sf, eApp_def, lstB_at nm4, i4, ap]
  · obtain ⟨a, b, c', e⟩ := H3.src.ex
    have e3 : A3[s]? = some (srcO a b c') := fk.same _ _ (at_ne e H3.hst.k (by intro z; cases z)) e
    have e4 : A4[s]? = some (srcO a b c') := ff.same _ _ (at_ne e3 fa3 (by intro z; cases z)) e3
    exact ⟨a, b, c', f46 _ _ H.n1 e4⟩
  · rw [get_put] at q
    by_cases z : x = I
    · rw [if_pos z] at q
      cases q
      exact ⟨c, by rw [get_put, if_pos z], treeId, "a", ms, nI _ _ _ c4⟩
    · rw [if_neg z] at q
      obtain ⟨c', g', tr', au', ms', e'⟩ := H3.hst.c x p q
      exact ⟨c', by rw [get_put, if_neg z]; exact g', tr', au', ms', nAll _ _ _ e'⟩
  · rw [mem_put] at hx
    rw [mem_put]
    rcases hx with hx | hx
    · exact (H.kT x hx).imp id .inl
    · exact .inr (.inr hx)
  · have := put_len (T := T) (k := I) (v := c)
    omega
  · show (List.set _ _ _)[nm]? = _
    rw [set_at nm5, kF, List.map_append]
    rfl
  · have := put_len (T := F) (k := I) (v := (P, t))
    omega
  · rw [kF] at hx
    rcases List.mem_append.mp hx with hx | hx
    · exact H.ids x hx
    · rw [List.mem_singleton.mp hx, eI]
      exact idB_id _
  · have : keys (put F I (P, t)) = [] := by rw [z]; rfl
    rw [kF] at this
    simp at this
end
end Rp
/-! SpL: _law_history -/
namespace Rp
open PySem PySem.Spec PyProof.Rows Mv Rf
section
variable {A : AH} {s st k fa nm j : Nat} {T : Tb Nat} {F : Fa} {x1 x6 x7 x8 x9 x10 : Option MV}
theorem hb_turn (H : HB A s st k fa nm T F j) (hj : j ≤ 11) {i : Int} (hi : i = (j : Int)) : ∃ T' F' A' y7 y8 y9 y10, hbB [some (.ref s), x1, some (.ref st), some (.str treeId), some (.ref fa), some (.ref nm), some (.int i), x7, x8, x9, x10] A = .nx [some (.ref s), x1, some (.ref st), some (.str treeId), some (.ref fa), some (.ref nm), some (.int i), y7, y8, y9, y10] A' ∧ HB A' s st k fa nm T' F' (j + 1) := by
  have lF := H.lF
  have lK : (keys F).length = F.length := by unfold keys; rw [List.length_map]
  obtain ⟨N, A1, e1, f1, S1, sub⟩ := hb1_ok (x1 := x1) (x2 := some (.ref st)) (x3 := some (.str treeId)) (x4 := some (.ref fa)) (x6 := some (.int i)) (x7 := x7) (x8 := x8) (x9 := x9) (x10 := x10) H.src H.hnm H.n1
  have H1 := H.fr f1 S1
  have lN : N.length ≤ 900 := by have := sub.length_le; omega
  obtain ⟨P, A2, e2, f2, S2, ndP, inP, lP⟩ := hb2_ok (nm := nm) (x1 := x1) (x2 := some (.ref st)) (x3 := some (.str treeId)) (x4 := some (.ref fa)) (x6 := some (.int i)) (x8 := x8) (x9 := x9) (x10 := x10) S1 (sub.nodup H.ok.nd) lN
  have H2 := H1.fr f2 S2
  obtain ⟨t, A3, e3, f3, S3, t0, t1⟩ := hb3_ok (nm := nm) (x1 := x1) (x2 := some (.ref st)) (x3 := some (.str treeId)) (x4 := some (.ref fa)) (x6 := some (.int i)) (x7 := some (.lst (N.map MV.str))) (x8 := some (.tup (P.map MV.str))) (x9 := x9) (x10 := x10) S2
  have H3 := H2.fr f3 S3
  have i0 : 0 ≤ i := by omega
  have i1 : i ≤ 11 := by omega
  have hP : ∀ p ∈ P, p ∈ keys F := fun p hp => sub.subset (inP p hp)
  have cn : CmNew treeId P "a" t (Str.ofString (toString i)) := ⟨tree_id, fun q hq => H.ids q (hP q hq), ndP, lP, author_a, t0, by omega, text_num i (num_mem i0 i1)⟩
  have ck : CmOk treeId P "a" t (Str.ofString (toString i)) := ⟨tree_id.sh, fun q hq => (H.ids q (hP q hq)).sh, lP, ⟨by decide, by decide⟩, sh_num t (num_mem t0 (by omega)), num_log t0 (by omega), (sh_num i (num_mem i0 i1)).mono (by decide)⟩
  have e4 := hb4_ok (A := A3) (s := s) (nm := nm) (x1 := x1) (x2 := some (.ref st)) (x4 := some (.ref fa)) (x7 := some (.lst (N.map MV.str))) (x10 := x10) cn (num_log i0 i1)
  have H4 : HB (A3 ++ [.ins "Commit" [("held", .tup [.str treeId, .tup (P.map MV.str), .str "a", .int t, .str (Str.ofString (toString i))])]]) s st k fa nm T F j := H3.app
  have c4 : CmF (A3 ++ [.ins "Commit" [("held", .tup [.str treeId, .tup (P.map MV.str), .str "a", .int t, .str (Str.ofString (toString i))])]]) A3.length treeId P "a" t (Str.ofString (toString i)) := new_at
  obtain ⟨T', F', A', e5, H5⟩ := hb5_ok (x1 := x1) (x6 := some (.int i)) (x7 := some (.lst (N.map MV.str))) H4 hj ck c4 hP (fun z => by
    have p0 : P = [] := by
      cases P with
      | nil => rfl
      | cons a r =>
        have := hP a (List.mem_cons_self ..)
        rw [z] at this
        cases this
    have j0 : j = 0 := Decidable.byContradiction fun q => H.ne (by omega) z
    have : i = 0 := by omega
    rw [p0, this]
    refine first_ne t ?_
    simp only [List.mem_cons, List.mem_nil_iff, or_false]
    omega)
  refine ⟨T', F', A', some (.lst (N.map MV.str)), some (.tup (P.map MV.str)), some (.int t), some (.ref A3.length), ?_, H5⟩
  rw [hb_def]
  unfold sSeq
  rw [e1]
  dsimp only
  rw [e2]
  dsimp only
  rw [e3]
  dsimp only
  rw [e4]
  exact e5
theorem hb_loop : ∀ (m : Nat) {A : AH} {T : Tb Nat} {F : Fa} {j : Nat} {x6 x7 x8 x9 x10 : Option MV}, HB A s st k fa nm T F j → j + m ≤ 12 →
    ∃ T' F' A' y6 y7 y8 y9 y10, runL (turn [6] gNm hbB) ((List.range' j m).map fun (i : Nat) => MV.int (0 + (i : Int))) [some (.ref s), x1, some (.ref st), some (.str treeId), some (.ref fa), some (.ref nm), x6, x7, x8, x9, x10] A = .nx [some (.ref s), x1, some (.ref st), some (.str treeId), some (.ref fa), some (.ref nm), y6, y7, y8, y9, y10] A' ∧ HB A' s st k fa nm T' F' (j + m)
  | 0, A, T, F, j, x6, x7, x8, x9, x10, H, _ => ⟨T, F, A, x6, x7, x8, x9, x10, rfl, H⟩
  | m + 1, A, T, F, j, x6, x7, x8, x9, x10, H, hm => by
    obtain ⟨i, hi⟩ : ∃ i : Int, i = 0 + (j : Int) := ⟨_, rfl⟩
    obtain ⟨T1, F1, A1, y7, y8, y9, y10, e, H1⟩ := hb_turn (x1 := x1) (x7 := x7) (x8 := x8) (x9 := x9) (x10 := x10) H (by omega) (i := i) (by omega)
    obtain ⟨T2, F2, A2, z6, z7, z8, z9, z10, e2, H2⟩ := hb_loop m (x6 := some (.int i)) (x7 := y7) (x8 := y8) (x9 := y9) (x10 := y10) H1 (by omega)
    refine ⟨T2, F2, A2, z6, z7, z8, z9, z10, ?_, by rw [show j + (m + 1) = j + 1 + m by omega]; exact H2⟩
    rw [List.range'_succ, List.map_cons, ← hi]
    unfold runL
    rw [turn1]
    rw [show ([some (.ref s), x1, some (.ref st), some (.str treeId), some (.ref fa), some (.ref nm), x6, x7, x8, x9, x10] : ME).set 6 (some (.int i)) = [some (.ref s), x1, some (.ref st), some (.str treeId), some (.ref fa), some (.ref nm), some (.int i), x7, x8, x9, x10] from rfl, e]
    exact e2
end
def hbR : FS := (sRet (eTup (aCons (eMake "History" 1 0 (fun ms zs => plan [.kd 0] ms [] [.tup []] zs) F_History___init__ (pA (aCons (eVar 2) aNil))) (aCons (eVar 4) aNil))))
theorem hist_def : b__law_history = sSeq (sSet 2 (eMake "Store" 0 0 (fun ms _ => ms ++ [.bl false]) F_Store___init__ pN)) (sSeq (sSet 3 (eMeth "Store" "put" 2 0 (fun ms _ => ms) F_Store_put (eVar 2) (pA (aCons (eMake "Tree" 1 0 (fun ms _ => ms) F_Tree___init__ (pA (aCons eDict0 aNil))) aNil)))) (sSeq (sPar 4 5 (aCons eDict0 (aCons (eRef (aLst aNil)) aNil))) (sSeq (sFor (Mv.iRng1 (aCons (eBin addM (eC (.int 1)) (eCall 2 0 (fun ms _ => ms) F__law_draw (pA (aCons (eVar 0) (aCons (eVar 1) aNil))))) aNil)) [6] gNm hbB) hbR))) := rfl
theorem history_ok {A : AH} {s : Nat} (S : Src A s) : ∃ (h st k kn dp fa : Nat) (T : Tb Nat) (F : Fa) (A' : AH), F__law_history [.ref s, .int 12] A = .ok (.tup [.ref h, .ref fa]) A' ∧ Src A' s ∧ HW A' h st k kn dp T F [] ∧ A'[fa]? = some (.dct (mapK faV F)) ∧ F ≠ [] ∧ F.length ≤ 12 ∧ fa ≠ k ∧ fa ≠ kn := by
  obtain ⟨a, b, c, es⟩ := S.ex
  have ls := at_lt es
  let A1 : AH := A ++ [.ins "Store" [("short", .bl false), ("kept", .ref (A.length + 1))], .dct []]
  let A2 : AH := A1 ++ [.dct [], .ins "Tree" [("held", .tup [])]]
  have l1 : A1.length = A.length + 2 := by simp [A1]
  have l2 : A2.length = A.length + 4 := by simp [A2, l1]
  have s1 : A1[A.length]? = some (.ins "Store" [("short", .bl false), ("kept", .ref (A.length + 1))]) := by simp [A1]
  have k1 : A1[A.length + 1]? = some (.dct []) := by simp [A1]
  have s2 : A2[A.length]? = some (.ins "Store" [("short", .bl false), ("kept", .ref (A.length + 1))]) := app_at s1
  have k2 : A2[A.length + 1]? = some (.dct []) := app_at k1
  have t2 : A2[A.length + 3]? = some (.ins "Tree" [("held", .tup [])]) := by
    show (A1 ++ _)[A.length + 3]? = _
    rw [show A.length + 3 = A1.length + 1 by omega]
    simp
  have pt := put_tree t2 s2 k2
  let A3 : AH := (A2 ++ [MO.lst [.str treeT], .lkd []]).set (A.length + 1) (.dct (mapK MV.ref [(treeId, A.length + 3)]))
  have l3 : A3.length = A.length + 6 := by simp [A3, l2]
  have s3 : A3[A.length]? = some (.ins "Store" [("short", .bl false), ("kept", .ref (A.length + 1))]) := by
    show (List.set _ _ _)[A.length]? = _
    rw [set_ne (by omega)]
    exact app_at s2
  have k3 : A3[A.length + 1]? = some (.dct (mapK MV.ref [(treeId, A.length + 3)])) := set_at (app_at k2)
  have src3 : A3[s]? = some (srcO a b c) := by
    show (List.set _ _ _)[s]? = _
    rw [set_ne (by omega)]
    exact app_at (app_at (app_at es))
  let A4 : AH := A3 ++ [.dct []] ++ [.lst []]
  have l4 : (A3 ++ [MO.dct []]).length = A.length + 7 := by simp [l3]
  have H0 : HB A4 s A.length (A.length + 1) (A.length + 6) (A.length + 7) [(treeId, A.length + 3)] [] 0 := by
    refine ⟨⟨a, b, c, app_at (app_at src3)⟩, ⟨app_at (app_at s3), app_at (app_at k3), fun x p q => by cases q⟩, fun x hx => ?_, by simp, ?_, ?_, ⟨by simp [keys], by simp, fun p hp => (by cases hp), fun P p R e => ?_⟩, by simp, fun x hx => (by cases hx), by omega, by omega, fun z => absurd z (Nat.lt_irrefl _)⟩
    · left
      simpa [keys] using hx
    · rw [← l3]
      exact app_at new_at
    · rw [← l4]
      exact new_at
    · cases P <;> cases e
  obtain ⟨d, a', b', c', ed, d0, d1⟩ := draw_ok H0.src (k := 12) (by decide) (by decide)
  have H1 := H0.fr (Fr.set (o := srcO a' b' c') rfl) (H0.src.set a' b' c')
  obtain ⟨T, F, A5, y6, y7, y8, y9, y10, el, H5⟩ := hb_loop (x1 := some (.int 12)) (x6 := none) (x7 := none) (x8 := none) (x9 := none) (x10 := none) (1 + d).toNat H1 (by omega)
  let A6 : AH := A5 ++ [.ins "History" [("held", .ref A.length), ("ends", .tup []), ("known", .ref (A5.length + 1)), ("depths", .ref (A5.length + 2))], .dct [], .dct []]
  have H6 : HB A6 s A.length (A.length + 1) (A.length + 6) (A.length + 7) T F (0 + (1 + d).toNat) := H5.app
  have hn := history_new (A := A5) (ρ := [some (.ref s), some (.int 12), some (.ref A.length), some (.str treeId), some (.ref (A.length + 6)), some (.ref (A.length + 7)), y6, y7, y8, y9, y10]) (i := 2) (s := A.length) rfl
  have lk := at_lt H5.hst.k
  have lfa := at_lt H5.hfa
  refine ⟨A5.length, A.length, A.length + 1, A5.length + 1, A5.length + 2, A.length + 6, T, F, A6, ?_, H6.src, ⟨H6.ok, H6.hst, ⟨by simp [A6]⟩, by simp [A6, mapK], by omega, by simp [keys], fun x hx => (by cases hx), fun x n e => (by cases e)⟩, H6.hfa, H6.ne (by omega), by have := H6.lF; omega, by omega, by omega⟩
  have e1 : ∀ {ρ : ME}, eMake "Store" 0 0 (fun ms _ => ms ++ [.bl false]) F_Store___init__ pN ρ A = .ok (.ref A.length) A1 := fun {ρ} => store_new
  have e2 : ∀ {ρ : ME}, eMake "Tree" 1 0 (fun ms _ => ms) F_Tree___init__ (pA (aCons eDict0 aNil)) ρ A1 = .ok (.ref (A.length + 3)) A2 := fun {ρ} => by
    have := tree_new (A := A1) (ρ := ρ)
    rw [l1] at this
    exact this
  have mp : mthB "Store" "put" (.ref A.length) A1 = true := mth_at s1 rfl
  have e4 : ∀ {ρ : ME}, eDict0 ρ A3 = .ok (.ref (A.length + 6)) (A3 ++ [.dct []]) := fun {ρ} => by
    rw [← l3]
    rfl
  have eA4 : A3 ++ [MO.dct []] ++ [MO.lst []] = A4 := rfl
  have rg : rangeM 0 (1 + d) = (List.range' 0 (1 + d).toNat).map fun (i : Nat) => MV.int (0 + (i : Int)) := by
    unfold rangeM
    rw [show (1 + d - 0).toNat = (1 + d).toNat by omega, List.range_eq_range']
  have pt' : F_Store_put [.ref A.length, .ref (A.length + 3)] A2 = .ok (.str treeId) A3 := pt
  have hn' : eMake "History" 1 0 (fun ms zs => plan [.kd 0] ms [] [.tup []] zs) F_History___init__ (pA (aCons (eVar 2) aNil)) [some (.ref s), some (.int 12), some (.ref A.length), some (.str treeId), some (.ref (A.length + 6)), some (.ref (A.length + 7)), y6, y7, y8, y9, y10] A5 = .ok (.ref A5.length) A6 := hn
  have c1 : -1000000 ≤ 1 + d ∧ 1 + d ≤ 1000000 := by omega
  unfold F__law_history
  rw [hist_def]
  simp only [defM, sSeq, sSet, e1, fs_ok, List.map_cons, List.map_nil, List.length_cons, List.length_nil, Nat.reduceSub, Nat.reduceAdd, List.replicate, List.cons_append, List.nil_append, List.set_cons_zero, List.set_cons_succ, eMeth_def, eVar, List.getElem?_cons_zero, List.getElem?_cons_succ, bind_ok, mp, if_true, pA, aCons, aNil, e2, and_self, pt']
  simp only [defM, sSeq, sIf, sSet, sRet, sRetN, sExpr, sNext, sFld_def, sSub, sRaise, eVar, eC, eBin, eUn, tB', eB, bNot, bAnd, bOr, bIf, eIf, eAnd, eOr, eNot, aNil, aCons, eTup, aLst, eFrz, eRef, pN, pA, pK, pAK, eCall, eMeth_def, eFld_def, eMake_def, bind_ok, bind_err, bind_bad, fs_ok, fs_err, fs_bad, List.map_cons, List.map_nil, List.length_cons, List.length_nil, List.replicate, List.cons_append, List.nil_append, List.getElem?_cons_zero, List.getElem?_cons_succ, List.set_cons_zero, List.set_cons_succ, sz0, sz1, sz2, sz3, sz4, sz5, if_true, and_self, Nat.reduceSub, Nat.reduceAdd, Nat.reduceLeDiff, List.lookup_cons, List.lookup_nil, sPar, e4, l4, eA4, sFor, Mv.iRng1, ed, addM, if_pos c1, rg, el]
  unfold hbR
  simp only [sRet, eTup, aCons, hn', bind_ok, eVar, List.getElem?_cons_zero, List.getElem?_cons_succ, aNil, sz2, if_true, fs_ok]
end Rp
/-! SpM: one turn of _law_right -/
namespace Rp
open PySem PySem.Spec PyProof.Rows Mv Rf
structure RI (A : AH) (s se mk h st k kn dp r fa : Nat) (T : Tb Nat) (F : Fa) (D R : Tb Nat) (M : List (Str × Str)) : Prop where
  w : SW A se mk h st k kn dp T F D M
  src : Src A s
  rd : RdAt A F F r fa R
  n1 : s ≠ mk
  n2 : r ≠ kn
  n3 : ∀ x n, get R x = some n → n ≠ kn
section
variable {A : AH} {s se mk h st k kn dp r fa : Nat} {T : Tb Nat} {F : Fa} {D R : Tb Nat} {M : List (Str × Str)}
theorem RI.draw (I : RI A s se mk h st k kn dp r fa T F D R M) (a b c : Int) : RI (A.set s (srcO a b c)) s se mk h st k kn dp r fa T F D R M := by
  obtain ⟨a0, b0, c0, e⟩ := I.src.ex
  have f : Fr (fun n => n = s) A (A.set s (srcO a b c)) := Fr.set rfl
  have nz : NoIns (fun n => n = s) A := fun n hn C fs q => by
    rw [hn, e] at q
    cases q
  refine ⟨I.w.fr f nz (at_ne I.w.w.st.k e (by intro z; cases z)) (at_ne I.w.w.d e (by intro z; cases z)) (fun x n q => ?_) (Ne.symm I.n1), I.src.set a b c, I.rd.fr f (at_ne I.rd.ra e (by intro z; cases z)) (fun x n q => ?_), I.n1, I.n2, I.n3⟩
  · obtain ⟨_, _, fd, B⟩ := I.w.w.e x n q
    rcases B.a with z | z
    · exact at_ne z e (by intro z; cases z)
    · exact at_ne z e (by intro z; cases z)
  · obtain ⟨_, _, _, fd, z, _⟩ := I.rd.e x n q
    exact at_ne z e (by intro z; cases z)
theorem RI.called {A' : AH} {D' : Tb Nat} {M' : List (Str × Str)} (I : RI A s se mk h st k kn dp r fa T F D R M) (f : Fr (fun n => n = kn ∨ n = mk) A A') (W : SW A' se mk h st k kn dp T F D' M') : RI A' s se mk h st k kn dp r fa T F D' R M' := by
  obtain ⟨a0, b0, c0, e⟩ := I.src.ex
  have hk : s ≠ kn := at_ne e I.w.w.d (by intro z; cases z)
  refine ⟨W, ⟨a0, b0, c0, f.same _ _ (fun q => q.elim hk I.n1) e⟩, I.rd.fr f (fun q => q.elim I.n2 (at_ne I.rd.ra I.w.s.ml (by intro z; cases z))) (fun x n q z => ?_), I.n1, I.n2, I.n3⟩
  obtain ⟨_, _, _, fd, y, _⟩ := I.rd.e x n q
  exact z.elim (I.n3 x n q) (at_ne y I.w.s.ml (by intro z; cases z))
theorem RI.mF (I : RI A s se mk h st k kn dp r fa T F D R M) : ∀ p ∈ M, p.2 ∈ keys F := fun p hp => I.w.w.kF _ (I.w.m p hp)
/-- both sides tell the same candidates -/
theorem told (I : RI A s se mk h st k kn dp r fa T F D R M) (hl : M.length ≤ 500) : ∃ v, F_Search_candidates [.ref se] A = .ok v A ∧ F__law_candidates [.ref r, .lst (M.map spV)] A = .ok v A ∧ (v = .ptp [] ∨ ∃ L : List Str, v = .tup (L.map MV.str)) := by
  by_cases hb : sel M "bad" = []
  · exact ⟨.ptp [], cand_none I.w.s (by omega) hb, lcand_none (by omega) hb, .inl rfl⟩
  · obtain ⟨L, e, C⟩ := cand_some I.w.w I.w.s (by omega) I.w.m hb
    obtain ⟨L', e', C'⟩ := lcand_some I.w.w.ok I.rd (by omega) I.mF hb
    rw [← C.eq C'] at e'
    exact ⟨_, e, e', .inr ⟨L, rfl⟩⟩
def wds : List Str := ["bad", "good", "good", "skip", "undo", "bad"]
theorem sel_bad_in {M : List (Str × Str)} : ("bad" : Str) ∈ M.map (·.1) ↔ sel M "bad" ≠ [] := by
  constructor
  · intro h z
    obtain ⟨p, hp, e⟩ := List.mem_map.mp h
    have : p.2 ∈ sel M "bad" := List.mem_map.mpr ⟨p, List.mem_filter.mpr ⟨hp, decide_eq_true e⟩, rfl⟩
    rw [z] at this
    cases this
  · intro h
    cases e : sel M "bad" with
    | nil => exact absurd e h
    | cons a q =>
      have : a ∈ sel M "bad" := by rw [e]; exact List.mem_cons_self ..
      obtain ⟨p, hp, _⟩ := List.mem_map.mp this
      exact List.mem_map.mpr ⟨p, (List.mem_filter.mp hp).1, of_decide_eq_true (List.mem_filter.mp hp).2⟩
end
end Rp
/-! SpN: one turn of _law_right -/
namespace Rp
open PySem PySem.Spec PyProof.Rows Mv Rf
theorem cut_last {α : Type} (xs : List α) : cutM xs none (some (-1)) = xs.dropLast := by
  unfold cutM HT.sIx
  simp only [List.drop_zero]
  rw [if_pos (by decide), List.dropLast_eq_take]
  congr 1
  omega
theorem ne_bl {a b : Bool} {A : AH} : neM (.bl a) (.bl b) A = .ok (.bl (!decide (a = b))) A := by cases a <;> cases b <;> rfl
theorem eq_str_self {A : AH} {x : Str} : eqM (.str x) (.str x) A = .ok (.bl true) A := by rw [eq_str, decide_eq_true rfl]
theorem in_bg {A : AH} {w : Str} : inM (.str w) (.tup [.str "bad", .str "good"]) A = .ok (.bl (decide (w ∈ (["bad", "good"] : List Str)))) A := in_tups (ks := ["bad", "good"])
theorem in_strs {A : AH} {x : Str} {ks : List Str} : inM (.str x) (.lst (ks.map MV.str)) A = .ok (.bl (decide (x ∈ ks))) A := by
  unfold inM
  rw [inB_strs]
def rtB : FS := (sSeq (sSet 8 (eBin ixM (eFrz (aLst (aCons (eC (.str "bad")) (aCons (eC (.str "good")) (aCons (eC (.str "good")) (aCons (eC (.str "skip")) (aCons (eC (.str "undo")) (aCons (eC (.str "bad")) aNil)))))))) (eCall 2 0 (fun ms _ => ms) F__law_draw (pA (aCons (eVar 0) (aCons (eC (.int 6)) aNil)))))) (sSeq (sSet 9 (eBin ixM (eVar 4) (eCall 2 0 (fun ms _ => ms) F__law_draw (pA (aCons (eVar 0) (aCons (fun ρ A => ((aCons (eVar 4) aNil) ρ A).bind lenM) aNil)))))) (sSeq (sSet 10 (eIf (tB' (eBin eqM (eVar 8) (eC (.str "undo")))) (eFrz (aSl (eVar 6) oNone (oSome (eUn negM (eC (.int 1)))))) (eFrz (aCat (eVar 6) (eFrz (aLst (aCons (eTup (aCons (eVar 8) (aCons (eVar 9) aNil))) aNil))))))) (sSeq (sSet 11 (eIf (tB' (eBin eqM (eVar 8) (eC (.str "undo")))) (eBin neM (eVar 6) (eFrz (aLst aNil))) (eC (.bl true)))) (sSeq (sIf (bAnd (tB' (eBin inM (eVar 8) (eTup (aCons (eC (.str "bad")) (aCons (eC (.str "good")) aNil))))) (tB' (eBin inM (eC (.str "bad")) (eFrz (aLc (iFrz (eVar 10)) [13, 14] [13, 14] (gTupM 2 (gConsM gNm (gConsM gNm gNilM))) (qElt bYes (eVar 13))))))) (sSet 11 (eBin neM (eCall 2 0 (fun ms _ => ms) F__law_candidates (pA (aCons (eVar 3) (aCons (eVar 10) aNil)))) (eC (.ptp [])))) sNext) (sSeq (sIf (tB' (eBin neM (eCall 3 0 (fun ms _ => ms) F__law_called (pA (aCons (eVar 5) (aCons (eVar 8) (aCons (eVar 9) aNil))))) (eVar 11))) (sRet (eC (.bl false))) sNext) (sSeq (sSet 6 (eIf (tB' (eVar 11)) (eVar 10) (eVar 6))) (sSeq (sSet 12 (eMeth "Search" "candidates" 1 0 (fun ms _ => ms) F_Search_candidates (eVar 5) pN)) (sIf (bOr (bNot (tB' (fun ρ A => ((aCons (eVar 12) (aCons (eC (.ty "tuple")) aNil)) ρ A).bind (isiG own_)))) (tB' (eBin neM (eVar 12) (eCall 2 0 (fun ms _ => ms) F__law_candidates (pA (aCons (eVar 3) (aCons (eVar 6) aNil))))))) (sRet (eC (.bl false))) sNext)))))))))
def rt2 : FS := (sSeq (sSet 10 (eIf (tB' (eBin eqM (eVar 8) (eC (.str "undo")))) (eFrz (aSl (eVar 6) oNone (oSome (eUn negM (eC (.int 1)))))) (eFrz (aCat (eVar 6) (eFrz (aLst (aCons (eTup (aCons (eVar 8) (aCons (eVar 9) aNil))) aNil))))))) (sSeq (sSet 11 (eIf (tB' (eBin eqM (eVar 8) (eC (.str "undo")))) (eBin neM (eVar 6) (eFrz (aLst aNil))) (eC (.bl true)))) (sSeq (sIf (bAnd (tB' (eBin inM (eVar 8) (eTup (aCons (eC (.str "bad")) (aCons (eC (.str "good")) aNil))))) (tB' (eBin inM (eC (.str "bad")) (eFrz (aLc (iFrz (eVar 10)) [13, 14] [13, 14] (gTupM 2 (gConsM gNm (gConsM gNm gNilM))) (qElt bYes (eVar 13))))))) (sSet 11 (eBin neM (eCall 2 0 (fun ms _ => ms) F__law_candidates (pA (aCons (eVar 3) (aCons (eVar 10) aNil)))) (eC (.ptp [])))) sNext) (sSeq (sIf (tB' (eBin neM (eCall 3 0 (fun ms _ => ms) F__law_called (pA (aCons (eVar 5) (aCons (eVar 8) (aCons (eVar 9) aNil))))) (eVar 11))) (sRet (eC (.bl false))) sNext) (sSeq (sSet 6 (eIf (tB' (eVar 11)) (eVar 10) (eVar 6))) (sSeq (sSet 12 (eMeth "Search" "candidates" 1 0 (fun ms _ => ms) F_Search_candidates (eVar 5) pN)) (sIf (bOr (bNot (tB' (fun ρ A => ((aCons (eVar 12) (aCons (eC (.ty "tuple")) aNil)) ρ A).bind (isiG own_)))) (tB' (eBin neM (eVar 12) (eCall 2 0 (fun ms _ => ms) F__law_candidates (pA (aCons (eVar 3) (aCons (eVar 6) aNil))))))) (sRet (eC (.bl false))) sNext)))))))
def rt5 : FS := (sSeq (sIf (tB' (eBin neM (eCall 3 0 (fun ms _ => ms) F__law_called (pA (aCons (eVar 5) (aCons (eVar 8) (aCons (eVar 9) aNil))))) (eVar 11))) (sRet (eC (.bl false))) sNext) (sSeq (sSet 6 (eIf (tB' (eVar 11)) (eVar 10) (eVar 6))) (sSeq (sSet 12 (eMeth "Search" "candidates" 1 0 (fun ms _ => ms) F_Search_candidates (eVar 5) pN)) (sIf (bOr (bNot (tB' (fun ρ A => ((aCons (eVar 12) (aCons (eC (.ty "tuple")) aNil)) ρ A).bind (isiG own_)))) (tB' (eBin neM (eVar 12) (eCall 2 0 (fun ms _ => ms) F__law_candidates (pA (aCons (eVar 3) (aCons (eVar 6) aNil))))))) (sRet (eC (.bl false))) sNext))))
theorem rt2_def : rt2 = sSeq (sSet 10 (eIf (tB' (eBin eqM (eVar 8) (eC (.str "undo")))) (eFrz (aSl (eVar 6) oNone (oSome (eUn negM (eC (.int 1)))))) (eFrz (aCat (eVar 6) (eFrz (aLst (aCons (eTup (aCons (eVar 8) (aCons (eVar 9) aNil))) aNil))))))) (sSeq (sSet 11 (eIf (tB' (eBin eqM (eVar 8) (eC (.str "undo")))) (eBin neM (eVar 6) (eFrz (aLst aNil))) (eC (.bl true)))) (sSeq (sIf (bAnd (tB' (eBin inM (eVar 8) (eTup (aCons (eC (.str "bad")) (aCons (eC (.str "good")) aNil))))) (tB' (eBin inM (eC (.str "bad")) (eFrz (aLc (iFrz (eVar 10)) [13, 14] [13, 14] (gTupM 2 (gConsM gNm (gConsM gNm gNilM))) (qElt bYes (eVar 13))))))) (sSet 11 (eBin neM (eCall 2 0 (fun ms _ => ms) F__law_candidates (pA (aCons (eVar 3) (aCons (eVar 10) aNil)))) (eC (.ptp [])))) sNext) rt5)) := rfl
theorem rt_def : rtB = sSeq (sSet 8 (eBin ixM (eFrz (aLst (aCons (eC (.str "bad")) (aCons (eC (.str "good")) (aCons (eC (.str "good")) (aCons (eC (.str "skip")) (aCons (eC (.str "undo")) (aCons (eC (.str "bad")) aNil)))))))) (eCall 2 0 (fun ms _ => ms) F__law_draw (pA (aCons (eVar 0) (aCons (eC (.int 6)) aNil)))))) (sSeq (sSet 9 (eBin ixM (eVar 4) (eCall 2 0 (fun ms _ => ms) F__law_draw (pA (aCons (eVar 0) (aCons (fun ρ A => ((aCons (eVar 4) aNil) ρ A).bind lenM) aNil)))))) rt2) := rfl
section
variable {A : AH} {s se mk h st k kn dp r fa : Nat} {T : Tb Nat} {F : Fa} {D R : Tb Nat} {M : List (Str × Str)} {x1 x2 x4 x7 x10 x11 x12 x13 x14 : Option MV}
theorem good_told {v : MV} (h : v = .ptp [] ∨ ∃ L : List Str, v = .tup (L.map MV.str)) : good v = true := by
  rcases h with rfl | ⟨L, rfl⟩
  · rfl
  · exact good_strs L
theorem isi_told {v : MV} {A : AH} (h : v = .ptp [] ∨ ∃ L : List Str, v = .tup (L.map MV.str)) : isiG own_ [v, .ty "tuple"] A = .ok (.bl true) A := by
  rcases h with rfl | ⟨L, rfl⟩
  · exact isi_ptp
  · exact isi_tup
theorem rt_undo (I : RI A s se mk h st k kn dp r fa T F D R M) (hl : M.length ≤ 100) {x : Str} : ∃ A' y10 y11 y12, rt2 [some (.ref s), x1, x2, some (.ref r), x4, some (.ref se), some (.lst (M.map spV)), x7, some (.str "undo"), some (.str x), x10, x11, x12, x13, x14] A = .nx [some (.ref s), x1, x2, some (.ref r), x4, some (.ref se), some (.lst (M.dropLast.map spV)), x7, some (.str "undo"), some (.str x), y10, y11, y12, x13, x14] A' ∧ RI A' s se mk h st k kn dp r fa T F D R M.dropLast := by
  obtain ⟨A', e, f, W⟩ := called_undo I.w (x := x)
  have I' := I.called f W
  obtain ⟨v, e1, e2, hv⟩ := told I' (by rw [List.length_dropLast]; omega)
  refine ⟨A', some (.lst (M.dropLast.map spV)), some (.bl (!M.isEmpty)), some v, ?_, I'⟩
  have nb : ∀ {B : AH}, inM (.str "undo") (.tup [.str "bad", .str "good"]) B = .ok (.bl false) B := fun {B} => by rw [in_bg]; rfl
  have lv : ∀ {B : AH}, lstV B (.lst (M.map spV)) = some (M.map spV) := fun {B} => rfl
  have cl : cutM (M.map spV) none (some (-1)) = M.dropLast.map spV := by rw [cut_last, List.map_dropLast]
  have ng : ∀ {B : AH}, negM (.int 1) B = .ok (.int (-1)) B := fun {B} => rfl
  have mc : mthB "Search" "candidates" (.ref se) A' = true := mth_at I'.w.s.se rfl
  have fin : M.isEmpty = true → M.dropLast = M := fun z => by cases M with | nil => rfl | cons a q => cases z
  unfold rt2
  cases hM : M.isEmpty with
  | true =>
    have M0 : M = [] := by cases M with | nil => rfl | cons a q => cases hM
    subst M0
    rw [List.isEmpty_nil] at e
    rw [List.dropLast_nil, List.map_nil] at e2
    have cl0 : cutM ([] : List MV) none (some (-1)) = [] := rfl
    have ne0 : ∀ {B : AH}, neM (.lst []) (.lst []) B = .ok (.bl false) B := fun {B} => rfl
    have lv0 : ∀ {B : AH}, lstV B (.lst []) = some [] := fun {B} => rfl
    rw [List.dropLast_nil]
    simp only [defM, sSeq, sIf, sSet, sRet, sRetN, sExpr, sNext, sFld_def, sSub, sRaise, eVar, eC, eBin, eUn, tB', eB, bNot, bAnd, bOr, bIf, eIf, eAnd, eOr, eNot, aNil, aCons, eTup, aLst, eFrz, eRef, pN, pA, pK, pAK, eCall, eMeth_def, eFld_def, eMake_def, bind_ok, bind_err, bind_bad, fs_ok, fs_err, fs_bad, List.map_cons, List.map_nil, List.length_cons, List.length_nil, List.replicate, List.cons_append, List.nil_append, List.getElem?_cons_zero, List.getElem?_cons_succ, List.set_cons_zero, List.set_cons_succ, sz0, sz1, sz2, sz3, sz4, sz5, if_true, and_self, Nat.reduceSub, Nat.reduceAdd, Nat.reduceLeDiff, List.lookup_cons, List.lookup_nil, eq_str_self, aSl, oNone, oSome, ng, lv0, cl0, ne0, Bool.not_true, nb, e, ne_bl, decide_true, mc, e1, isi_told hv, e2, ne_self (good_told hv)]
  | false =>
    rw [hM] at e
    simp only [defM, sSeq, sIf, sSet, sRet, sRetN, sExpr, sNext, sFld_def, sSub, sRaise, eVar, eC, eBin, eUn, tB', eB, bNot, bAnd, bOr, bIf, eIf, eAnd, eOr, eNot, aNil, aCons, eTup, aLst, eFrz, eRef, pN, pA, pK, pAK, eCall, eMeth_def, eFld_def, eMake_def, bind_ok, bind_err, bind_bad, fs_ok, fs_err, fs_bad, List.map_cons, List.map_nil, List.length_cons, List.length_nil, List.replicate, List.cons_append, List.nil_append, List.getElem?_cons_zero, List.getElem?_cons_succ, List.set_cons_zero, List.set_cons_succ, sz0, sz1, sz2, sz3, sz4, sz5, if_true, and_self, Nat.reduceSub, Nat.reduceAdd, Nat.reduceLeDiff, List.lookup_cons, List.lookup_nil, eq_str_self, aSl, oNone, oSome, ng, lv, cl, ne_sps_nil, hM, Bool.not_false, nb, e, ne_bl, decide_true, Bool.not_true, mc, e1, isi_told hv, e2, ne_self (good_told hv)]
theorem lost_l {L : List Str} {w : Str} {M' : List (Str × Str)} (hw : w ≠ "skip") (hb : sel M' "bad" ≠ []) (C : Cand F (sel M' "bad") (sel M' "good") L) : Lost F w M' ↔ L = [] := ⟨fun q => C.eq q.2.2, fun q => ⟨hw, hb, by rw [← q]; exact C⟩⟩
theorem rt_mark (I : RI A s se mk h st k kn dp r fa T F D R M) (hl : M.length ≤ 100) {w x : Str} (hw : w = "bad" ∨ w = "good" ∨ w = "skip") (hx : x ∈ keys F) : ∃ A' D' M' y10 y11 y12, rt2 [some (.ref s), x1, x2, some (.ref r), x4, some (.ref se), some (.lst (M.map spV)), x7, some (.str w), some (.str x), x10, x11, x12, x13, x14] A = .nx [some (.ref s), x1, x2, some (.ref r), x4, some (.ref se), some (.lst (M'.map spV)), x7, some (.str w), some (.str x), y10, y11, y12, x13, x14] A' ∧ RI A' s se mk h st k kn dp r fa T F D' R M' ∧ M'.length ≤ M.length + 1 := by
  obtain ⟨A', D', b, e, f, W, hb⟩ := called_mark I.w (by omega) hw hx
  have I' := I.called f W
  have lM : (M ++ [(w, x)]).length = M.length + 1 := by rw [List.length_append]; rfl
  have lM' : (if b = true then M else M ++ [(w, x)]).length ≤ M.length + 1 := by split <;> omega
  obtain ⟨v, e1, e2, hv⟩ := told I' (by omega)
  refine ⟨A', D', if b = true then M else M ++ [(w, x)], some (.lst ((M ++ [(w, x)]).map spV)), some (.bl (!b)), some v, ?_, I', lM'⟩
  have nu : ∀ {B : AH}, eqM (.str w) (.str "undo") B = .ok (.bl false) B := fun {B} => by rw [eq_str]; rcases hw with rfl | rfl | rfl <;> rfl
  have ct : catL (.lst (M.map spV)) (.lst [.tup [.str w, .str x]]) A = .ok ((M ++ [(w, x)]).map spV) A := by
    unfold catL
    dsimp only [lstV]
    rw [if_pos (by rw [List.length_map]; simp only [List.length_cons, List.length_nil]; omega), List.map_append]
    rfl
  have mc : mthB "Search" "candidates" (.ref se) A' = true := mth_at I'.w.s.se rfl
  -- the last part
  have rest : ∀ {y13 y14 : Option MV}, rt5 [some (.ref s), x1, x2, some (.ref r), x4, some (.ref se), some (.lst (M.map spV)), x7, some (.str w), some (.str x), some (.lst ((M ++ [(w, x)]).map spV)), some (.bl (!b)), x12, y13, y14] A = .nx [some (.ref s), x1, x2, some (.ref r), x4, some (.ref se), some (.lst ((if b = true then M else M ++ [(w, x)]).map spV)), x7, some (.str w), some (.str x), some (.lst ((M ++ [(w, x)]).map spV)), some (.bl (!b)), some v, y13, y14] A' := fun {y13 y14} => by
    unfold rt5
    cases b with
    | true =>
      rw [if_pos rfl] at e2 ⊢
      rw [Bool.not_true] at e ⊢
      generalize (M ++ [(w, x)]).map spV = LL at *
      simp only [defM, sSeq, sIf, sSet, sRet, sRetN, sExpr, sNext, sFld_def, sSub, sRaise, eVar, eC, eBin, eUn, tB', eB, bNot, bAnd, bOr, bIf, eIf, eAnd, eOr, eNot, aNil, aCons, eTup, aLst, eFrz, eRef, pN, pA, pK, pAK, eCall, eMeth_def, eFld_def, eMake_def, bind_ok, bind_err, bind_bad, fs_ok, fs_err, fs_bad, List.map_cons, List.map_nil, List.length_cons, List.length_nil, List.replicate, List.cons_append, List.nil_append, List.getElem?_cons_zero, List.getElem?_cons_succ, List.set_cons_zero, List.set_cons_succ, sz0, sz1, sz2, sz3, sz4, sz5, if_true, and_self, Nat.reduceSub, Nat.reduceAdd, Nat.reduceLeDiff, List.lookup_cons, List.lookup_nil, e, ne_bl, decide_true, Bool.not_true, mc, e1, isi_told hv, e2, ne_self (good_told hv)]
    | false =>
      rw [if_neg Bool.false_ne_true] at e2 ⊢
      rw [Bool.not_false] at e ⊢
      generalize (M ++ [(w, x)]).map spV = LL at *
      simp only [defM, sSeq, sIf, sSet, sRet, sRetN, sExpr, sNext, sFld_def, sSub, sRaise, eVar, eC, eBin, eUn, tB', eB, bNot, bAnd, bOr, bIf, eIf, eAnd, eOr, eNot, aNil, aCons, eTup, aLst, eFrz, eRef, pN, pA, pK, pAK, eCall, eMeth_def, eFld_def, eMake_def, bind_ok, bind_err, bind_bad, fs_ok, fs_err, fs_bad, List.map_cons, List.map_nil, List.length_cons, List.length_nil, List.replicate, List.cons_append, List.nil_append, List.getElem?_cons_zero, List.getElem?_cons_succ, List.set_cons_zero, List.set_cons_succ, sz0, sz1, sz2, sz3, sz4, sz5, if_true, and_self, Nat.reduceSub, Nat.reduceAdd, Nat.reduceLeDiff, List.lookup_cons, List.lookup_nil, e, ne_bl, decide_true, Bool.not_true, mc, e1, isi_told hv, e2, ne_self (good_told hv)]
  have wl : ∀ {ρ4 ρ12 ρ13 ρ14 : Option MV} {ρ1 : ME}, aLc (iFrz (eVar 10)) [13, 14] [13, 14] (gTupM 2 (gConsM gNm (gConsM gNm gNilM))) (qElt bYes (eVar 13)) [some (.ref s), x1, x2, some (.ref r), x4, some (.ref se), some (.lst (M.map spV)), x7, some (.str w), some (.str x), some (.lst ((M ++ [(w, x)]).map spV)), some (.bl true), x12, x13, x14] A = .ok (((M ++ [(w, x)]).map (·.1)).map MV.str) A := fun {ρ4 ρ12 ρ13 ρ14 ρ1} => by
    rw [List.map_map]
    show _ = Rs.ok ((M ++ [(w, x)]).map fun p : Str × Str => MV.str p.1) A
    rw [← flat_one (f := fun p : Str × Str => MV.str p.1)]
    refine lc_ys (inj := spV) (ys := M ++ [(w, x)]) (by generalize (M ++ [(w, x)]).map spV = LL; simp only [defM, sSeq, sIf, sSet, sRet, sRetN, sExpr, sNext, sFld_def, sSub, sRaise, eVar, eC, eBin, eUn, tB', eB, bNot, bAnd, bOr, bIf, eIf, eAnd, eOr, eNot, aNil, aCons, eTup, aLst, eFrz, eRef, pN, pA, pK, pAK, eCall, eMeth_def, eFld_def, eMake_def, bind_ok, bind_err, bind_bad, fs_ok, fs_err, fs_bad, List.map_cons, List.map_nil, List.length_cons, List.length_nil, List.replicate, List.cons_append, List.nil_append, List.getElem?_cons_zero, List.getElem?_cons_succ, List.set_cons_zero, List.set_cons_succ, sz0, sz1, sz2, sz3, sz4, sz5, if_true, and_self, Nat.reduceSub, Nat.reduceAdd, Nat.reduceLeDiff, List.lookup_cons, List.lookup_nil, iFrz]) (fun p hp => ⟨[.str p.1, .str p.2], rfl, ?_⟩) (by rw [flat_one]; exact szL_le (by rw [List.length_map, lM]; omega))
    simp only [defM, sSeq, sIf, sSet, sRet, sRetN, sExpr, sNext, sFld_def, sSub, sRaise, eVar, eC, eBin, eUn, tB', eB, bNot, bAnd, bOr, bIf, eIf, eAnd, eOr, eNot, aNil, aCons, eTup, aLst, eFrz, eRef, pN, pA, pK, pAK, eCall, eMeth_def, eFld_def, eMake_def, bind_ok, bind_err, bind_bad, fs_ok, fs_err, fs_bad, List.map_cons, List.map_nil, List.length_cons, List.length_nil, List.replicate, List.cons_append, List.nil_append, List.getElem?_cons_zero, List.getElem?_cons_succ, List.set_cons_zero, List.set_cons_succ, sz0, sz1, sz2, sz3, sz4, sz5, if_true, and_self, Nat.reduceSub, Nat.reduceAdd, Nat.reduceLeDiff, List.lookup_cons, List.lookup_nil, qElt, wipeM, setAllM, bYes]
  have ib := in_bg (A := A) (w := w)
  rw [rt2_def]
  by_cases ws : w = "skip"
  · have b0 : b = false := by
      cases b with
      | false => rfl
      | true => exact absurd ws (hb.mp rfl).1
    have ib0 : decide (w ∈ (["bad", "good"] : List Str)) = false := by rw [ws]; rfl
    rw [ib0] at ib
    subst b0
    have rest' := rest (y13 := x13) (y14 := x14)
    rw [Bool.not_false] at rest'
    generalize (M ++ [(w, x)]).map spV = LL at *
    simp only [defM, sSeq, sIf, sSet, sRet, sRetN, sExpr, sNext, sFld_def, sSub, sRaise, eVar, eC, eBin, eUn, tB', eB, bNot, bAnd, bOr, bIf, eIf, eAnd, eOr, eNot, aNil, aCons, eTup, aLst, eFrz, eRef, pN, pA, pK, pAK, eCall, eMeth_def, eFld_def, eMake_def, bind_ok, bind_err, bind_bad, fs_ok, fs_err, fs_bad, List.map_cons, List.map_nil, List.length_cons, List.length_nil, List.replicate, List.cons_append, List.nil_append, List.getElem?_cons_zero, List.getElem?_cons_succ, List.set_cons_zero, List.set_cons_succ, sz0, sz1, sz2, sz3, sz4, sz5, if_true, and_self, Nat.reduceSub, Nat.reduceAdd, Nat.reduceLeDiff, List.lookup_cons, List.lookup_nil, nu, aCat, ct, ib]
    exact rest'
  · have ib1 : decide (w ∈ (["bad", "good"] : List Str)) = true := by
      rcases hw with rfl | rfl | rfl
      · rfl
      · rfl
      · exact absurd rfl ws
    rw [ib1] at ib
    have wl' := wl (ρ4 := none) (ρ12 := none) (ρ13 := none) (ρ14 := none) (ρ1 := [])
    have bi := in_strs (A := A) (x := "bad") (ks := (M ++ [(w, x)]).map (·.1))
    by_cases sb : sel (M ++ [(w, x)]) "bad" = []
    · have b0 : b = false := by
        cases b with
        | false => rfl
        | true => exact absurd sb (hb.mp rfl).2.1
      subst b0
      have rest' := rest (y13 := x13) (y14 := x14)
      rw [Bool.not_false] at rest'
      rw [decide_eq_false (fun z => sel_bad_in.mp z sb)] at bi
      generalize (M ++ [(w, x)]).map spV = LL at *
      generalize ((M ++ [(w, x)]).map (·.1)).map MV.str = LW at *
      simp only [defM, sSeq, sIf, sSet, sRet, sRetN, sExpr, sNext, sFld_def, sSub, sRaise, eVar, eC, eBin, eUn, tB', eB, bNot, bAnd, bOr, bIf, eIf, eAnd, eOr, eNot, aNil, aCons, eTup, aLst, eFrz, eRef, pN, pA, pK, pAK, eCall, eMeth_def, eFld_def, eMake_def, bind_ok, bind_err, bind_bad, fs_ok, fs_err, fs_bad, List.map_cons, List.map_nil, List.length_cons, List.length_nil, List.replicate, List.cons_append, List.nil_append, List.getElem?_cons_zero, List.getElem?_cons_succ, List.set_cons_zero, List.set_cons_succ, sz0, sz1, sz2, sz3, sz4, sz5, if_true, and_self, Nat.reduceSub, Nat.reduceAdd, Nat.reduceLeDiff, List.lookup_cons, List.lookup_nil, nu, aCat, ct, ib, wl', bi]
      exact rest'
    · obtain ⟨L, eL, C⟩ := lcand_some I.w.w.ok I.rd (M := M ++ [(w, x)]) (by omega) (fun p hp => by
        rcases List.mem_append.mp hp with q | q
        · exact I.mF p q
        · rw [List.mem_singleton.mp q]; exact hx) sb
      have bL : b = L.isEmpty := by
        have q := hb.trans (lost_l ws sb C)
        cases L with
        | nil => exact q.mpr rfl
        | cons a l =>
          cases b with
          | false => rfl
          | true => cases q.mp rfl
      have nL := ne_tup_nil (A := A) (ks := L)
      rw [← bL] at nL
      have rest' := rest (y13 := x13) (y14 := x14)
      rw [decide_eq_true (sel_bad_in.mpr sb)] at bi
      generalize (M ++ [(w, x)]).map spV = LL at *
      generalize ((M ++ [(w, x)]).map (·.1)).map MV.str = LW at *
      simp only [defM, sSeq, sIf, sSet, sRet, sRetN, sExpr, sNext, sFld_def, sSub, sRaise, eVar, eC, eBin, eUn, tB', eB, bNot, bAnd, bOr, bIf, eIf, eAnd, eOr, eNot, aNil, aCons, eTup, aLst, eFrz, eRef, pN, pA, pK, pAK, eCall, eMeth_def, eFld_def, eMake_def, bind_ok, bind_err, bind_bad, fs_ok, fs_err, fs_bad, List.map_cons, List.map_nil, List.length_cons, List.length_nil, List.replicate, List.cons_append, List.nil_append, List.getElem?_cons_zero, List.getElem?_cons_succ, List.set_cons_zero, List.set_cons_succ, sz0, sz1, sz2, sz3, sz4, sz5, if_true, and_self, Nat.reduceSub, Nat.reduceAdd, Nat.reduceLeDiff, List.lookup_cons, List.lookup_nil, nu, aCat, ct, ib, wl', bi, eL, nL]
      exact rest'
end
end Rp
/-! SpO: _law_right, law -/
namespace Rp
open PySem PySem.Spec PyProof.Rows Mv Rf
section
variable {A : AH} {s se mk h st k kn dp r fa : Nat} {T : Tb Nat} {F : Fa} {D R : Tb Nat} {M : List (Str × Str)} {x1 x2 x7 x8 x9 x10 x11 x12 x13 x14 : Option MV}
theorem rt_turn (I : RI A s se mk h st k kn dp r fa T F D R M) (hl : M.length ≤ 100) (hF : F ≠ []) (lF : F.length ≤ 60) : ∃ A' D' M' y8 y9 y10 y11 y12, rtB [some (.ref s), x1, x2, some (.ref r), some (.lst ((keys F).map MV.str)), some (.ref se), some (.lst (M.map spV)), x7, x8, x9, x10, x11, x12, x13, x14] A = .nx [some (.ref s), x1, x2, some (.ref r), some (.lst ((keys F).map MV.str)), some (.ref se), some (.lst (M'.map spV)), x7, y8, y9, y10, y11, y12, x13, x14] A' ∧ RI A' s se mk h st k kn dp r fa T F D' R M' ∧ M'.length ≤ M.length + 1 := by
  obtain ⟨d, a, b, c, e1, d0, d1⟩ := draw_ok I.src (k := 6) (by decide) (by decide)
  have I1 := I.draw a b c
  obtain ⟨v, hv, ev⟩ := atI_mem (xs := wds.map MV.str) d0 d1
  obtain ⟨w, hw, rfl⟩ := List.mem_map.mp hv
  have lK : (keys F).length = F.length := by unfold keys; rw [List.length_map]
  have pF : 0 < F.length := List.length_pos_iff.mpr hF
  obtain ⟨q, hq⟩ : ∃ q : Int, q = ((keys F).length : Int) := ⟨_, rfl⟩
  obtain ⟨d', a', b', c', e2, d0', d1'⟩ := draw_ok I1.src (k := q) (by omega) (by omega)
  have I2 := I1.draw a' b' c'
  obtain ⟨v', hv', ev'⟩ := atI_mem (xs := (keys F).map MV.str) d0' (by rw [List.length_map]; omega)
  obtain ⟨x, hx, rfl⟩ := List.mem_map.mp hv'
  have z6 : ∀ {a b c d e f : MV}, szL [a, b, c, d, e, f] = true := fun {a b c d e f} => rfl
  have i1 : ixM (.lst [.str "bad", .str "good", .str "good", .str "skip", .str "undo", .str "bad"]) (.int d) (A.set s (srcO a b c)) = .ok (.str w) (A.set s (srcO a b c)) := by
    have : L2.atI [MV.str "bad", .str "good", .str "good", .str "skip", .str "undo", .str "bad"] d = some (.str w) := ev
    simp only [ixM, dctV, tupOf, lstV, this]
  have i2 : ∀ {B : AH}, ixM (.lst ((keys F).map MV.str)) (.int d') B = .ok (.str x) B := fun {B} => by simp only [ixM, dctV, tupOf, lstV, ev']
  have ln : ∀ {B : AH}, lenM [.lst ((keys F).map MV.str)] B = .ok (.int q) B := fun {B} => by
    unfold lenM
    dsimp only [tupOf, lstV]
    rw [List.length_map, hq]
  have st2 : ∀ {y10 : Option MV}, rtB [some (.ref s), x1, x2, some (.ref r), some (.lst ((keys F).map MV.str)), some (.ref se), some (.lst (M.map spV)), x7, x8, x9, x10, x11, x12, x13, x14] A = rt2 [some (.ref s), x1, x2, some (.ref r), some (.lst ((keys F).map MV.str)), some (.ref se), some (.lst (M.map spV)), x7, some (.str w), some (.str x), x10, x11, x12, x13, x14] ((A.set s (srcO a b c)).set s (srcO a' b' c')) := fun {y10} => by
    rw [rt_def]
    generalize (keys F).map MV.str = LK at *
    generalize M.map spV = LM at *
    simp only [defM, sSeq, sIf, sSet, sRet, sRetN, sExpr, sNext, sFld_def, sSub, sRaise, eVar, eC, eBin, eUn, tB', eB, bNot, bAnd, bOr, bIf, eIf, eAnd, eOr, eNot, aNil, aCons, eTup, aLst, eFrz, eRef, pN, pA, pK, pAK, eCall, eMeth_def, eFld_def, eMake_def, bind_ok, bind_err, bind_bad, fs_ok, fs_err, fs_bad, List.map_cons, List.map_nil, List.length_cons, List.length_nil, List.replicate, List.cons_append, List.nil_append, List.getElem?_cons_zero, List.getElem?_cons_succ, List.set_cons_zero, List.set_cons_succ, sz0, sz1, sz2, sz3, sz4, sz5, if_true, and_self, Nat.reduceSub, Nat.reduceAdd, Nat.reduceLeDiff, List.lookup_cons, List.lookup_nil, z6, e1, i1, ln, e2, i2]
  rw [st2 (y10 := none)]
  have hw' : w = "undo" ∨ (w = "bad" ∨ w = "good" ∨ w = "skip") := by
    unfold wds at hw
    simp only [List.mem_cons, List.mem_nil_iff, or_false] at hw
    rcases hw with z | z | z | z | z | z
    · exact .inr (.inl z)
    · exact .inr (.inr (.inl z))
    · exact .inr (.inr (.inl z))
    · exact .inr (.inr (.inr z))
    · exact .inl z
    · exact .inr (.inl z)
  rcases hw' with rfl | hw'
  · obtain ⟨A', y10, y11, y12, e, I'⟩ := rt_undo (x1 := x1) (x2 := x2) (x4 := some (.lst ((keys F).map MV.str))) (x7 := x7) (x10 := x10) (x11 := x11) (x12 := x12) (x13 := x13) (x14 := x14) I2 hl (x := x)
    exact ⟨A', D, M.dropLast, some (.str "undo"), some (.str x), y10, y11, y12, e, I', by rw [List.length_dropLast]; omega⟩
  · obtain ⟨A', D', M', y10, y11, y12, e, I', l⟩ := rt_mark (x1 := x1) (x2 := x2) (x4 := some (.lst ((keys F).map MV.str))) (x7 := x7) (x10 := x10) (x11 := x11) (x12 := x12) (x13 := x13) (x14 := x14) I2 hl hw' hx
    exact ⟨A', D', M', some (.str w), some (.str x), y10, y11, y12, e, I', l⟩
theorem rt_loop (hF : F ≠ []) (lF : F.length ≤ 60) : ∀ (vs : List MV) {A : AH} {D : Tb Nat} {M : List (Str × Str)} {x7 x8 x9 x10 x11 x12 : Option MV}, RI A s se mk h st k kn dp r fa T F D R M → M.length + vs.length ≤ 100 →
    ∃ A' D' M' y7 y8 y9 y10 y11 y12, runL (turn [7] gNm rtB) vs [some (.ref s), x1, x2, some (.ref r), some (.lst ((keys F).map MV.str)), some (.ref se), some (.lst (M.map spV)), x7, x8, x9, x10, x11, x12, x13, x14] A = .nx [some (.ref s), x1, x2, some (.ref r), some (.lst ((keys F).map MV.str)), some (.ref se), some (.lst (M'.map spV)), y7, y8, y9, y10, y11, y12, x13, x14] A' ∧ RI A' s se mk h st k kn dp r fa T F D' R M'
  | [], A, D, M, x7, x8, x9, x10, x11, x12, I, _ => ⟨A, D, M, x7, x8, x9, x10, x11, x12, rfl, I⟩
  | v :: vs, A, D, M, x7, x8, x9, x10, x11, x12, I, hl => by
    rw [List.length_cons] at hl
    obtain ⟨A1, D1, M1, y8, y9, y10, y11, y12, e, I1, l1⟩ := rt_turn (x1 := x1) (x2 := x2) (x7 := some v) (x8 := x8) (x9 := x9) (x10 := x10) (x11 := x11) (x12 := x12) (x13 := x13) (x14 := x14) I (by omega) hF lF
    obtain ⟨A2, D2, M2, z7, z8, z9, z10, z11, z12, e2, I2⟩ := rt_loop hF lF vs (x7 := some v) (x8 := y8) (x9 := y9) (x10 := y10) (x11 := y11) (x12 := y12) I1 (by omega)
    refine ⟨A2, D2, M2, z7, z8, z9, z10, z11, z12, ?_, I2⟩
    unfold runL
    rw [turn1]
    rw [show ([some (.ref s), x1, x2, some (.ref r), some (.lst ((keys F).map MV.str)), some (.ref se), some (.lst (M.map spV)), x7, x8, x9, x10, x11, x12, x13, x14] : ME).set 7 (some v) = [some (.ref s), x1, x2, some (.ref r), some (.lst ((keys F).map MV.str)), some (.ref se), some (.lst (M.map spV)), some v, x8, x9, x10, x11, x12, x13, x14] from rfl, e]
    exact e2
end
end Rp
/-! SpP: _law_right, law -/
namespace Rp
open PySem PySem.Spec PyProof.Rows Mv Rf
def rtR : FS := (sRet (eC (.bl true)))
def rs3 : FS := (sPar 5 6 (aCons (eMake "Search" 1 0 (fun ms _ => ms) F_Search___init__ (pA (aCons (eVar 1) aNil))) (aCons (eFrz (aLst aNil)) aNil)))
theorem right_def : b__law_right = sSeq (sAsg (eCall 2 0 (fun ms _ => ms) F__law_history (pA (aCons (eVar 0) (aCons (eC (.int 12)) aNil)))) [1, 2] (gTupM 2 (gConsM gNm (gConsM gNm gNilM)))) (sSeq (sPar 3 4 (aCons (eCall 1 0 (fun ms _ => ms) F__law_reached (pA (aCons (eVar 2) aNil))) (aCons (eFrz (fun ρ A => ((aCons (eVar 2) aNil) ρ A).bind listD)) aNil))) (sSeq rs3 (sSeq (sFor (Mv.iRng1 (aCons (eC (.int 16)) aNil)) [7] gNm rtB) rtR))) := rfl
theorem list_keys {β : Type} {A : AH} {n : Nat} {f : β → MV} {T : Tb β} (h : A[n]? = some (.dct (mapK f T))) : listD [.ref n] A = .ok ((keys T).map MV.str) A := by
  unfold listD
  dsimp only
  rw [dctV_at h]
  dsimp only
  unfold mapK keys
  rw [List.map_map, List.map_map]
  rfl
theorem right_ok {A : AH} {s : Nat} (S : Src A s) : ∃ A', F__law_right [.ref s] A = .ok (.bl true) A' := by
  obtain ⟨h, st, k, kn, dp, fa, T, F, A1, e1, S1, W1, hf, nF, lF, fk, fkn⟩ := history_ok S
  obtain ⟨A2, R, e2, f2, Rd⟩ := reached_ok W1.ok hf
  have z0 : NoIns (fun _ => False) A1 := fun _ q => q.elim
  have W2 : HW A2 h st k kn dp T F [] := W1.fr f2 z0 id id fun _ _ _ => id
  have hf2 : A2[fa]? = some (.dct (mapK faV F)) := f2.same _ _ id hf
  obtain ⟨a, b, c, es⟩ := S1.ex
  have es2 := f2.same _ _ id es
  let A3 : AH := A2 ++ [.ins "Search" [("past", .ref h), ("marks", .ref (A2.length + 1))], .lst []]
  have f3 : Fr (fun _ => False) A2 A3 := Fr.app
  have z2 : NoIns (fun _ => False) A2 := fun _ q => q.elim
  have W3 : HW A3 h st k kn dp T F [] := W2.fr f3 z2 id id fun _ _ _ => id
  have Rd3 : RdAt A3 F F A1.length fa R := Rd.fr f3 id fun _ _ _ => id
  have lkn := at_lt W1.d
  have ls := at_lt es
  have l2 := f2.len
  have I : RI A3 s A2.length (A2.length + 1) h st k kn dp A1.length fa T F [] R [] := by
    refine ⟨⟨W3, ⟨by simp [A3], by simp [A3]⟩, fun p hp => (by cases hp)⟩, ⟨a, b, c, f3.same _ _ id es2⟩, Rd3, by omega, by omega, fun x n q => ?_⟩
    obtain ⟨_, _, _, fd, q1, _, q3⟩ := Rd.e x n q
    have : x ∈ keys fd := (q3 x).mpr (.base rfl)
    refine at_ne q1 W2.d ?_
    intro z
    have z := MO.dct.inj z
    cases fd with
    | nil => cases this
    | cons p l => cases z
  obtain ⟨A4, D4, M4, y7, y8, y9, y10, y11, y12, el, I4⟩ := rt_loop (x1 := some (.ref h)) (x2 := some (.ref fa)) (x13 := none) (x14 := none) nF (by omega) (rangeM 0 16) (x7 := none) (x8 := none) (x9 := none) (x10 := none) (x11 := none) (x12 := none) I (by decide)
  refine ⟨A4, ?_⟩
  have sn := search_new (A := A2) (ρ := [some (.ref s), some (.ref h), some (.ref fa), some (.ref A1.length), some (.lst ((keys F).map MV.str)), none, none, none, none, none, none, none, none, none, none]) (i := 1) (h := h) rfl
  have sn' : eMake "Search" 1 0 (fun ms _ => ms) F_Search___init__ (pA (aCons (eVar 1) aNil)) [some (.ref s), some (.ref h), some (.ref fa), some (.ref A1.length), some (.lst ((keys F).map MV.str)), none, none, none, none, none, none, none, none, none, none] A2 = .ok (.ref A2.length) A3 := sn
  have lk := list_keys hf2
  have g2 : gTupM 2 (gConsM gNm (gConsM gNm gNilM)) (.tup [.ref h, .ref fa]) = some [.ref h, .ref fa] := rfl
  have c1 : (-1000000 : Int) ≤ 16 ∧ (16 : Int) ≤ 1000000 := by decide
  rw [List.map_nil] at el
  unfold F__law_right
  rw [right_def]
  generalize (keys F).map MV.str = LK at *
  simp only [defM, sSeq, sIf, sSet, sRet, sRetN, sExpr, sNext, sFld_def, sSub, sRaise, eVar, eC, eBin, eUn, tB', eB, bNot, bAnd, bOr, bIf, eIf, eAnd, eOr, eNot, aNil, aCons, eTup, aLst, eFrz, eRef, pN, pA, pK, pAK, eCall, eMeth_def, eFld_def, eMake_def, bind_ok, bind_err, bind_bad, fs_ok, fs_err, fs_bad, List.map_cons, List.map_nil, List.length_cons, List.length_nil, List.replicate, List.cons_append, List.nil_append, List.getElem?_cons_zero, List.getElem?_cons_succ, List.set_cons_zero, List.set_cons_succ, sz0, sz1, sz2, sz3, sz4, sz5, if_true, and_self, Nat.reduceSub, Nat.reduceAdd, Nat.reduceLeDiff, List.lookup_cons, List.lookup_nil, sAsg, e1, g2, setAllM, sPar, e2, lk]
  unfold rs3
  simp only [sPar, aCons, aNil, sn', bind_ok, fs_ok, eFrz, aLst, sz0, if_true, List.set_cons_zero, List.set_cons_succ]
  simp only [defM, sSeq, sIf, sSet, sRet, sRetN, sExpr, sNext, sFld_def, sSub, sRaise, eVar, eC, eBin, eUn, tB', eB, bNot, bAnd, bOr, bIf, eIf, eAnd, eOr, eNot, aNil, aCons, eTup, aLst, eFrz, eRef, pN, pA, pK, pAK, eCall, eMeth_def, eFld_def, eMake_def, bind_ok, bind_err, bind_bad, fs_ok, fs_err, fs_bad, List.map_cons, List.map_nil, List.length_cons, List.length_nil, List.replicate, List.cons_append, List.nil_append, List.getElem?_cons_zero, List.getElem?_cons_succ, List.set_cons_zero, List.set_cons_succ, sz0, sz1, sz2, sz3, sz4, sz5, if_true, and_self, Nat.reduceSub, Nat.reduceAdd, Nat.reduceLeDiff, List.lookup_cons, List.lookup_nil, sFor, Mv.iRng1, if_pos c1, el]
  unfold rtR
  simp only [defM, sSeq, sIf, sSet, sRet, sRetN, sExpr, sNext, sFld_def, sSub, sRaise, eVar, eC, eBin, eUn, tB', eB, bNot, bAnd, bOr, bIf, eIf, eAnd, eOr, eNot, aNil, aCons, eTup, aLst, eFrz, eRef, pN, pA, pK, pAK, eCall, eMeth_def, eFld_def, eMake_def, bind_ok, bind_err, bind_bad, fs_ok, fs_err, fs_bad, List.map_cons, List.map_nil, List.length_cons, List.length_nil, List.replicate, List.cons_append, List.nil_append, List.getElem?_cons_zero, List.getElem?_cons_succ, List.set_cons_zero, List.set_cons_succ, sz0, sz1, sz2, sz3, sz4, sz5, if_true, and_self, Nat.reduceSub, Nat.reduceAdd, Nat.reduceLeDiff, List.lookup_cons, List.lookup_nil]
def lwB : FS := (sIf (bNot (tB' (eCall 1 0 (fun ms _ => ms) F__law_right (pA (aCons (eRef (aLst (aCons (eBin mulM (eVar 2) (fun ρ A => ((aCons (eBin geM (eVar 2) (eBin powM (eC (.int 10)) (eC (.int 18)))) aNil) ρ A).bind intM)) (aCons (eBin addM (eBin modM (fun ρ A => ((aCons (eVar 2) aNil) ρ A).bind intM) (eC (.int 2147483647))) (eBin mulM (eC (.int 7919)) (eVar 1))) (aCons (eC (.int 0)) aNil))))) aNil))))) (sRet (eC (.bl false))) sNext)
theorem law_def : b_law = sSeq (sFor (Mv.iEnumM (aCons (eFrz (aSl (eFrz (aCat (eVar 0) (eFrz (aLst (aCons (eC (.int 0)) aNil))))) oNone (oSome (eC (.int 4))))) aNil)) [1, 2] (gTupM 2 (gConsM gNm (gConsM gNm gNilM))) lwB) (sRet (eC (.bl true))) := rfl
theorem lw_turn {A : AH} {x0 : Option MV} {i c : Int} : ∃ A', lwB [x0, some (.int i), some (.int c)] A = .nx [x0, some (.int i), some (.int c)] A' := by
  have p1 : (0 : Int) ≤ 18 ∧ (18 : Int) ≤ 1000 ∧ (10 : Int).natAbs < 2 ^ 64 := ⟨by omega, by omega, by decide⟩
  have q1 : (0 : Int) < 2147483647 := by decide
  have sm : (small c || small (if (decide ((10 : Int) ^ (18 : Int).toNat ≤ c)) then 1 else 0)) = true := by
    by_cases q : (decide ((10 : Int) ^ (18 : Int).toNat ≤ c)) = true
    · rw [if_pos q]; exact Bool.or_true _
    · rw [if_neg q]; exact Bool.or_true _
  have sm2 : small 7919 = true := by decide
  have S : Src (A ++ [.lst [.int (c * (if (decide ((10 : Int) ^ (18 : Int).toNat ≤ c)) then 1 else 0)), .int (c % 2147483647 + 7919 * i), .int 0]]) A.length := ⟨_, _, _, new_at⟩
  obtain ⟨A', e⟩ := right_ok S
  refine ⟨A', ?_⟩
  unfold lwB
  simp only [defM, sSeq, sIf, sSet, sRet, sRetN, sExpr, sNext, sFld_def, sSub, sRaise, eVar, eC, eBin, eUn, tB', eB, bNot, bAnd, bOr, bIf, eIf, eAnd, eOr, eNot, aNil, aCons, eTup, aLst, eFrz, eRef, pN, pA, pK, pAK, eCall, eMeth_def, eFld_def, eMake_def, bind_ok, bind_err, bind_bad, fs_ok, fs_err, fs_bad, List.map_cons, List.map_nil, List.length_cons, List.length_nil, List.replicate, List.cons_append, List.nil_append, List.getElem?_cons_zero, List.getElem?_cons_succ, List.set_cons_zero, List.set_cons_succ, sz0, sz1, sz2, sz3, sz4, sz5, if_true, and_self, Nat.reduceSub, Nat.reduceAdd, Nat.reduceLeDiff, List.lookup_cons, List.lookup_nil, powM, if_pos p1, geM, intM, mulM, sm, modM, if_pos q1, sm2, Bool.true_or, addM, e, Bool.not_true]
theorem lw_loop {x0 : Option MV} : ∀ (cs : List (Int × Int)) {A : AH} {a b : Option MV}, ∃ A' a' b', runL (turn [1, 2] (gTupM 2 (gConsM gNm (gConsM gNm gNilM))) lwB) (cs.map fun p => MV.tup [.int p.2, .int p.1]) [x0, a, b] A = .nx [x0, a', b'] A'
  | [], A, a, b => ⟨A, a, b, rfl⟩
  | p :: cs, A, a, b => by
    obtain ⟨A1, e⟩ := lw_turn (A := A) (x0 := x0) (i := p.2) (c := p.1)
    obtain ⟨A2, a', b', e2⟩ := lw_loop (x0 := x0) cs (A := A1) (a := some (.int p.2)) (b := some (.int p.1))
    refine ⟨A2, a', b', ?_⟩
    rw [List.map_cons]
    unfold runL
    rw [show turn [1, 2] (gTupM 2 (gConsM gNm (gConsM gNm gNilM))) lwB (MV.tup [.int p.2, .int p.1]) [x0, a, b] A = lwB [x0, some (.int p.2), some (.int p.1)] A from rfl, e]
    exact e2
theorem cut_int {L : List Int} {lo hi : Option Int} : cutM (L.map MV.int) lo hi = (cutM L lo hi).map MV.int := by
  unfold cutM
  rw [List.length_map, ← List.map_drop, ← List.map_take]
theorem law_plain {ns : List Int} (h : ns.length ≤ 63) : ∃ A', F_law [.lst (ns.map MV.int)] [] = .ok (.bl true) A' := by
  have ct : catL (.lst (ns.map MV.int)) (.lst [.int 0]) [] = .ok ((ns ++ [0]).map MV.int) [] := by
    unfold catL
    dsimp only [lstV]
    rw [if_pos (by rw [List.length_map]; simp only [List.length_cons, List.length_nil]; omega), List.map_append]
    rfl
  have en : enumM ((cutM (ns ++ [0]) none (some 4)).map MV.int) = ((cutM (ns ++ [0]) none (some 4)).zipIdx.map fun p => (p.1, (p.2 : Int))).map fun p => MV.tup [.int p.2, .int p.1] := by
    unfold enumM
    rw [List.zipIdx_map, List.map_map, List.map_map]
    rfl
  obtain ⟨A', a, b, e⟩ := lw_loop (x0 := some (.lst (ns.map MV.int))) ((cutM (ns ++ [0]) none (some 4)).zipIdx.map fun p => (p.1, (p.2 : Int))) (A := []) (a := none) (b := none)
  refine ⟨A', ?_⟩
  have lv : ∀ {B : AH}, lstV B (.lst ((ns ++ [0]).map MV.int)) = some ((ns ++ [0]).map MV.int) := fun {B} => rfl
  have cu := cut_int (L := ns ++ [0]) (lo := none) (hi := some 4)
  rw [← en] at e
  unfold F_law
  rw [law_def]
  generalize (ns ++ [0]).map MV.int = LN at *
  generalize (cutM (ns ++ [0]) none (some 4)).map MV.int = LC at *
  simp only [defM, sSeq, sIf, sSet, sRet, sRetN, sExpr, sNext, sFld_def, sSub, sRaise, eVar, eC, eBin, eUn, tB', eB, bNot, bAnd, bOr, bIf, eIf, eAnd, eOr, eNot, aNil, aCons, eTup, aLst, eFrz, eRef, pN, pA, pK, pAK, eCall, eMeth_def, eFld_def, eMake_def, bind_ok, bind_err, bind_bad, fs_ok, fs_err, fs_bad, List.map_cons, List.map_nil, List.length_cons, List.length_nil, List.replicate, List.cons_append, List.nil_append, List.getElem?_cons_zero, List.getElem?_cons_succ, List.set_cons_zero, List.set_cons_succ, sz0, sz1, sz2, sz3, sz4, sz5, if_true, and_self, Nat.reduceSub, Nat.reduceAdd, Nat.reduceLeDiff, List.lookup_cons, List.lookup_nil, sFor, Mv.iEnumM, aSl, aCat, ct, oNone, oSome, lv, cu, e]
end Rp
namespace K56
open PySem PySem.Spec PyProof.Rows L2 Fk Mv Rf
theorem fd_eq {K : PySem.W.Frag} {d : He.DefD} {fd fd' : FuncData} (F : FunD K d.name d.qual d.params d.body d.scope (d.dvs K) (d.kws K) (He.fAd K d.at_) fd) (F' : FunD K d.name d.qual d.params d.body d.scope (d.dvs K) (d.kws K) (He.fAd K d.at_) fd') : fd = fd' := by
  obtain ⟨oc, od, dV, kV, doc, pm, an, cdv, ct, osl, rfl, lk, _⟩ := F.ex
  obtain ⟨oc', od', dV', kV', doc', pm', an', cdv', ct', osl', rfl, lk', _⟩ := F'.ex
  have e := Option.some.inj (lk.symm.trans lk')
  have e2 := congrArg Obj.data e
  injection e2
/-- what may fly out, whatever the world -/
def CXA : CXT := fun o H s E u s' => ∃ w, L2.CX PP w o H s E u s'
theorem weak {P : Program} {w : World} {K : PySem.W.Frag} {mg : Str → Option Value} {base : Heap} {CX CX' : CXT} {k : Nat} {f : Addr} {fd : FuncData} {ps : List Str} {sp : Sp} (F : FnOk P w K mg base CX k f fd ps sp) (h : ∀ o H s E u s', CX o H s E u s' → CX' o H s E u s') : FnOk P w K mg base CX' k f fd ps sp :=
  ⟨F.len, fun A outer s H args us vs Q E hr e0 hb r hs => codeAny_mono (F.run A outer s H args us vs Q E hr e0 hb r hs) fun r s' q => by
    cases r with
    | error e => exact h _ _ _ _ _ _ q
    | ok f => cases f <;> exact q⟩
theorem rvs_ints {K : PySem.W.Frag} {ι : Io} {H : Hp} : ∀ ns : List Int, RVs K ι H (ns.map MV.int) (ns.map V.int)
  | [] => .nil
  | n :: ns => .cons (.int n) (rvs_ints ns)
theorem facts {w : World} {K : PySem.W.Frag} {h : Heap} {mg : Str → Option Value} {f : Addr} (X : K.In h) (G : h.Ns mainGlobals mg) (hfa : mg ("law" : Str) = some (.ref f)) (c : Fk.SaysZ FILE fa fn inis gets exx K) :
    ∃ (fd : FuncData) (sp : Sp), (∀ (s : Shared) (v : Value), BindsTo s fd ⟨[v], []⟩ [("_law_script", v)]) ∧
      (∀ (H : Hp) (a : Addr) (ns : List Int), ns.length ≤ 63 → Only H → SqL K H a (ns.map V.int) → sp [.ref a] H (fun v _ => v = .bl true) fun _ _ _ => False) ∧
      ∀ base : Heap, K.In base → base.Ns mainGlobals mg → FnOk PP w K mg base CXA 14 f fd ["_law_script"] sp := by
  have T : Ctx K mg := ⟨⟨h, X, G⟩, c⟩
  have e := hfa.symm.trans T.g_law
  cases e
  obtain ⟨fd, F⟩ := T.c.def_ 57 (d := d_law) rfl
  have b := FunD.bindsA (ps := ["_law_script"]) F fun _ _ _ _ _ _ us hl => match us, hl with | [_], _ => rfl
  refine ⟨fd, spM K 1 F_law, fun s v => b s [v] rfl, fun H a ns hl _ hS => ?_, fun base _ _ => ?_⟩
  · rcases hS with hS | ⟨o, its, n, lk, oc, _⟩
    · refine ⟨rfl, ⟨[], []⟩, [], [.lst (ns.map MV.int)], ⟨List.nodup_nil, rfl, fun n a o q => (by cases q), fun p q => nomatch q⟩, .cons (.lst ⟨⟨fun q => (by cases q), fun q => (by cases q)⟩, hS⟩ (rvs_ints ns)) .nil, ?_⟩
      obtain ⟨A', q⟩ := Rp.law_plain hl
      rw [q]
      rintro ι' H' u x ⟨_, r⟩
      cases r
      rfl
    · exact absurd oc (T.noL lk)
  · obtain ⟨fd', O, F'⟩ := (ok_law (w := w) (base := base) T).ex
    rw [fd_eq F F']
    exact weak O fun _ _ _ _ _ _ q => ⟨w, q⟩
end K56
open PySem PySem.W PySem.Calls PyProof.Rows
theorem PySem.Challenge.cw_forkhaul_k56_candidates_of_searches_holds : PySem.Challenge.rw_forkhaul_k56_candidates_of_searches.Holds := by
  w_on; o_law
  refine HandSHeadRun.head_any (r := OpenLaw.row PySem.Challenge.rw_forkhaul_k56_candidates_of_searches) (q := view (OpenLaw.row PySem.Challenge.rw_forkhaul_k56_candidates_of_searches).prog [61]) (H := K56.hk) (ob := K56.ob) (M := 60000) (loose := K56.loose) (d := HandSHeadRun.topDef (OpenLaw.row PySem.Challenge.rw_forkhaul_k56_candidates_of_searches).prog 61) (kwd := []) K56.ob_eq
    (by kernel_rfl) (fun s => by kernel_rfl) K56.run (by kernel_rfl) (by kernel_rfl) (by kernel_rfl) (by rfl) (by first | assumption | decide +kernel) (by decide +kernel) ⟨rfl, rfl, rfl, rfl, rfl, by decide +kernel⟩ ?hw ?hc
  case hw => w_witness2
  case hc =>
    refine L2.walk_ofE (l := PySem.Challenge.rw_forkhaul_k56_candidates_of_searches) (n := 63) (k := 14) (x := "_law_script") (CX := K56.CXA) rfl (by decide) (by kernel_rfl) ⟨rfl, by decide, by decide⟩ ?F ?cx
    case cx =>
      rintro H s e s' ⟨_, _, _, _, _, _, _, _, _, _, _, _, _, z⟩
      exact z
    intro w mg fa h Y G hmg0
    obtain ⟨K, KX, c⟩ := Y
    have hmg : mg ("law" : PySem.Str) = some (.ref fa) := by
      have e : (HandSHeadRun.topDef (OpenLaw.row PySem.Challenge.rw_forkhaul_k56_candidates_of_searches).prog 61).name = ("law" : PySem.Str) := by kernel_rfl
      rw [← e]
      exact hmg0
    obtain ⟨fd, sp, hb, hsp, hF⟩ := K56.facts (w := w) KX G hmg c
    exact ⟨K, fd, sp, KX, hb, hsp, hF⟩
