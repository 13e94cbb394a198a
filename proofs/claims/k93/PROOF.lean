import PyProof.Rows.All
import HandS.ForMost
import HandS.OwnEq
import HandS.Finally
import HandS.TryMany
import HandS.Wide
import OpenK.KOps
import PyProof.InstNe
import HandS.DeepEq
import HandS.DictEq
import HandS.ListEq
import HandS.Defaults
import PyProof.StrOps2
import HandS.Exc
import HandS.ExcOwn
import HandS.ExcField
import HandS.TryOnly
import HandS.WordsExc
import KE.KExcInit
import HandS.HotCalls
import KE.KWithOwn
import PyProof.RulesMatch
import HandS.Lambda
import KE.KLam
import Wide.All
import OpenK.AllK
import Wide.FinOn
import KE.KStateDown
import Lean
import HandS.Head0
import HandS.Head1
import HandS.Head2
import HandS.HeadHook4
import HandS.HeadNt
import HandS.HeadWalk
import HandS.Codes
import HandS.Property
import HandS.ClsMeth
import PySem.Challenge.RW_queueeffect_k93_whole_sessions_and_their
import HandS.ForExc
import HandS.ForDict
import HandS.DictComp
import HandS.IsInst
import HandS.Flow
import HandS.Style
import HandS.ListItems
import HandS.CallRecv
import HandS.Walk
set_option Elab.async false
set_option linter.all false
set_option maxRecDepth 100000
set_option maxHeartbeats 0
namespace Qe
open PySem PySem.Spec
open PyProof.Rows L2
/-! ### == , != and len of an instance by its own methods -/
/-- what K says of the class at C for !=: over object alone, with an own ==, without an own != -/
structure NeK (K : PySem.W.Frag) (C f : Addr) : Prop where
  ob : ∃ (nm q : Str) (N : Addr) (bs : List Value) (hd : Bool) (sn : List Str) (sub : List Value) (ab : Bool) (col : Option Bool) (dd : Option Addr) (k0 k1 k2 k3 k5 : Option Value) (nw : String),
    K.lookup C = some (excClassObj nm q C N bs [.type "object"] hd sn sub ab col dd k0 k1 k2 k3 k5 nw) ∧ PySem.W.nsOkIn K N = true ∧ PySem.W.nsIn K N "__eq__" = some (some (.ref f)) ∧ PySem.W.nsIn K N "__ne__" = some none
  eq : PySem.W.findIn K (.ref C) "__eq__" = some (some (.ref f))
  fn : PySem.W.isFn K (.ref f)
        = true
def neKB (K : PySem.W.Frag) (C f : Addr) : Bool := (match K.lookup C with
  | some ⟨.type "type", _, .cls cd, sl⟩ =>
        (match cd.mro, sl.toList with
    | [.ref C', .type "object"], [_, _, _, _, some (.builtin _), _] => C' == C && !cd.hasDel && PySem.W.nsOkIn K cd.ns && decide (PySem.W.nsIn K cd.ns "__eq__" = some (some (.ref f))) && decide (PySem.W.nsIn K cd.ns "__ne__" = some none)
    | _, _ => false)
  | _ => false) && (decide (PySem.W.findIn K (.ref C) "__eq__" = some (some (.ref f))) && PySem.W.isFn K (.ref f))
theorem neKB_ok {K : PySem.W.Frag} {C f : Addr} (h : neKB K C f = true) : NeK K C f := by
  obtain ⟨h0, h1⟩ := Bool.and_eq_true_iff.mp h
  obtain ⟨h2, h3⟩ := Bool.and_eq_true_iff.mp h1
  refine ⟨?_, of_decide_eq_true h2, h3⟩
  split at h0
  · rename_i dd cd sl ho
    split at h0
    · rename_i C' k0 k1 k2 k3 n k5 hm hs
      simp only [Bool.and_eq_true, beq_iff_eq, Bool.not_eq_true', decide_eq_true_eq] at h0
      obtain ⟨⟨⟨⟨e1, e2⟩, e3⟩, e4⟩, e5⟩ := h0
      subst e1
      obtain ⟨nm, bs, mro, ns, qn, hd, sn, sub, ab, col, del⟩ :=
            cd
      dsimp only at hm e2 e3 e4 e5
      subst hm e2
      have hsl : sl = #[k0, k1, k2, k3, some (.builtin n), k5] :=
            by
        obtain ⟨l⟩ := sl
        simp only at hs
        rw [hs]
      subst hsl
      exact ⟨nm, qn, ns, bs, hd, sn, sub, ab, col, dd, k0, k1, k2, k3, k5, n, ho, e3, e4, e5⟩
    · cases h0
  · cases h0
section
variable {X : Cx} {CX : CXT} {n : Nat} {C f : Addr} {fd : FuncData} {ps : List Str} {sp : Sp} {E : XK}
theorem ns_some_of {K : PySem.W.Frag} {h : Heap} {N : Addr} {mg : Str → Option Value} {x : Str} {v : Value} (X : K.In h) (G : h.Ns N mg) (e : PySem.W.nsIn K N x = some (some v)) : mg x = some v := by
  obtain ⟨o, es, ep, ho, hd, _, hf⟩ :=
        G
  unfold PySem.W.nsIn at e
  split at e
  · rename_i c d es' n' sl q
    have := X _ _ q
    rw [ho] at this
    cases this
    cases hd
    split at e
    · rename_i en he
      rw [← hf]
      unfold nsFind findBy
      rw [← Array.find?_toList, he]
      exact Option.some.inj e
    · split at e <;> cases e
  · cases e
theorem NeK.own {K : PySem.W.Frag} {h : Heap} {x : Addr} {ox : Obj} (N : NeK K C f) (X : K.In h) (hx : h.get? x = some ox) (hc : ox.cls = .ref C) : h.OwnEqNoNe x C f "object" [.type "object"] := by
  obtain ⟨nm, q, ns, bs, hd, sn, sub, ab, col, dd, k0, k1, k2, k3, k5, nw, ho, h1, h2, h3⟩ := N.ob
  have hf : (K.lookup f).map (fun o => o.cls) = some (Value.type "function") := beq_iff_eq.mp N.fn
  obtain ⟨of, hof, hoc⟩ := Option.map_eq_some_iff.mp hf
  have G : h.Ns ns (h.nsMap ns) := .of_isNs (PySem.W.isNs_of_in X h1)
  obtain ⟨y, hy⟩ : ∃ y, typeLookup (.type "object") "__eq__" = pure y := ⟨_, PySem.F.cmp_object.eq.lookup⟩
  exact ⟨ox, of, nm, q, ns, bs, hd, sn, sub, ab, col, dd, k0, k1, k2, k3, k5, nw, h.nsMap ns, y, hx, hc, X _ _ ho, G, ns_some_of X G h2, X _ _ hof, hoc, PySem.F.cmp_object.mro, hy, PySem.W.nsMap_none_of_in X h1 h3⟩
/-- two instances of C -/
def rOwn (C : Addr) (sp : Sp) (E : XK) (neg : Bool) : R2 := fun x y H Q => ∃ a b dx dy fs gs, x = .ref a ∧ y = .ref b ∧ H a = some (.ins C dx fs) ∧ H b = some (.ins C dy gs) ∧
  sp [.ref a, .ref b] H (fun v H' => ∃ k, v = .bl k ∧ Q (.bl (if neg then !k else k)) H') E
theorem own_call {A : Around} {pins : List (Addr × Obj)} {s : Shared} {σ : L2.St} {H : Hp} {a b : Addr} {Q : VK} (F : FnOk X.prog X.w X.K X.mg X.base CX n f fd ps sp) (hb : Binds X.K fd ps []) (hr : Room n A) (hfr : A.frames = X.A.frames) (hx : Passes CX X E)
    (I : Inv X pins σ H s) (h : sp [.ref a, .ref b] H Q E) : wpAny (model X.prog X.w) A (call (.ref f) [.ref a, .ref b]) (EP X pins σ Q) X.xe s := by
  have e0 : Env0 X.prog X.w X.K X.mg X.base A X.stack s H :=
        by
    have e := I.env0
    exact ⟨by rw [hfr]; exact e.frames, e.mod, e.bs, e.bsz, e.funs, e.frf, e.hok, e.bare⟩
  have hl := F.len _ _ _ _ h
  have r2 : Vals [V.ref a, V.ref b] [Value.ref a, Value.ref b] :=
        .cons rfl (.cons rfl .nil)
  refine wpAny_call (codeAny_mono (F.run A X.stack s H ⟨[.ref a, .ref b], []⟩ [.ref a, .ref b] [.ref a, .ref b] Q E hr e0 (by
    have :=
          hb s [.ref a, .ref b] I.kIn (by simpa using hl)
    simpa using this) r2 h) fun r s' hq => ?_)
  cases r with
  | error e =>
        exact hx pins σ H s e s' I hq
  | ok fl =>
    cases fl with
    | ret w => exact I.after hq
    | next => exact False.elim hq
    | brk => exact False.elim hq
    | cont => exact False.elim hq
theorem op_eqO (N : NeK X.K C f) (F : FnOk X.prog X.w X.K X.mg X.base CX n f fd ps sp) (hb : Binds X.K fd ps []) (hr : Room n X.A) (hx : Passes CX X E) : OpR X (compareOp .Eq) (rOwn C sp E false) := by
  intro pins s σ H x y u v Q I rx ry d
  obtain ⟨a, b, dx, dy, fs, gs, rfl, rfl, ha, hb', hs⟩ := d
  cases rx
  cases ry
  obtain ⟨mA, J, _⟩ :=
        ins_get I.hok ha
  obtain ⟨mB, J', _⟩ :=
        ins_get I.hok hb'
  obtain ⟨od, J, _⟩ := J.look
  obtain ⟨od', J', _⟩ :=
        J'.look
  obtain ⟨m, hF⟩ := I.fr
  show wpAny _ _ (richCompare .Eq _ _) _ _ _
  refine PySem.W.cmp_K (op := .Eq) (tb := .ref C) hr.units0 hF I.ok.mod.kin J J'.type (by simp [PySem.W.notFirst]) N.eq N.fn ?_
  refine wpAny_mono (own_call F hb hr rfl hx I hs) (fun w s' hq => ?_) fun _ _ e => e
  obtain ⟨z, H', I', rz, k, ek, q⟩ := hq
  subst ek
  cases rz
  exact ⟨.bl k, H', I', rfl, q⟩
theorem op_neO (N : NeK X.K C f) (F : FnOk X.prog X.w X.K X.mg X.base CX n f fd ps sp) (hb : Binds X.K fd ps []) (hr : Room (n + 1) X.A) (hx : Passes CX X E) : OpR X (compareOp .NotEq) (rOwn C sp E true) := by
  intro pins s σ H x y u v Q I rx ry d
  obtain ⟨a, b, dx, dy, fs, gs, rfl, rfl, ha, hb', hs⟩ := d
  cases rx
  cases ry
  obtain ⟨mA, J, _⟩ :=
        ins_get I.hok ha
  obtain ⟨mB, J', _⟩ :=
        ins_get I.hok hb'
  obtain ⟨hp, g, dd, t, os⟩ := s
  have X1 := N.own (x := a) I.kIn J.1 rfl
  refine compareOp_ne_ownEq PySem.F.cmp_object X1 J'.1 rfl (by have := hr.units; omega) ?_
  refine wpAny_mono (own_call (A := X.A.in1) F hb hr.in1 rfl hx I hs) (fun w s' hq => ?_) fun _ _ e => e
  obtain ⟨z, H', I', rz, k, ek, q⟩ := hq
  subst ek
  cases rz
  exact ⟨k, rfl, .bl (!k), H', I', rfl, q⟩
/-- len(o) -/
def rLenO (C : Addr) (sp : Sp) (E : XK) : List V → Hp → VK → Prop := fun xs H Q => ∃ a dx fs, xs = [.ref a] ∧ H a = some (.ins C dx fs) ∧ sp [.ref a] H (fun v H' => ∃ k : Nat, v = .int k ∧ (k : Int) < 2 ^ 63 ∧ Q (.int k) H') E
theorem call_lenO (hs : PySem.W.findIn X.K (.ref C) "__len__" = some (some (.ref f))) (hf : PySem.W.isFn X.K (.ref f) = true) (F : FnOk X.prog X.w X.K X.mg X.base CX n f fd ps sp) (hb : Binds X.K fd ps []) (hr : Room (n + 1) X.A) (hx : Passes CX X E) : CallR X (.builtin "len") (rLenO C sp E) := by
  intro pins s σ H xs us Q I r d
  obtain ⟨a, dx, fs, rfl, ha, h⟩ := d
  obtain ⟨u1, rfl, r1⟩ := vals1 r
  cases r1
  obtain ⟨mA, J, _⟩ :=
        ins_get I.hok ha
  obtain ⟨od, J, _⟩ := J.look
  obtain ⟨m, hF⟩ := I.fr
  refine PySem.W.len_K hF I.ok.mod.kin J hs hf ?_
  have hl := F.len _ _ _ _ h
  have r2 : Vals [V.ref a] [Value.ref a] :=
        .cons rfl .nil
  refine wpAny_call (codeAny_mono (F.run X.A.in1 X.stack s H ⟨[.ref a], []⟩ [.ref a] [.ref a] _ E hr.in1 I.env0.in1 (by
    have := hb s [.ref a] I.kIn (by simpa using hl)
    simpa using this) r2 h) fun r s' hq => ?_)
  cases r with
  | error e =>
        exact hx pins σ H s e s' I hq
  | ok fl =>
    cases fl with
    | ret w =>
      obtain ⟨z, H', I', rz, k, ek, hk, q⟩ := I.after hq
      subst ek
      obtain ⟨t, rfl⟩ := rz
      exact ⟨⟨by omega, hk⟩, .int k, H', I'.tok _, ⟨_, rfl⟩, q⟩
    | next => exact False.elim hq
    | brk => exact False.elim hq
    | cont => exact False.elim hq
end
end Qe

namespace Qe
open PySem PySem.Spec
open PyProof.Rows L2
/-! ### == of two tuples, item by item, whatever the answer -/
section
open PySem.SeqAt
open AutoSeq1
  (wpAny_loadPart')
variable {prog : Program}
      {w : World} {A : Around} {R : Result → Shared → Prop} {s : Shared}
theorem tup_turns (l m : Addr) (us ws : Array Value) (n n2 : Nat) (d1 d2 : Option Addr) (sl sl2 : Array (Option Value)) (e : Nat → Bool) (hl : s.heap.get? l = some { cls := .type "tuple", dict := d1, data := .seq us n, slots := sl })
    (hm : s.heap.get? m = some { cls := .type "tuple", dict := d2, data := .seq ws n2, slots := sl2 }) (he : ∀ j (h1 : j < us.size) (h2 : j < ws.size), EqP prog w A.in1 s us[j] ws[j] (e j))
    (q : R (.ok (.ret (.bool ((List.range (min us.size ws.size)).all e && us.size == ws.size)))) s) :
    wpAny (model prog w) A.in1 (Builtin.«tuple.__eq__» ⟨[.ref l, .ref m], []⟩) (GQ.FinOf prog w A R) (fun e s' => R (.error e) s') s := by
  have tt := AutoSeq1.sub_tuple_tuple
  have zl : (us.toList.zip ws.toList).length = min us.size ws.size := by simp
  obtain ⟨hp, g, d, tk, os⟩ :=
        s
  wp_walk using wpAny_loadPart' hl, wpAny_loadPart' hm, wpAny_forIn_list _ (fun more st s1 => st.1 = none ∧ s1 = ⟨hp, g, d, tk, os⟩ ∧ ∃ k, more = (us.toList.zip ws.toList).drop k ∧ R (.ok (.ret (.bool (((List.range (min us.size ws.size)).drop k).all e && us.size == ws.size)))) ⟨hp, g, d, tk, os⟩) _
  case turn =>
    rintro ⟨y, x⟩ more st s1 ⟨hst, rfl, k, hz, hR⟩
    have kl : k < (us.toList.zip ws.toList).length := by
      rcases Nat.lt_or_ge k (us.toList.zip ws.toList).length with z | z
      · exact z
      · rw [List.drop_of_length_le z] at hz; cases hz
    have km : k < min us.size ws.size := zl ▸ kl
    have k1 : k < us.size := Nat.lt_of_lt_of_le km (Nat.min_le_left _ _)
    have k2 : k < ws.size := Nat.lt_of_lt_of_le km (Nat.min_le_right _ _)
    rw [List.drop_eq_getElem_cons kl] at hz
    injection hz with hyx hmore
    have ey : y = us[k] := by have z := congrArg Prod.fst hyx; simpa using z
    have ex : x = ws[k] := by have z := congrArg Prod.snd hyx; simpa using z
    subst ey ex
    have dk : (List.range (min us.size ws.size)).drop k = k :: (List.range (min us.size ws.size)).drop (k + 1) := by simp [List.drop_eq_getElem_cons, km]
    rw [dk, List.all_cons] at hR
    refine wpAny_bind (he k k1 k2 _ _ ?_)
    cases ek : e k with
    | true =>
      rw [ek] at hR
      wp_walk
      exact ⟨rfl, rfl, k + 1, hmore, by simpa using hR⟩
    | false =>
      rw [ek] at hR
      wp_walk
      simpa using hR
  case fin =>
    rintro ⟨b1, b2⟩ s1 ⟨hst, rfl, k, hz, hR⟩
    simp only at hst
    subst hst
    have kg : min us.size ws.size ≤ k := by
      rcases Nat.lt_or_ge k (us.toList.zip ws.toList).length with z | z
      · rw [List.drop_eq_getElem_cons z] at hz; cases hz
      · exact zl ▸ z
    rw [List.drop_of_length_le (by simpa using kg)] at hR
    wp_walk
    simpa [Builtin.Tuple.tupleCompareSizes] using hR
  case h =>
    exact ⟨rfl, rfl, 0, rfl, by simpa using q⟩
theorem tup_rc {l m : Addr} {us ws : Array Value} {e : Nat → Bool} {E Q : Value → Shared → Prop} (hl : s.heap.IsTuple l us) (hm : s.heap.IsTuple m ws) (hu : A.units < cLine) (he : ∀ j (h1 : j < us.size) (h2 : j < ws.size), EqP prog w A.in1 s us[j] ws[j] (e j))
    (q : Q (.bool ((List.range (min us.size ws.size)).all e && us.size == ws.size)) s) : wpAny (model prog w) A (richCompare .Eq (.ref l) (.ref m)) Q E s := by
  obtain ⟨⟨c1, d1, dt1, sl1⟩, o1, k1, n1, z1⟩ := id hl
  obtain ⟨⟨c2, d2, dt2, sl2⟩, o2, k2, n2, z2⟩ := id hm
  simp only at k1 z1 k2 z2
  subst k1 z1 k2 z2
  refine wpAny_richCompare_same_room (op := .Eq) ⟨_, o1, rfl⟩ ⟨_, o2, rfl⟩ F.slot_tuple_eq (GQ.call_here F.slot_tuple_eq ⟨_, o1, rfl⟩ F.entry_tuple_eq (F.args_tuple_eq_2 _ _) ?_) hu
  exact tup_turns (R := wants (fun v s' => v ≠ .notImplemented ∧ Q v s') E) l m us ws n1 n2 d1 d2 sl1 sl2 e o1 o2 he ⟨(fun x => nomatch x), q⟩
end
/-- the values of a dict of ints against those of another with the same keys -/
inductive DHit (ls : List (Key × V)) : List (Key × V) → Bool → Prop
  | nil : DHit ls [] true
  | cons {k : Key} {i j : Int} {r : List (Key × V)} {b : Bool} : valV ls k = some (.int j) → DHit ls r b → DHit ls ((k, .int i) :: r) (decide (i = j) && b)
/-- data, or dicts of ints with the same keys -/
inductive EqW (K : PySem.W.Frag) (H : Hp) : V → V → Bool → Prop
  | dat {x y : V} {d e : PyData} : Dp K H x d → Dp K H y e → SeqAt.shaped d = true → SeqAt.shaped e = true → EqW K H x y (PyData.eqv d e)
  | dic {a b : Addr} {ks ls : List (Key × V)} {r : Bool} : a ≠ b → H a = some (.dK ks) → H b = some (.dK ls) → ks.length = ls.length → DHit ls ks r → EqW K H (.ref a) (.ref b) r
inductive EqWs (K : PySem.W.Frag) (H : Hp) : List V → List V → Bool → Prop
  | nil : EqWs K H [] [] true
  | cons {x y : V} {xs ys : List V} {a b : Bool} : EqW K H x y a → EqWs K H xs ys b → EqWs K H (x :: xs) (y :: ys) (a && b)
theorem EqWs.len {K : PySem.W.Frag} {H : Hp} : ∀ {xs ys : List V} {b : Bool}, EqWs K H xs ys b → xs.length = ys.length
  | _, _, _, .nil => rfl
  | _, _, _, .cons _ t => congrArg Nat.succ (EqWs.len t)
section
variable {X : Cx} {pins : List (Addr × Obj)}
      {σ : L2.St} {H : Hp} {s : Shared}
theorem dhit_run {A : Around} {ls : List (Key × V)} {vb : List (Key × Value)} (rb : KV ls vb) {ks : List (Key × V)} {b : Bool} (hd : DHit ls ks b) : ∀ {va : List (Key × Value)}, KV ks va → PySem.W.KeqHitsP X.prog X.w A s vb va b := by
  induction hd with
  | nil =>
    intro va hk
    cases hk
    exact .nil
  | @cons k i j r b0 hv hr ih =>
    intro va hk
    cases hk with
    | @cons _ q _ _ h t =>
      obtain ⟨h1, h2⟩ := h
      obtain ⟨u, hu⟩ := h2
      have rr : RelO (some (V.int j)) (valueAt vb k) := by rw [← hv]; exact rb.val k
      obtain ⟨y, hy, ry⟩ :=
            rr.some_of
      obtain ⟨key, v⟩ := q
      have h1' : k = key := h1
      subst h1'
      obtain ⟨t2, ry⟩ := ry
      subst ry
      have hu' : v = Value.int i u := hu
      subst hu'
      refine .hit hy (fun E Q hq => wpAny_eqBool_int ?_) (ih t)
      have e : (i == j) = decide (i = j) := by by_cases z : i = j <;> simp [z]
      rw [e]
      exact hq
theorem eqW_run (I : Inv X pins σ H s) {A : Around} (hu : A.units + 70 < cLine) {x y : V} {u v : Value} {b : Bool} (rx : RelV x u) (ry : RelV y v) (h : EqW X.K H x y b) : SeqAt.EqP X.prog X.w A s u v b := by
  cases h with
  | dat d1 d2 s1 s2 =>
    obtain ⟨as, r1⟩ := Dp.reads I _ _ _ d1 rx
    obtain ⟨bs, r2⟩ := Dp.reads I _ _ _ d2 ry
    exact (SeqAt.eqAt_reads _ _ A s _ _ as bs r1 r2 (SeqAt.canLay_of_shaped s1) (SeqAt.canLay_of_shaped s2) (SeqAt.room_of_shaped s1 (by omega))).eqP
  | dic hne ha hb hl hd =>
    rename_i a b' ks ls
    cases rx
    cases ry
    obtain ⟨_, ya, va, ra, da⟩ :=
          (show ObjOk X.prog X.w H s.heap a (.dK ks) from I.hok a _ ha)
    obtain ⟨_, yb, vb, rb, db⟩ := (show ObjOk X.prog X.w H s.heap b' (.dK ls) from I.hok b' _ hb)
    refine SeqAt.eqP_refs hne fun E Q q => PySem.W.rcP_dicts (knd := mixKind X.prog X.w) ya yb da db (by omega) (fun _ => dhit_run rb hd ra) E Q ?_
    have e : va.length = vb.length :=
          by rw [← ra.length, ← rb.length]; exact hl
    rw [e, beq_self_eq_true, Bool.true_and]
    exact q
theorem eqWs_run (I : Inv X pins σ H s) {A : Around} (hu : A.units + 70 < cLine) : ∀ {xs ys : List V} {us vs : List Value} {b : Bool}, Vals xs us → Vals ys vs → EqWs X.K H xs ys b →
    ∃ e : Nat → Bool, (List.range us.length).all e = b ∧ ∀ j (h1 : j < us.length) (h2 : j < vs.length), SeqAt.EqP X.prog X.w A s us[j] vs[j] (e j)
  | _, _, _, _, _, .nil, .nil, .nil => ⟨fun _ => true, rfl, fun j h1 _ => absurd h1 (Nat.not_lt_zero j)⟩
  | _, _, _, _, _, .cons rx tx, .cons ry ty, .cons h t => by
    rename_i us vs _ _ _ _ a b
    obtain ⟨e, h1, h2⟩ := eqWs_run I hu tx ty t
    refine ⟨fun j => match j with | 0 => a | j + 1 => e j, ?_, fun j k1 k2 => ?_⟩
    · rw [List.length_cons, List.range_succ_eq_map, List.all_cons, List.all_map, ← h1]
      rfl
    · cases j with
      | zero => exact eqW_run I hu rx ry h
      | succ j => exact h2 j (Nat.lt_of_succ_lt_succ k1) (Nat.lt_of_succ_lt_succ k2)
/-- t == u, item by item -/
def rTupW (K : PySem.W.Frag) : R2 := fun x y H Q => ∃ a b xs ys r, x = .ref a ∧ y = .ref b ∧ SqT K H a xs ∧ SqT K H b ys ∧ EqWs K H xs ys r ∧ Q (.bl r) H
theorem op_eqTW (hu : X.A.units + 100 < cLine) : OpR X (compareOp .Eq) (rTupW X.K) := by
  intro pins s σ H x y
  intro v u Q I rx ry h
  obtain ⟨a, b, xs, ys, r, rfl, rfl, ha, hb, hw, q⟩ := h
  cases rx
  cases ry
  obtain ⟨us, r1, p1, _⟩ := I.tuple ha
  obtain ⟨ws, r2, p2, _⟩ := I.tuple hb
  obtain ⟨e, he, hj⟩ := eqWs_run I (A := X.A.in1) (by show X.A.units + 1 + 70 < _; omega) r1 r2 hw
  have hlen : us.length = ws.length := by rw [← r1.length, ← r2.length]; exact hw.len
  refine tup_rc (e := e) p1 p2 (by omega) (fun j h1 h2 => ?_) ⟨.bl r, H, I, ?_, q⟩
  · have z := hj j (by simpa using h1) (by simpa using h2)
    simpa using z
  · show Value.bool _ = Value.bool r
    rw [List.size_toArray, List.size_toArray, ← hlen, Nat.min_self, he, beq_self_eq_true, Bool.and_true]
end
/-! ### text * n -/
def repS (z : Str) (n : Nat) : Str := ⟨(List.replicate n z.cps.toList).flatten.toArray⟩
def rMulS : R2 := fun x y H Q => ∃ (z : Str) (n : Int), x = .str z ∧ y = .int n ∧ 2 ≤ n ∧ n ≤ 10000 ∧ 1 ≤ z.length ∧ z.length ≤ 10000 ∧ z.length * n.toNat ≤ 100000 ∧ Q (.str (repS z n.toNat)) H
theorem fold_rep (a : Array Nat) : ∀ (n : Nat) (l : List Nat), (List.replicate n a).foldl (· ++ ·) l.toArray = (l ++ (List.replicate n a.toList).flatten).toArray
  | 0, l => by simp
  | n + 1, l => by
    rw [List.replicate_succ, List.foldl_cons]
    have e : l.toArray ++ a = (l ++ a.toList).toArray := by simp
    rw [e, fold_rep a n]
    simp [List.replicate_succ]
theorem op_mulS {X : Cx} : OpR X (binaryOp .Mult) rMulS := by
  intro pins s σ H x y
  intro v u Q I rx ry h
  obtain ⟨z, n, rfl, rfl, h2, h3, h4, h5, h6, q⟩ := h
  obtain ⟨t, rfl⟩ := rx
  obtain ⟨t2, rfl⟩ := ry
  have hn1 : ¬ n < 1 := by omega
  have hone : (n == 1 || z.length == 0) = false := by
    have e1 : (n == 1) = false := by simp; omega
    have e2 : (z.length == 0) = false := by simp; omega
    rw [e1, e2]; rfl
  refine PySem.P.mul_str ?_ (fun _ _ => ?_) (fun _ _ => ?_) ?_
  · rw [decide_eq_false (by omega), decide_eq_false (by omega)]; rfl
  · intro hgt
    have a1 : (z.length : Int) * n ≤ 2 ^ 63 - 1 := by
      obtain ⟨m, rfl⟩ : ∃ m : Nat, n = m := ⟨n.toNat, by omega⟩
      have h7 : z.length * m ≤ 100000 := h6
      have h8 : (z.length : Int) * (m : Int) = ((z.length * m : Nat) : Int) := by simp
      rw [h8]
      omega
    have a2 := Int.le_ediv_of_mul_le (by omega : (0 : Int) < n) a1
    omega
  · have e : (z.length * n.toNat) ≤ 100000 := h6
    unfold Builtin.Str.tooLong
    have hs : (100000 : Nat) ≤ sizeLine := by decide
    exact
          decide_eq_false (by omega)
  · rw [if_neg hn1, hone, if_neg Bool.false_ne_true]
    have e := fold_rep z.cps n.toNat []
    rw [List.nil_append] at e
    have e2 : (⟨(List.replicate n.toNat z.cps).foldl (· ++ ·) #[]⟩ : Str) = repS z n.toNat := by unfold repS; rw [← e]
    rw [e2]
    have hlen : (repS z n.toNat).length = z.length * n.toNat := by
      unfold repS Str.length
      simp [Nat.mul_comm]
    have hs : (100000 : Nat) ≤ sizeLine := by decide
    exact ⟨by rw [hlen]; omega, .str (repS z n.toNat), H, I.tok _, ⟨_, rfl⟩, q⟩
end Qe

namespace PySem
namespace QeX
open PySem.W PySem.Calls
open PyProof.Rows PySem.HandSPX
open Builtin
open Builtin.ObjectAttr
/-- the first field of an exception whose class stands over a base that takes any field -/
theorem osaQ {prog : Program} {w : World} {A : Around} {R : Result → Shared → Prop} {hp : Heap} {g : Array GenState} {d : Drawn} {t : Nat} {os : OsState} {bmB : List Value} (ps : ∀ self, refuseLoop self "__setattr__" bmB = pure ()) (ho : bmB.contains (.type "object") = true)
    {K : W.Frag} {fl : Str} {tk : Tok} {v : Value} {x C : Addr} {fv : Array Value} {cd : ClassData} (KX : K.In hp) (hx : hp.get? x = some { cls := .ref C, data := .fields fv }) (hcd : W.clsIn K C = some cd) (hm : excTail bmB cd.mro = true)
    (hne : cd.mro.isEmpty = false) (hh : cd.hasDict = true) (ha : W.findIn K (.ref C) fl = some none)
    (hq : ∀ h' tk' dx, (∀ b o, b ≠ x → hp.get? b = some o → h'.get? b = some o) → hp.objs.size ≤ dx →
          dx ≠ x → h'.get? x = some { cls := .ref C, dict := some dx, data := .fields fv } →
      h'.Ns1 dx (fun y => if y = fl then some v else none) → R (.ok (.ret .none)) ⟨h', g, d, tk', os⟩) :
    codeAny (model prog w) A (.call (.builtin "object.__setattr__") ⟨[.ref x, .str fl tk, v], []⟩) R ⟨hp, g, d, t, os⟩ := by
  have J : W.InstAt hp x { cls := .ref C, data := .fields fv } C none := ⟨hx, rfl, rfl, trivial⟩
  have O := F.store_object
  have hob : cd.mro.contains (.type "object") = true := (excTail_contains "object" _ hm).trans ho
  have xn : x ≠ hp.objs.size := Nat.ne_of_lt (Heap.lt_size hx)
  have inO : W.Looks (model prog w) hp (isInstance (.ref x) (.type "object")) true := J.type.andThen (W.looks_mroIn KX (by unfold W.mroIn; rw [hcd, Option.bind_some, if_neg (by rw [hne]; decide), hob]))
  refine codeAny_call_builtin O.slot.plain O.entry (@W.check_slot (model prog w) _ _ ⟨hp, g, d, t, os⟩ "object.__setattr__" "object" "__setattr__" (.ref x) [.str fl tk, v] [] _ O.kind O.split inO (O.args (.ref x) (.str fl tk) v) ?_)
  have lm : W.Looks (model prog w) hp (mroOf (.ref C)) cd.mro := (W.looks_clsIn KX hcd).andThen .now
  have ln : W.Looks (model prog w) hp (storeTaker? none) none := .now
  have lc : W.Looks (model prog w) hp (classData C) cd := W.looks_clsIn KX hcd
  rw [W.osa_eq, refuse_eq]
  refine wpAny_bind (wpAny_bind (J.type.at (wpAny_bind (lm.at ?_))))
  rw [excTail_pass _ (ps _) _ hm]
  refine wpAny_pure (wpAny_bind (J.type.at (wpAny_bind ((W.looks_findIn KX ha).at (wpAny_bind (ln.at ?_))))))
  show wpAny _ _ (storeInOwnDict (.ref x) (.ref C) (.str fl tk) fl v false) _ _ _
  obtain ⟨a1, a2, a3, a4, a5, a6, a7, a8, a9, a10, a11⟩ := cd
  dsimp only at hh
  subst hh
  unfold storeInOwnDict
  unfold ownDictForStores
  repeat (first | with_reducible refine store_in_new ?_ ?_ | with_reducible refine wpAny_loadPart_at hx ?_ | with_reducible refine lc.at ?_ | wp_step)
  · exact ⟨_, #[], _, (Heap.get?_update_ne _ _ _ _ xn.symm).trans (Heap.get?_push_at rfl rfl), rfl, fun e he => absurd he (by simp), fun _ => rfl⟩
  · intro h' tk' hn' hs
    have hx1 : (hp.push { cls := .type "dict", data := .dict #[] }).get? x = some { cls := .ref C, data := .fields fv } := Heap.get?_push_of_some _ hx
    refine hq h' tk' hp.objs.size (fun b o hb q => ?_) (Nat.le_refl _) xn.symm ?_ hn'
    · exact (hs.2 b (Nat.ne_of_lt (Heap.lt_size q))).trans ((Heap.get?_update_ne _ _ _ _ hb).trans (Heap.get?_push_of_some _ q))
    · exact (hs.2 x xn).trans (Heap.get?_update_self _ hx1 rfl)
theorem one_size (v : Value) : [v].length ≤ sizeLine := by
  rw [sizeLine_eq]
  exact (by decide : 1 ≤ 16777216)
theorem ldC {M : Model} {s : Shared} {name : Str} {scope : Scope} {L a : Addr} {cd : Value} {m : Str → Option Value} {x : Str} {pos : Pos} {v : Value} {Q : Value → Shared → Prop} {A : Around} {E : Value → Shared → Prop} (hn : s.heap.Ns L m) (hv : m x = some v) (h : Q v s)
    (hk : scope.kind = .function := by rfl) (hl : (envOfC name scope L a cd).kindOf x = some .local :=
          by rfl) (hd : (x == ("__debug__" : Str)) = false := by decide) :
    wpAny M A (eval (.Name x pos) (envOfC name scope L a cd)) Q E s := wpAny_Name (wpAny_loadName_local hk hl hn hv h) hd
/-- what the written part says of the class at C (over bmB), apart from its __init__ -/
structure XcT (K : Frag) (C fI : Addr) (bmB : List Value) (nw : String) (fl : Str) : Prop where
  cls : ∃ nm q N bs bm sn sub ab col dd k0 k1 k2 k3 k5, K.lookup C = some (excClassObj nm q C N bs bm true sn sub ab col dd k0 k1 k2 k3 k5 nw) ∧ excTail bmB bm = true
  sa : findIn K (.ref C) "__setattr__" = some (some (.builtin "object.__setattr__"))
  xf : L2.XfC K C
  noN : findIn K (.ref C) fl = some none
  iC : findIn K (.ref C) "__init__" = some (some (.ref fI))
  tC : typeIn K (.ref fI) = some (.type "function")
  kC : keepIn K (.ref C) = true
  exC : subIn K (.ref C) (.type "BaseException") = some true
  tyC : typeIn K (.ref C) = some (.type "type")
def xcB (K : Frag) (C fI : Addr) (bmB : List Value) (nw : String) (fl : Str) : Bool := (match K.lookup C with
  | some ⟨.type "type", _, .cls cd, sl⟩ =>
        (match cd.mro, sl.toList with
    | .ref C' :: bm, [_, _, _, _, some (.builtin n), _] => C' == C && n == nw && !cd.hasDel && excTail bmB bm && cd.hasDict
    | _, _ => false)
  | _ => false) && (decide (findIn K (.ref C) "__setattr__" = some (some (.builtin "object.__setattr__"))) && (L2.xfB K C && (decide (findIn K (.ref C) fl = some none) && (decide (findIn K (.ref C) "__init__" = some (some (.ref fI))) &&
    (decide (typeIn K (.ref fI) = some (.type "function")) && (keepIn K (.ref C) && (decide (subIn K (.ref C) (.type "BaseException") = some true) && decide (typeIn K (.ref C) = some (.type "type")))))))))
theorem xcB_ok {K : Frag} {C fI : Addr} {bmB : List Value} {nw : String} {fl : Str} (h : xcB K C fI bmB nw fl = true) : XcT K C fI bmB nw fl := by
  obtain ⟨h0, h⟩ := Bool.and_eq_true_iff.mp h
  obtain ⟨h1, h⟩ :=
        Bool.and_eq_true_iff.mp h
  obtain ⟨h2, h⟩ :=
        Bool.and_eq_true_iff.mp h
  obtain ⟨h3, h⟩ := Bool.and_eq_true_iff.mp h
  obtain ⟨h4, h⟩ := Bool.and_eq_true_iff.mp h
  obtain ⟨h5, h⟩ := Bool.and_eq_true_iff.mp h
  obtain ⟨h6, h⟩ := Bool.and_eq_true_iff.mp h
  obtain ⟨h7, h8⟩ := Bool.and_eq_true_iff.mp h
  refine ⟨?_, of_decide_eq_true h1, L2.xfB_ok h2, of_decide_eq_true h3, of_decide_eq_true h4, of_decide_eq_true h5, h6, of_decide_eq_true h7, of_decide_eq_true h8⟩
  split at h0
  · rename_i dd cd sl ho
    split at h0
    · rename_i C' bm k0 k1 k2 k3
          n k5 hm hs
      simp only [Bool.and_eq_true, beq_iff_eq, Bool.not_eq_true'] at h0
      obtain ⟨⟨⟨⟨e1, e2⟩, e3⟩, e4⟩, e5⟩ := h0
      subst e1 e2
      obtain ⟨nm, bs, mro, ns, qn, hd, sn, sub, ab, col, del⟩ :=
            cd
      dsimp only at hm e3 e5
      subst hm e3 e5
      have hsl : sl = #[k0, k1, k2, k3, some (.builtin n), k5] :=
            by
        obtain ⟨l⟩ := sl
        simp only at hs
        rw [hs]
      subst hsl
      exact ⟨nm, qn, ns, bs, bm, sn, sub, ab, col, dd, k0, k1, k2, k3, k5, ho, e4⟩
    · cases h0
  · cases h0
/-- what __init__ leaves of a fresh exception at x -/
structure InitEnd (fl : Str) (h h' : Heap) (x C dx t1 : Addr) (v : Value) : Prop where
  keep : ∀ b o, b ≠ x → h.get? b = some o → h'.get? b = some o
  obj : h'.get? x = some { cls := .ref C, dict := some dx, data := .fields #[.ref t1, .none, .none, .none, .bool false, .none] }
  dbig : h.objs.size ≤ dx
  dne : dx ≠ x
  ns : h'.Ns1 dx (fun y => if y = fl then some v else none)
/-- a made exception -/
structure OwnMade (fl : Str) (h h' : Heap) (e C d : Addr) (v : Value) : Prop where
  keep : ∀ b o, h.get? b = some o → h'.get? b = some o
  new : h.objs.size ≤ e
  obj : ∃ oe vs, h'.get? e = some oe ∧ oe.cls = .ref C ∧ oe.dict = some d ∧ oe.data = .fields vs ∧ vs[1]? = some .none
  dbig : h.objs.size ≤ d
  dne : d ≠ e
  ns : h'.Ns1 d (fun y => if y = fl then some v else none)
theorem cls_data {K : Frag} {C fI : Addr} {bmB : List Value} {nw : String} {fl : Str} (T : XcT K C fI bmB nw fl) : ∃ cd, clsIn K C = some cd ∧ excTail bmB cd.mro = true ∧ cd.mro.isEmpty = false ∧ cd.hasDict = true := by
  obtain ⟨nm, q, N, bs, bm, sn, sub, ab, col, dd, k0, k1, k2, k3, k5, hC, hbm⟩ :=
        T.cls
  exact ⟨{ name := nm, bases := bs, mro := .ref C :: bm, ns := N, qualname := q, hasDict := true, slotNames := sn, subclasses := sub, abstract := ab, collection := col, hasDel := false }, by unfold clsIn; rw [hC] <;> rfl, hbm, rfl, rfl⟩
/-- the making, from what __init__ does -/
theorem own_made {prog : Program} {w : World} {A : Around} {R : Result → Shared → Prop} {s : Shared} {K : Frag} {C fI : Addr} {bmB : List Value} {nw initId B : String} {fl : Str} (FB : ExcBaseFacts B nw initId bmB) (T : XcT K C fI bmB nw fl) {v : Value} (X : K.In s.heap) (hlim : s.heap.NoLimit)
    (ini : ∀ {A : Around} {s : Shared} {R : Result → Shared → Prop} {x t0 : Addr}, K.In s.heap → s.heap.NoLimit → s.heap.get? x = some (HandSPX.excO C t0) → A.depth < recursionLimit →
      (∀ h' tk dx, InitEnd fl s.heap h' x C dx t0 v → R (.ok (.ret .none)) { s with heap := h', toks := tk }) → codeAny (model prog w) A (.call (.ref fI) ⟨[.ref x, v], []⟩) R s)
    (hroom : A.depth + 1 < recursionLimit) (hq : ∀ h' tk e d, OwnMade fl s.heap h' e C d v → R (.ok (.ret (.ref e))) { s with heap := h', toks := tk }) :
    codeAny (model prog w) A (.call (.ref C) ⟨[v], []⟩) R s := by
  obtain ⟨nm, q, N, bs, bm, sn, sub, ab, col, dd, k0, k1, k2, k3, k5, hC, hbm⟩ :=
        T.cls
  obtain ⟨hp, g, dr, tk, os⟩ :=
        s
  have k : ∀ b o, hp.get? b = some o → ((hp.push (kdv_tup [v])).push (excO C hp.objs.size)).get? b = some o := fun b o e => Heap.get?_push_of_some _ (Heap.get?_push_of_some _ e)
  have hget : ((hp.push (kdv_tup [v])).push (excO C hp.objs.size)).get? (hp.objs.size + 1) = some (excO C hp.objs.size) := by heap_get
  refine call_own FB (fun X => excTail_contains X bm hbm) (X _ _ hC) (looks_findIn X T.iC) (fun self => bind_fn X self T.tC) (one_size v) ?_
  refine ini (s := ⟨(hp.push (kdv_tup [v])).push (excO C hp.objs.size), g, dr, tk, os⟩) (X.keeps k) (hlim.keeps k) hget ?_ fun h' tk' dx ⟨k', hx, dn, dne, hns⟩ => ?_
  · show A.depth + 1 < recursionLimit
    exact hroom
  · have old : ∀ b o, hp.get? b = some o → h'.get? b = some o := fun b o e => k' b o (Nat.ne_of_lt (Nat.lt_succ_of_lt (Heap.lt_size e))) (k b o e)
    have z : hp.objs.size + 1 + 1 ≤ dx := by
      first
        | (simpa only [Heap.size_push] using dn)
        | exact dn
        | (have q := dn; rw [Heap.size_push, Heap.size_push] at q; exact q)
    exact ⟨rfl, hq h' tk' (hp.objs.size + 1) dx ⟨old, Nat.le_succ _, ⟨_, _, hx, rfl, rfl, rfl, rfl⟩, Nat.le_trans (Nat.le_trans (Nat.le_succ _) (Nat.le_succ _)) z, dne, hns⟩⟩
/-! ### StepFailed(position) -/
def iA_StepFailed (p1 p2 : Pos) : Arguments := { posonlyargs := [], args := [{ arg := "self", annotation := none, pos := p1 }, { arg := "position", annotation := none, pos := p2 }], vararg := none, kwonlyargs := [], kw_defaults := [], kwarg := none, defaults := [] }
def iB_StepFailed (q1 q2 q3 q4 : Pos) : List Stmt := [.Assign [.Attribute (.Name "self" q1) "position" q2] (.Name "position" q3) q4]
def iS_StepFailed : Scope := { kind := .function, names := [(PySem.Str.ofString "self", .local), (PySem.Str.ofString "position", .local)], isGenerator := false, isCoroutine := false, more := [] }
/-- its __init__ at fI -/
def Ini_StepFailed (K : Frag) (fI : Addr) : Prop := ∃ (oc : Value) (od : Option Addr) (kV doc pm : Value) (an : Option Addr) (cdv ct : Value) (osl : Array (Option Value)) (p1 p2 q1 q2 q3 q4 : Pos),
    K.lookup fI = some ⟨oc, od, .func (fnOf "__init__" "StepFailed.__init__" (iA_StepFailed p1 p2) (iB_StepFailed q1 q2 q3 q4) iS_StepFailed .none kV doc pm an cdv ct), osl⟩ ∧ codeIn K cdv "StepFailed.__init__" = true
theorem ini_StepFailed {prog : Program} {w : World} {A : Around} {R : Result → Shared → Prop} {s : Shared} {K : Frag} {C fI : Addr} {bmB : List Value} {nw : String} (ps : ∀ self, refuseLoop self "__setattr__" bmB = pure ()) (hob : bmB.contains (.type "object") = true) (T : XcT K C fI bmB nw "position") (ff : Ini_StepFailed K fI) {x t0 : Addr} {v : Value}
    (X : K.In s.heap) (hlim : s.heap.NoLimit) (hx : s.heap.get? x = some (excO C t0)) (hroom : A.depth < recursionLimit)
    (hq : ∀ h' tk dx, InitEnd "position" s.heap h' x C dx t0 v → R (.ok (.ret .none)) { s with heap := h', toks := tk }) :
    codeAny (model prog w) A (.call (.ref fI) ⟨[.ref x, v], []⟩) R s := by
  obtain ⟨oc, od, kV, doc, pm, an, cdv, ct, osl, p1, p2, q1, q2, q3, q4, ho, hcd⟩ := ff
  obtain ⟨cd, hcl, hbm, hne, hdd⟩ := cls_data T
  refine Att.call_fn (binds := [("self", .ref x), ("position", v)]) X hlim ho hcd hroom (BindsTo.of_eq (by first | rfl | with_unfolding_all rfl)) (by first | rfl | decide | with_unfolding_all rfl) (fun s₁ IC => ?_) rfl rfl rfl
  obtain ⟨h₁, tk₁, rfl⟩ := IC.toInCall.same
  have k : ∀ b o, s.heap.get? b = some o → h₁.get? b = some o := IC.toInCall.keep
  have hn := IC.toInCall.ns
  have X₁ : K.In h₁ := X.keeps k
  have hx₁ := k _ _ hx
  show wpAny _ _ (execs _ _) _ _ _
  refine wpAny_execs_cons (plainObj_wpAny_Assign_Attribute ?_)
  refine ldC (v := v) hn (by first | rfl | with_unfolding_all rfl | kernel_rfl) (ldC (v := .ref x) hn (by first | rfl | with_unfolding_all rfl | kernel_rfl) ?_)
  refine set_plain X₁ (ox := excO C t0) (od := none) ⟨hx₁, rfl, rfl, trivial⟩ T.sa ?_
  refine osaQ ps hob X₁ hx₁ hcl hbm hne hdd T.noN (fun h₃ tk₃ dx k₃ dn dne hx₃ hn₃ => ?_)
  show wpAny _ _ (execs _ _) _ _ _
  have z : s.heap.objs.size < h₁.objs.size := hn.lt
  exact wpAny_execs_nil (hq h₃ tk₃ dx ⟨fun b o hb e => k₃ b o hb (k b o e), hx₃, Nat.le_of_lt (Nat.lt_of_lt_of_le z dn), dne, hn₃⟩)
/-! ### LimitExceeded(limit) -/
def iA_LimitExceeded (p1 p2 : Pos) : Arguments := { posonlyargs := [], args := [{ arg := "self", annotation := none, pos := p1 }, { arg := "limit", annotation := none, pos := p2 }], vararg := none, kwonlyargs := [], kw_defaults := [], kwarg := none, defaults := [] }
def iB_LimitExceeded (q1 q2 q3 q4 : Pos) : List Stmt := [.Assign [.Attribute (.Name "self" q1) "limit" q2] (.Name "limit" q3) q4]
def iS_LimitExceeded : Scope := { kind := .function, names := [(PySem.Str.ofString "self", .local), (PySem.Str.ofString "limit", .local)], isGenerator := false, isCoroutine := false, more := [] }
/-- its __init__ at fI -/
def Ini_LimitExceeded (K : Frag) (fI : Addr) : Prop := ∃ (oc : Value) (od : Option Addr) (kV doc pm : Value) (an : Option Addr) (cdv ct : Value) (osl : Array (Option Value)) (p1 p2 q1 q2 q3 q4 : Pos),
    K.lookup fI = some ⟨oc, od, .func (fnOf "__init__" "LimitExceeded.__init__" (iA_LimitExceeded p1 p2) (iB_LimitExceeded q1 q2 q3 q4) iS_LimitExceeded .none kV doc pm an cdv ct), osl⟩ ∧ codeIn K cdv "LimitExceeded.__init__" = true
theorem ini_LimitExceeded {prog : Program} {w : World} {A : Around} {R : Result → Shared → Prop} {s : Shared} {K : Frag} {C fI : Addr} {bmB : List Value} {nw : String} (ps : ∀ self, refuseLoop self "__setattr__" bmB = pure ()) (hob : bmB.contains (.type "object") = true) (T : XcT K C fI bmB nw "limit") (ff : Ini_LimitExceeded K fI) {x t0 : Addr} {v : Value}
    (X : K.In s.heap) (hlim : s.heap.NoLimit) (hx : s.heap.get? x = some (excO C t0)) (hroom : A.depth < recursionLimit)
    (hq : ∀ h' tk dx, InitEnd "limit" s.heap h' x C dx t0 v → R (.ok (.ret .none)) { s with heap := h', toks := tk }) :
    codeAny (model prog w) A (.call (.ref fI) ⟨[.ref x, v], []⟩) R s := by
  obtain ⟨oc, od, kV, doc, pm, an, cdv, ct, osl, p1, p2, q1, q2, q3, q4, ho, hcd⟩ := ff
  obtain ⟨cd, hcl, hbm, hne, hdd⟩ := cls_data T
  refine Att.call_fn (binds := [("self", .ref x), ("limit", v)]) X hlim ho hcd hroom (BindsTo.of_eq (by first | rfl | with_unfolding_all rfl)) (by first | rfl | decide | with_unfolding_all rfl) (fun s₁ IC => ?_) rfl rfl rfl
  obtain ⟨h₁, tk₁, rfl⟩ := IC.toInCall.same
  have k : ∀ b o, s.heap.get? b = some o → h₁.get? b = some o := IC.toInCall.keep
  have hn := IC.toInCall.ns
  have X₁ : K.In h₁ := X.keeps k
  have hx₁ := k _ _ hx
  show wpAny _ _ (execs _ _) _ _ _
  refine wpAny_execs_cons (plainObj_wpAny_Assign_Attribute ?_)
  refine ldC (v := v) hn (by first | rfl | with_unfolding_all rfl | kernel_rfl) (ldC (v := .ref x) hn (by first | rfl | with_unfolding_all rfl | kernel_rfl) ?_)
  refine set_plain X₁ (ox := excO C t0) (od := none) ⟨hx₁, rfl, rfl, trivial⟩ T.sa ?_
  refine osaQ ps hob X₁ hx₁ hcl hbm hne hdd T.noN (fun h₃ tk₃ dx k₃ dn dne hx₃ hn₃ => ?_)
  show wpAny _ _ (execs _ _) _ _ _
  have z : s.heap.objs.size < h₁.objs.size := hn.lt
  exact wpAny_execs_nil (hq h₃ tk₃ dx ⟨fun b o hb e => k₃ b o hb (k b o e), hx₃, Nat.le_of_lt (Nat.lt_of_lt_of_le z dn), dne, hn₃⟩)
end QeX
end PySem
namespace Qe
open PySem PySem.Spec
open PyProof.Rows L2
theorem relO_one {fl : Str} {v : V} {v' : Value} (r : RelV v v') (f : Str) : RelO (List.lookup f [(fl, v)]) (if f = fl then some v' else none) := by
  by_cases hw : f = fl
  · subst hw
    rw [if_pos rfl]
    have q : List.lookup f [(f, v)] = some v := by simp [List.lookup]
    rw [q]
    exact r
  · rw [if_neg hw]
    have qw : (f == fl) = false := by simpa using hw
    have q2 : List.lookup f [(fl, v)] = none := by simp [List.lookup, qw]
    rw [q2]
    trivial
/-- C(e), C with the one field fl -/
def tMkX (C : Addr) (fl : Str) (ta : TA) : L2.St → Hp → XK → Prop := fun σ H Q => ta σ H fun vs H1 => ∃ v, vs = [v] ∧ ∀ d, H1 d = none → Q (.ref C) (some d) (upd H1 d (.xd [(fl, v)]))
/-- raise C(e) -/
def tRaiseX (C : Addr) (fl : Str) (W : WX) (ta : TA) : TS := fun _ σ H => tMkX C fl ta σ H fun cls d H' => W cls d σ H'
section
variable {X : Cx} {C fI : Addr}
theorem pmk_x {nm fl : Str} {bmB : List Value} {nw initId B : String} {a : Expr} {ta : TA} {p pos : Pos} {k : Nat} (FB : PySem.ExcBaseFacts B nw initId bmB) (gC : X.mg nm = some (.ref C)) (T : PySem.QeX.XcT X.K C fI bmB nw fl)
    (ini : ∀ {v : Value} {A : Around} {s : Shared} {R : Result → Shared → Prop} {x t0 : Addr}, X.K.In s.heap → s.heap.NoLimit → s.heap.get? x = some (HandSPX.excO C t0) → A.depth < recursionLimit →
      (∀ h' tk dx, PySem.QeX.InitEnd fl s.heap h' x C dx t0 v → R (.ok (.ret .none)) { s with heap := h', toks := tk }) → codeAny (model X.prog X.w) A (.call (.ref fI) ⟨[.ref x, v], []⟩) R s)
    (hr : Room k X.A) (ha : PA X [a] ta) (hg : Gl X nm) (hdb : (nm == ("__debug__" : Str)) = false)
    (he : starEach (a :: []) X.env = (false, eval a X.env) :: starEach [] X.env := by rfl) (hpl : (backTo pos (starEach [] X.env)).any (·.1) = false := by rfl) :
    PMk X (.Call (.Name nm p) [a] [] pos) (tMkX C fl ta) := by
  intro pins s σ H Q I h
  refine
        wpAny_Call_Name_kw (ld_glob I hg gC ?_ hdb)
  refine PySem.W.callWith_K (h₀ := X.base) I.ok.mod.kin T.kC (thn (ha.run pos pins s σ H _ I h) fun us s1 hh => ?_) he hpl
  obtain ⟨vs, H1, I1, r1, v, ev, q1⟩ := hh
  subst ev
  refine ⟨I1.kIn, ?_⟩
  cases r1 with
  | cons rv rn =>
    rename_i v' us'
    cases rn
    show wpAny _ _ (call (.ref C) [v']) _ _ _
    have hlim := I1.nolimit
    obtain ⟨hp, g, dr, tk, os⟩ :=
          s1
    refine wpAny_call (PySem.QeX.own_made FB T I1.kIn hlim ini (by have := hr.dp; omega) fun h' tk' e d M => ?_)
    show MkP X pins σ Q (.ref e) ⟨h', g, dr, tk', os⟩
    obtain ⟨oe, fv, hoe, hc, hd, hdat, h1⟩ := M.obj
    have hns := M.ns
    obtain ⟨G', g1, g2⟩ := restrict h' fun b => decide (b ≠ e)
    have gk : ∀ b, b ≠ e → G'.get? b = h'.get? b := fun b hb => g1 b (decide_eq_true hb)
    have ge : G'.get? e = none := g2 e (by simp)
    have old : ∀ b o, hp.get? b = some o → G'.get? b = some o := fun b o q => (gk b (Nat.ne_of_lt (Nat.lt_of_lt_of_le (Heap.lt_size q) M.new))).trans (M.keep b o q)
    have ob : ObjOk X.prog X.w (upd H1 d (.xd [(fl, v)])) G' d (.xd [(fl, v)]) :=
      ⟨_, hns.at (fun o q => (gk d M.dne).trans q), fun f => relO_one rv f⟩
    have J : Inv X pins σ (upd H1 d (.xd [(fl, v)])) ⟨G', g, dr, tk', os⟩ := I1.laid (t' := tk') old M.dbig ob
    refine ⟨e, oe, fv, ⟨G', g, dr, tk', os⟩, _, .ref C, some d, rfl, J, fun b o q => ?_, ge, hoe, ⟨hc, hd⟩, hdat, h1, ?_, rfl, I1.bare, raises_own T.exC T.tyC, q1 d (I1.hok.fresh M.dbig)⟩
    · by_cases hb : b = e
      · have q' : G'.get? b = some o := q
        rw [hb, ge] at q'; cases q'
      · exact (gk b hb).symm.trans q
    · rw [upd_ne (Ne.symm M.dne)]
      exact I1.hok.fresh M.new
end
abbrev bm_StepFailed : List Value := [.type "RuntimeError", .type "Exception", .type "BaseException", .type "object"]
theorem ps_raise_StepFailed {X : Cx} {C fI : Addr} {a : Expr} {ta : TA} {W : WX} {p pos pos2 : Pos} {k : Nat} (hc : X.calm = true) (gC : X.mg "StepFailed" = some (.ref C)) (T : PySem.QeX.XcT X.K C fI bm_StepFailed "RuntimeError.__new__" "position") (ff : PySem.QeX.Ini_StepFailed X.K fI)
    (hr : Room k X.A) (tk : Takes X W) (ha : PA X [a] ta) (hg : Gl X "StepFailed" := by rfl)
    (he : starEach (a :: []) X.env = (false, eval a X.env) :: starEach [] X.env := by rfl) (hpl : (backTo pos (starEach [] X.env)).any (·.1) = false := by rfl) :
    PS X (.Raise (some (.Call (.Name "StepFailed" p) [a] [] pos)) none pos2) (tRaiseX C "position" W ta) :=
  ps_raise hc tk (pmk_x PySem.F.excBase_RuntimeError gC T (fun KX hl hx hrm hq => PySem.QeX.ini_StepFailed PySem.F.store_RuntimeError.passes (by decide +kernel) T ff KX hl hx hrm hq) hr ha hg (by decide) he hpl)
abbrev bm_LimitExceeded : List Value := [.type "OverflowError", .type "ArithmeticError", .type "Exception", .type "BaseException", .type "object"]
theorem ps_raise_LimitExceeded {X : Cx} {C fI : Addr} {a : Expr} {ta : TA} {W : WX} {p pos pos2 : Pos} {k : Nat} (hc : X.calm = true) (gC : X.mg "LimitExceeded" = some (.ref C)) (T : PySem.QeX.XcT X.K C fI bm_LimitExceeded "OverflowError.__new__" "limit") (ff : PySem.QeX.Ini_LimitExceeded X.K fI)
    (hr : Room k X.A) (tk : Takes X W) (ha : PA X [a] ta) (hg : Gl X "LimitExceeded" := by rfl)
    (he : starEach (a :: []) X.env = (false, eval a X.env) :: starEach [] X.env := by rfl) (hpl : (backTo pos (starEach [] X.env)).any (·.1) = false := by rfl) :
    PS X (.Raise (some (.Call (.Name "LimitExceeded" p) [a] [] pos)) none pos2) (tRaiseX C "limit" W ta) :=
  ps_raise hc tk (pmk_x PySem.F.excBase_OverflowError gC T (fun KX hl hx hrm hq => PySem.QeX.ini_LimitExceeded PySem.F.store_OverflowError.passes (by decide +kernel) T ff KX hl hx hrm hq) hr ha hg (by decide) he hpl)
end Qe

namespace Qe
open PySem PySem.Spec
open PyProof.Rows L2
section
variable {X : Cx} {pins : List (Addr × Obj)}
/-- the context of what runs while the exception at x (its traceback at t) is set aside -/
abbrev aside (X : Cx) (pins : List (Addr × Obj)) (x t : Addr) (ox ot : Obj) : Cx := X.suite x ((x, ox) :: (t, ot) :: (X.pn ++ pins))
/-- a raise within a with: noted, set aside, the exit runs (act), on it goes -/
theorem with_exc {act : Sem Flow} {D : Ends} {Wb Wout : WX} {u : Value} {s' : Shared} {pos : Pos} {xe : Value → Shared → Prop} (hs : X.stack = X.env :: X.outer) (hf : X.env.frame = some X.env.locals) (hex : X.ex = []) (ok : X.Ok) (tk : Takes X Wout)
    (hact : ∀ (x t : Addr) (ox ot : Obj) (xv tv : Array Value) (y : Value) (σ : L2.St) (H : Hp) (cls : Value) (d : Option Addr) (s : Shared), u = .ref x → Inv (aside X pins x t ox ot) [] σ H s → ox.cls = cls → ox.data = .fields xv → xv[1]? = some (.ref t) → ot.data = .fields tv → tv[1]? = some y → Wb cls d σ H →
      (∀ (s6 : Shared) (H6 : Hp), Inv (aside X pins x t ox ot) [] σ H6 s6 → Wout cls d σ H6 → wpAny (model X.prog X.w) X.A (PySem.passOn "with" (.ref x) X.env : Sem Flow) (SP X pins D) X.xe s6) →
      wpAny (model X.prog X.w) X.A act (SP X pins D) X.xe s)
    (xx : XE (X.tr (X.pn ++ pins) xe) Wb u s') :
    wpAny (model X.prog X.w) X.A (do noteFrame u X.env; setFlight u none; standAt pos; holding [u] act) (SP X pins D) X.xe s' := by
  have fr : X.A.frames = some (X.env :: X.outer) := by rw [ok.frames, hs]
  obtain ⟨x, B, sI, pb, σ, H, cls, d, rfl, Jb, nb, up, sky, nx, os, bare, hw⟩ := xx
  have Ji : Inv X pins σ H sI := Jb.ofTry ok
  have sk : Sky B (X.env :: X.outer) x (Zc cls d) X.env.locals s'.heap := by rw [← hs]; exact sky
  -- behind the note
  have key : ∀ h1, HandSPX.HeldZ B (X.env :: X.outer) x (Zc cls d) X.env.locals h1 → s'.heap.UpToSlots h1 →
      wpAny (model X.prog X.w) X.A (do setFlight (.ref x) none; standAt pos; holding [.ref x] act) (SP X pins D) X.xe { s' with heap := h1 } := fun h1 held up1 => by
    refine wpAny_bind (HandSPX.landsZ held fun h3 fl up3 => ?_)
    have J3 : Inv X pins σ H { s' with heap := h3 } := Ji.landed nb fl.1 ((up.trans up1).trans up3) os bare
    obtain ⟨f1, f2, f3, ox, xv, t, ot, tv, gx, zx, dx, v1, nt0, te, gt, dt, t3⟩ := id fl
    obtain ⟨y1, hy1⟩ : ∃ y, tv[1]? = some y := by
      have z := (Array.getElem?_eq_some_iff.mp t3).1
      exact ⟨tv[1], Array.getElem?_eq_getElem (by omega)⟩
    have nt : H t = none := (Ji.inGround nb).gone nt0
    have off : ∀ (b : Addr) (o : Obj) (fv : Array Value), h3.get? b = some o → o.data = .fields fv → b ∉ frs (X.env :: X.outer) := fun b o fv e de hm => by
      obtain ⟨_, o2, e2, nf⟩ := f3.mem hm
      have eo := Option.some.inj (e.symm.trans e2)
      rw [← eo] at nf
      exact nf _ de
    have fsIn : ∀ b, b ∈ X.fs → b ∈ frs (X.env :: X.outer) := fun b hm => by
      obtain ⟨e, he, q⟩ :=
            List.mem_filterMap.mp hm
      exact List.mem_filterMap.mpr ⟨e,
            List.mem_cons_of_mem _ he, q⟩
    have lcIn : X.env.locals ∈ frs (X.env :: X.outer) := List.mem_filterMap.mpr ⟨X.env, List.mem_cons_self, hf⟩
    have ax := off x ox xv gx dx
    have at' := off t ot tv gt dt
    have pinned : ∀ (b : Addr) (o : Obj) (fv : Array Value), h3.get? b = some o → o.data = .fields fv → H b = none → b ∉ frs (X.env :: X.outer) → h3.get? b = some o ∧ H b = none ∧ b ≠ X.env.locals ∧ b ∉ X.fs ∧ ∀ v, o.data ≠ .cell v := fun b o fv e de n nf =>
      ⟨e, n, fun z => nf (by rw [z]; exact lcIn), fun z => nf (fsIn _ z), fun v z => by rw [de] at z; cases z⟩
    have S3 : Inv (aside X pins x t ox ot) [] σ H { s' with heap := h3 } :=
      ⟨J3.ok.suite _ _, J3.os, J3.bare, J3.base, J3.loc, J3.cell, J3.free, J3.freeC, fun p hp =>
            by
        rw [List.append_nil] at hp
        rcases (List.mem_cons.mp hp) with z | hp
        · subst z; exact pinned x ox xv gx dx nx ax
        · rcases (List.mem_cons.mp hp) with z | hp
          · subst z; exact pinned t ot tv gt dt nt at'
          · exact J3.pin p hp,
                  J3.hok, J3.len⟩
    refine wpAny_bind (wpAny_standAt (wpAny_holding (hact x t ox ot xv tv y1 σ H cls d _ rfl S3 zx.1 dx v1 dt hy1 hw fun s6 H6 S6 q6 => ?_)))
    have J6 : Inv X pins σ H6 s6 := ⟨ok, S6.os, S6.bare, S6.base, S6.loc, S6.cell, S6.free, S6.freeC, fun p hp => S6.pin p (List.mem_append_left _ (List.mem_cons_of_mem _ (List.mem_cons_of_mem _ hp))), S6.hok, S6.len⟩
    obtain ⟨gx6, nx6, _⟩ := S6.pin (x, ox) (List.mem_append_left _ List.mem_cons_self)
    obtain ⟨gt6, nt6, _⟩ := S6.pin (t, ot) (List.mem_append_left _ (List.mem_cons_of_mem _ List.mem_cons_self))
    -- all that lies beside the exception
    have apart : ∀ b o, sI.heap.get? b = some o → b ≠ x ∧ b ≠ t := fun b o e => by
      by_cases hb : b ∈ frs X.stack
      · rw [hs] at hb
        exact ⟨fun z => ax (by rw [← z]; exact hb), fun z => at' (by rw [← z]; exact hb)⟩
      · have q := nb b o e hb
        exact ⟨fun z => by rw [z, f2] at q; exact (nomatch q), fun z => by rw [z, nt0] at q; exact (nomatch q)⟩
    have apart0 : ∀ b o, X.s_0.heap.get? b = some o → b ≠ x ∧ b ≠ t := fun b o e => by
      obtain ⟨o2, q⟩ := Ji.base.there b o e (by rw [hex]; simp)
      exact apart b o2 q
    obtain ⟨G, r1, r2⟩ := restrict s6.heap fun b => !(decide (b = x) || decide (b = t))
    have inG : ∀ b o, G.get? b = some o → s6.heap.get? b = some o ∧ b ≠ x ∧ b ≠ t := fun b o e => by
      cases q : (!(decide (b = x) || decide (b = t))) with
      | false => rw [r2 b q] at e; cases e
      | true =>
        rw [r1 b q] at e
        simp only [Bool.not_eq_true',
              Bool.or_eq_false_iff, decide_eq_false_iff_not] at q
        exact ⟨e, q.1, q.2⟩
    have toG : ∀ b o, b ≠ x → b ≠ t → s6.heap.get? b = some o → G.get? b = some o := fun b o n1 n2 e => by
      rw [r1 b (by simp [n1, n2])]; exact e
    have I6 : Inv X pins σ H6 { s6 with heap := G } := J6.less (fun b o e => (inG b o e).1) toG ⟨ox, xv, gx6, dx⟩ ⟨ot, tv, gt6, dt⟩ nx6 nt6 apart0 fun p hp => apart p.1 p.2 (Ji.pin p hp).1
    have gone : ∀ b, (b = x ∨ b = t) → (PySem.W.hideAll G (frs X.stack)).get? b = none := fun b hb => by
      cases q :
            (PySem.W.hideAll G (frs X.stack)).get? b with
      | none => rfl
      | some o =>
        obtain ⟨_, n1, n2⟩ := inG b o (PySem.W.of_hideAll _ q)
        exact (hb.elim n1 n2).elim
    have fly : HandSPX.FlyingZ (PySem.W.hideAll G (frs X.stack)) (X.env :: X.outer) x (Zc cls d) s6.heap :=
      ⟨fun b o e => (inG b o (PySem.W.of_hideAll _ e)).1, gone x (.inl rfl), by
        have ff := funFrames_none (B :=
              PySem.W.hideAll G (frs X.stack)) J6.stack fun b hb => PySem.W.hideAll_none _ hb
        rw [← hs]; exact ff, ox, xv, t, ot, tv, gx6, zx, dx, v1, gone t (.inr rfl), te, gt6, dt, t3⟩
    show wpAny _ _ (PySem.passOn "with" (.ref x) X.env) _ _ s6
    unfold PySem.passOn
    refine wpAny_bind (wpAny_field gx6 dx v1 ?_)
    rw [if_neg (show ¬ ((Value.ref t == Value.none) = true) from by simp)]
    have on : wpAny (model X.prog X.w) X.A (setFlight (.ref x) X.env.frame) (fun _ s7 => wpAny (model X.prog X.w) X.A (throw (.ref x) : Sem Flow) (SP X pins D) X.xe s7) X.xe s6 := by
      rw [hf]
      refine HandSPX.setFlight_upZ fly fun h7 hh7 up7 => wpAny_throw (tk _ _ ?_)
      exact ⟨x, PySem.W.hideAll G (frs X.stack), { s6 with heap := G }, pins, σ, H6, cls, d, rfl, I6, fun b o e hb => PySem.W.hideAll_get _ e hb, (Heap.UpToSlots.of_keeps fun b o e => (inG b o e).1).trans up7, .inr (.inr (by rw [← hs] at hh7; exact hh7)), nx6, rfl, J6.bare, q6⟩
    first
      | exact wpAny_bind (wpAny_pure (wpAny_bind on))
      | exact wpAny_bind on
  refine wpAny_bind ?_
  rcases sk with ⟨hB, hn, hl, oe, vs, he0, hz, hd, hv1⟩ | fl | hh
  · exact HandSPX.look_newZ Zc.steady fr hl hf he0 hB hn hd hv1 hz key
  · exact HandSPX.looks_onZ Zc.steady fr hf fl key
  · exact HandSPX.againZ hf hh.2.2.2 (key s'.heap hh (Heap.UpToSlots.refl _))
end

/-! ### a def called while an exception is set aside; it raises nothing -/
structure FnW (P : Program) (w : World) (K : PySem.W.Frag) (mg : Str → Option Value) (base : Heap) (k : Nat) (f : Addr) (fd : FuncData) (ps : List Str) (sp : Sp) : Prop where
  len : ∀ vs H Q E, sp vs H Q E →
        vs.length = ps.length
  run : ∀ (A : Around) (outer : List Env) (s : Shared) (H : Hp) (args : Args) (us : List Value) (vs : List V) (Q : VK) (p : Addr × Obj), L2H.RoomH k A → L2H.PinOk outer H s p → Env0 P w K mg base A outer s H → BindsTo s fd args (ps.zip us) → Vals vs us → sp vs H Q E0 →
    codeAny (model P w) A (.call (.ref f) args) (CR CX0 outer P w H s Q E0) s
section
variable {P : Program} {w : World} {K : PySem.W.Frag}
      {mg : Str → Option Value} {base : Heap}
theorem fnw_of {x qual : Str} {params : Arguments} {body : List Stmt} {scope : Scope} {dvs : List V} {kws : List (Str × V)} {f : Addr} {fd : FuncData} {k : Nat} {N ps : List Str} {sp : Sp} (F : FunD K x qual params body scope dvs kws f fd) (S : FnScope N ps scope)
    (len : ∀ vs H Q E, sp vs H Q E →
          vs.length = ps.length)
    (hbody : ∀ (cdv : Value) (A : Around) (outer : List Env) (s : Shared) (H : Hp) (vs : List V) (Q : VK) (p : Addr × Obj), L2H.RoomH k (A.deeper (envOfC qual scope s.heap.objs.size f cdv)) → sp vs H Q E0 →
      ∃ t, PSs (L2H.cxH CX0 P w K mg base N qual scope f cdv A outer s H E0 p) body t ∧ t { nx := fun _ H' => Q .non H', rt := Q } (L2.start N vs) H) : FnW P w K mg base (k + 1) f fd ps sp := by
  obtain ⟨oc, od, dV, kV, doc, pm, an, cdv, ct, osl, rfl, lk, hcd, _, _⟩ :=
        F.ex
  refine ⟨len, fun A outer s H args us vs Q p hr hpin e0 hb r hsp => ?_⟩
  have nl := len _ _ _ _ hsp
  have KX : K.In s.heap :=
        e0.mod.kin.keeps fun b o e => (e0.bs b o e).1
  have lim : s.heap.NoLimit :=
        e0.mod.nolimit.keeps fun b o e => (e0.bs b o e).1
  have kinds : ∀ y ∈ ps.zip us, scope.names.lookup y.1 = some .local ∨ (scope.names.lookup y.1 = some .cell ∧ ((cellsFrom (s.heap.objs.size + 1) scope.names []).lookup y.1).isSome = true) := fun y hy =>
    (S.par y.1 (List.of_mem_zip hy).1).imp id fun q => ⟨q, PySem.W.cellsFrom_some _ _ _ (.inl q)⟩
  refine codeAny_call_function hr.depth (KX _ _ lk)
        rfl S.co S.gen rfl (PySem.W.codeRec_of KX hcd) (hb _ _ _ _ ?_)
  refine wpAny_newFunctionEnv_cells S.kind kinds fun env he s1 x => ?_
  subst he
  refine ⟨lim.keeps x.toInCall.keep,
        codeAny_func ?_⟩
  obtain ⟨t, ht, hq⟩ := hbody cdv A outer s H vs Q p (hr.deeper _) hsp
  have J0 : Inv (L2H.cxH CX0 P w K mg base N qual scope f cdv A outer s H E0 p) [] (L2.start N vs) H s1 := L2H.inv_startH S hpin e0 nl r x
  refine wpAny_mono (ht.run [] s1 (L2.start N vs) H _ J0 hq) (fun fl s' hs => ?_) fun e s' hs => ?_
  · cases fl with
    | ret u =>
      obtain ⟨v, σ', H', J, rv, q⟩ :=
            hs
      exact ⟨v, H', J.os, J.bare, J.base, J.hok, rv, q⟩
    | next =>
      obtain ⟨σ', H', J, q⟩ := hs
      exact ⟨.non, H', J.os, J.bare, J.base, J.hok, rfl, q⟩
    | brk =>
      obtain ⟨_, _, _, q⟩ := hs
      exact q.elim
    | cont =>
      obtain ⟨_, _, _, q⟩ := hs
      exact q.elim
  · exact hs
end
/-! ### with C(..): body, C an own class -/
/-- what K says of the class -/
structure WithC (K : PySem.W.Frag) (C fe fx : Addr) : Prop where
  en : PySem.W.findIn K (.ref C) "__enter__" = some (some (.ref fe))
  enF : PySem.W.isFn K (.ref fe) = true
  ex : PySem.W.findIn K (.ref C) "__exit__" = some (some (.ref fx))
  exF : PySem.W.isFn K (.ref fx) = true
def withCB (K : PySem.W.Frag) (C fe fx : Addr) : Bool := decide (PySem.W.findIn K (.ref C) "__enter__" = some (some (.ref fe))) && (PySem.W.isFn K (.ref fe) && (decide (PySem.W.findIn K (.ref C) "__exit__" = some (some (.ref fx))) && PySem.W.isFn K (.ref fx)))
theorem withCB_ok {K : PySem.W.Frag} {C fe fx : Addr} (h : withCB K C fe fx = true) : WithC K C fe fx := by
  obtain ⟨h1, h⟩ :=
        Bool.and_eq_true_iff.mp h
  obtain ⟨h2, h⟩ :=
        Bool.and_eq_true_iff.mp h
  obtain ⟨h3, h4⟩ :=
        Bool.and_eq_true_iff.mp h
  exact ⟨of_decide_eq_true h1, h2, of_decide_eq_true h3, h4⟩
/-- the wish of the body's exceptions: the exit's promise, then Wout -/
def wWith (k : Addr) (spX : Sp) (Wout : WX) : WX := fun cls d σ H => (∃ v, RelV v cls) ∧ ∀ x y z, spX [.ref k, x, y, z] H (fun v H' => v = .non ∧ Wout cls d σ H') E0
def tWith (C : Addr) (spE spX : Sp) (Wout : WX) (tc : TE) (tb : WX → TS) : TS := fun D σ H => tc σ H fun v H1 => ∃ k dx fs, v = .ref k ∧ H1 k = some (.ins C dx fs) ∧ spE [.ref k] H1 (fun _ H2 =>
  tb (wWith k spX Wout) { nx := fun σ' H' => spX [.ref k, .non, .non, .non] H' (fun _ H'' => D.nx σ' H'') E0, rt := fun _ _ => False } σ H2) E0
section
variable {X : Cx}
theorem run0 {n : Nat} {f : Addr} {fd : FuncData} {ps : List Str} {sp : Sp} {pins : List (Addr × Obj)} {σ : L2.St} {H : Hp} {s : Shared} {Q : VK} {us : List Value} {vs : List V} {E : Value → Shared → Prop} (F : FnOk X.prog X.w X.K X.mg X.base CX0 n f fd ps sp) (hr : Room n X.A) (hb : Binds X.K fd ps [])
    (I : Inv X pins σ H s) (r : Vals vs us) (h : sp vs H Q E0) : wpAny (model X.prog X.w) X.A (call (.ref f) us) (EP X pins σ Q) E s := by
  have hl : us.length = ps.length :=
        by rw [← r.length]; exact F.len _ _ _ _ h
  have b :=
        hb s us I.kIn (by rw [List.append_nil]; exact hl)
  rw [List.append_nil] at b
  refine wpAny_call (codeAny_mono (F.run X.A X.stack s H ⟨us, []⟩ us vs Q E0 hr I.env0 b r h) fun r s' hq => ?_)
  cases r with
  | error e =>
        exact (show False from hq).elim
  | ok fl =>
    cases fl with
    | ret u => exact I.after hq
    | next => exact False.elim hq
    | brk => exact False.elim hq
    | cont => exact False.elim hq
theorem body_run {body : List Stmt} {tb : WX → TS} {W : WX} {Dn : Ends} {Qk : Flow → Shared → Prop} {EE : Value → Shared → Prop} {pins : List (Addr × Obj)} {s : Shared} {σ : L2.St} {H : Hp} (hb : ∀ (W : WX) (pn : List (Addr × Obj)) (xe : Value → Shared → Prop), Takes (X.tr pn xe) W → PSs (X.tr pn xe) body (tb W))
    (I : Inv X pins σ H s) (h : tb W Dn σ H) (hok : ∀ g s', SP (X.tr (X.pn ++ pins) EE) [] Dn g s' → Qk g s') (hx : ∀ u s', XE (X.tr (X.pn ++ pins) EE) W u s' → EE u s') : wpAny (model X.prog X.w) X.A (execs body X.env) Qk EE s :=
  wpAny_mono ((hb W (X.pn ++ pins) EE hx).run [] s σ H Dn (I.toTry _) h) hok fun _ _ z => z
open PySem.W in
theorem ps_with {C fe fx : Addr} {n : Nat} {fdE fdX : FuncData} {pE pX : List Str} {spE spX : Sp} {ctx : Expr} {body : List Stmt} {pos : Pos} {tc : TE} {tb : WX → TS} {Wout : WX} (hs : X.stack = X.env :: X.outer) (hf : X.env.frame = some X.env.locals) (hex : X.ex = []) (tk : Takes X Wout) (W : WithC X.K C fe fx)
    (hc : PE X ctx tc) (FE : FnOk X.prog X.w X.K X.mg X.base CX0 n fe fdE pE spE) (bE : L2.Binds X.K fdE pE []) (FX : FnOk X.prog X.w X.K X.mg X.base CX0 n fx fdX pX spX) (bX : L2.Binds X.K fdX pX []) (FW : FnW X.prog X.w X.K X.mg X.base n fx fdX pX spX) (hr : Room n X.A)
    (hb : ∀ (W : WX) (pn : List (Addr × Obj)) (xe : Value → Shared → Prop), Takes (X.tr pn xe) W → PSs (X.tr pn xe) body (tb W)) :
    PS X (.With [⟨ctx, none⟩] body pos) (tWith C spE spX Wout tc tb) := by
  refine ⟨fun pins s σ H D I h =>
        ?_⟩
  have ok := I.ok
  refine PySem.W.kw_exec0 (thn (hc.run pins s σ H _ I h) fun u s1 ⟨v, H1, I1, r1, k, dx, fs, ev, hk, h1⟩ => ?_)
  subst ev
  obtain rfl : u = Value.ref k := r1
  obtain ⟨mA, O, _⟩ := ins_get I1.hok hk
  obtain ⟨od, J, _⟩ := O.look
  have KX := I1.kIn
  obtain ⟨cd, hcd, ae⟩ := kw_along W.en
  obtain ⟨cd', hcd', ax⟩ := kw_along W.ex
  cases hcd.symm.trans hcd'
  show wpAny _ _ (withItem false ctx.pos X.env (pure (.ref k)) none (execs body X.env)) _ _ _
  have L1 : Looks (model X.prog X.w) s1.heap (specialOnItsLine (.ref k) "__enter__") (some (.ref fe), cd.mro) := kw_special KX J hcd ae
  have L2' : Looks (model X.prog X.w) s1.heap (specialOnItsLine (.ref k) "__exit__") (some (.ref fx), cd.mro) := kw_special KX J hcd ax
  have L3 : Looks (model X.prog X.w) s1.heap (bindSpecial (.ref fe) (.ref k)) (.ref fe, [.ref k]) := bind_fn KX _ (beq_iff_eq.mp W.enF)
  have L4 : Looks (model X.prog X.w) s1.heap (bindSpecial (.ref fx) (.ref k)) (.ref fx, [.ref k]) := bind_fn KX _ (beq_iff_eq.mp W.exF)
  have L5 : Looks (model X.prog X.w) s1.heap (aMethodOfAnotherBuiltinTypeStops (.ref fe) cd.mro) () := Looks.of_pure rfl
  have L6 : Looks (model X.prog X.w) s1.heap (aMethodOfAnotherBuiltinTypeStops (.ref fx) cd.mro) () := Looks.of_pure rfl
  unfold withItem
  refine
        wpAny_bind (wpAny_pure ?_)
  refine
        wpAny_bind (wpAny_standAt ?_)
  simp only [Bool.false_eq_true,
        if_false]
  obtain ⟨hp, g, dd, tt, os⟩ := s1
  kw_lk
  refine wpAny_mono (run0 (vs := [V.ref k]) FE hr bE I1 (.cons rfl .nil) h1) (fun u2 s2 hq => ?_) fun _ _ z => z
  obtain ⟨v2, H2, I2, _, h2⟩ := hq
  kw_lk
  refine
        wpAny_attempt (kw_held ?_)
  show wpAny _ _ (execs body X.env) _ _ _
  refine body_run hb I2 h2 (fun g s3 z => ?_) (fun u3 s3 xx => ?_)
  · cases g with
    | ret u =>
      obtain ⟨_, _, _, _, _, q⟩ := z
      exact False.elim q
    | brk =>
      obtain ⟨_, _, _, q⟩ := z
      exact False.elim q
    | cont =>
      obtain ⟨_, _, _, q⟩ := z
      exact False.elim q
    | next =>
      obtain ⟨σ3, H3, J3, q3⟩ := z
      have I3 : Inv X pins σ3 H3 s3 := J3.ofTry ok
      refine wpAny_bind (wpAny_standAt (wpAny_bind (wpAny_holding (wpAny_mono (run0 (vs := [V.ref k, V.non, V.non, V.non]) FX hr bX I3 (.cons rfl (.cons rfl (.cons rfl (.cons rfl .nil)))) q3) (fun u5 s5 hq => ?_) fun _ _ z => z))))
      obtain ⟨v5, H5, I5, _, q5⟩ := hq
      exact wpAny_pure ⟨σ3, H5, I5, q5⟩
  · dsimp only
    refine with_exc (D := D) (pos := ctx.pos) hs hf hex ok tk (fun x t ox ot xv tv y σ3 H3 cls d s4 eu S4 oc ov v1 dt hy hw pass => ?_) xx
    subst eu
    obtain ⟨gx, nx, nlx, nfx, ncx⟩ := S4.pin (x, ox) (List.mem_append_left _ List.mem_cons_self)
    obtain ⟨gt, nt, _⟩ := S4.pin (t, ot) (List.mem_append_left _ (List.mem_cons_of_mem _ List.mem_cons_self))
    obtain ⟨⟨vc, rc⟩, hw⟩ := hw
    refine wpAny_bind (wpAny_typeOf_ref gx ?_)
    rw [oc]
    have tail : ∀ tb vt, RelV vt tb → wpAny (model X.prog X.w) X.A (withItem.marked (.ref x) (.call (.ref fx) ⟨[.ref k] ++ [cls, .ref x, tb], []⟩) >>= fun r => pure r >>= fun r => match r with
        | Value.none => pure false >>= fun swallow => if swallow = true then (do rule "with.exit-swallows"; setFlight (.ref x) none; pure Flow.next : Sem Flow) else PySem.passOn "with" (.ref x) X.env
        | Value.bool b => pure b >>= fun swallow => if swallow = true then (do rule "with.exit-swallows"; setFlight (.ref x) none; pure Flow.next : Sem Flow) else PySem.passOn "with" (.ref x) X.env
        | _ => withItem.marked (.ref x) (.call (.type "bool") ⟨[r], []⟩) >>= fun v => pure (v == Value.bool true) >>= fun swallow => if swallow = true then (do rule "with.exit-swallows"; setFlight (.ref x) none; pure Flow.next : Sem Flow) else PySem.passOn "with" (.ref x) X.env)
        (SP X pins D) X.xe s4 := fun tb vt rt => by
      have vals : Vals [V.ref k, vc, V.ref x, vt] [Value.ref k, cls, Value.ref x, tb] := .cons rfl (.cons rc (.cons rfl (.cons rt .nil)))
      have hl : [Value.ref k, cls, Value.ref x, tb].length = pX.length := (show 4 = _ from FW.len _ _ _ _ (hw vc (.ref x) vt))
      have bb := bX s4 [Value.ref k, cls, Value.ref x, tb] S4.kIn (by rw [List.append_nil]; exact hl)
      rw [List.append_nil] at bb
      have pk : L2H.PinOk X.stack H3 s4 (x, ox) := ⟨gx, nx, fun hm => (List.mem_cons.mp (S4.stkSub x hm)).elim nlx nfx, ncx⟩
      refine wpAny_bind (wpAny_bind (wpAny_run (codeAny_mono (FW.run (X.A.mark (some (.ref x))) X.stack s4 H3 ⟨[.ref k, cls, .ref x, tb], []⟩ _ _ _ (x, ox) ⟨hr.dp, hr.un⟩ pk S4.env0 bb vals (hw vc (.ref x) vt)) fun r s5 hq => ?_)))
      cases r with
      | error e =>
            exact (show False from hq).elim
      | ok fl =>
        cases fl with
        | ret u5 =>
          obtain ⟨v5, H5, S5, r5, e5, q5⟩ := S4.after hq
          subst e5
          obtain rfl : u5 = Value.none := r5
          exact wpAny_pure (wpAny_bind (wpAny_pure (wpAny_bind (wpAny_pure (by rw [if_neg Bool.false_ne_true]; exact pass s5 H5 S5 q5)))))
        | next => exact False.elim hq
        | brk => exact False.elim hq
        | cont => exact False.elim hq
    unfold PySem.tracebackOf
    refine wpAny_bind (wpAny_bind (wpAny_field gx ov v1 ?_))
    refine wpAny_bind (wpAny_field gt dt hy ?_)
    exact wpAny_ite_split (fun _ => wpAny_pure (tail .none .non rfl)) (fun _ => wpAny_pure (tail (.ref t) (.ref t) rfl))
end
end Qe

namespace Qe
open PySem PySem.Spec
open PyProof.Rows L2
/-! ### match over written texts -/
structure PMc (X : Cx) (cs : List MatchCase) (t : V → TS) : Prop where
  run : ∀ (pins : List (Addr × Obj)) (s : Shared) (σ : L2.St) (H : Hp) (D : Ends) (x : V) (v : Value) (first : Bool), Inv X pins σ H s → RelV x v → t x D σ H → wpAny (model X.prog X.w) X.A (matchCases cs X.env v first) (SP X pins D) X.xe s
def tMcStr (c : Str) (t : TS) (u : V → TS) : V → TS := fun x D σ H => ∃ z, x = .str z ∧ (if z = c then t D σ H else u (.str z) D σ H)
def tMatch (te : TE) (tc : V → TS) : TS := fun D σ H => te σ H fun x H1 => tc x D σ H1
section
variable {X : Cx}
theorem pmc_nil : PMc X [] (fun _ => tNext) := ⟨fun pins s σ H D x v first I r h => wpAny_matchCases_nil ⟨σ, H, I, h⟩⟩
theorem pmc_str {c : Str} {j : Nat} {cpos pos : Pos} {body : List Stmt} {rest : List MatchCase} {t : TS} {u : V → TS} (hb : PSs X body t) (hr : PMc X rest u) : PMc X (⟨.MatchValue (.Constant (.str c) j cpos) pos, none, body⟩ :: rest) (tMcStr c t u) := by
  refine ⟨fun pins s σ H D x v first I r h => ?_⟩
  obtain ⟨z, rfl, h⟩ := h
  refine wpAny_matchCases_cons (wpAny_matchPattern_Value ?_)
  refine wpAny_mono ((pe_str (X := X) (x := c) (j := j) (pos := cpos)).run pins s σ H (fun y H1 => y = .str c ∧ H1 = H) I ⟨rfl, rfl⟩) (fun w s1 hq => ?_) fun _ _ e => e
  obtain ⟨y, H1, I1, r1, rfl, rfl⟩ := hq
  refine wpAny_mono (op_eq pins s1 σ H1 (.str z) (.str c) v w (fun b H2 => b = .bl (decide (z = c)) ∧ H2 = H1) I1 r r1 ⟨rfl, ?_, rfl⟩) (fun k s2 hq => ?_) fun _ _ e => e
  · have e : decide (V.str z = V.str c) = decide (z = c) := by by_cases q : z = c <;> simp [q]
    rw [e]
  · obtain ⟨b, H2, I2, r2, rfl, rfl⟩ := hq
    cases r2
    refine wpAny_truthy_bool ?_
    by_cases q : z = c
    · rw [if_pos q] at h
      rw [decide_eq_true q]
      exact wpAny_pure (hb.run pins s2 σ H2 D I2 h)
    · rw [if_neg q] at h
      rw [decide_eq_false q]
      exact hr.run pins s2 σ H2 D (.str z) v false I2 r h
theorem ps_match {e : Expr} {cs : List MatchCase} {pos : Pos} {te : TE} {tc : V → TS} (he : PE X e te) (hc : PMc X cs tc) : PS X (.Match e cs pos) (tMatch te tc) :=
  ⟨fun pins s σ H D I h => wpAny_Match (thn (he.run pins s σ H _ I h) fun v s1 ⟨x, H1, I1, r, q⟩ => hc.run pins s1 σ H1 D x v true I1 r q)⟩
end
/-! ### o.m(k = e): keywords alone -/
def tMethK (C : Addr) (m : Str) (sp : Sp) (gV : List V → List V → List V) (E : XK) (ta : TE) (n : Nat) (tk : TA) : TE := fun σ H Q => ta σ H fun x H1 => ∃ a dx fs, x = .ref a ∧ H1 a = some (.ins C dx fs) ∧ fs.lookup m = none ∧
  tk σ H1 fun zs H2 => zs.length = n ∧ sp (gV [x] zs) H2 Q E
section
variable {X : Cx} {CX : CXT} {k : Nat} {C f : Addr} {fd : FuncData} {ps ks : List Str} {sp : Sp} {E : XK} {m : Str} {apos pos : Pos} {o : Expr} {kws : List Keyword} {ta : TE} {tk : TA} {g : List Value → List Value → List Value} {gV : List V → List V → List V}
theorem pe_methK {pl : Sem Bool} (he : PE X o ta) (c : Cls X.K C) (hm : Meth X.K C m f) (F : FnOk X.prog X.w X.K X.mg X.base CX k f fd ps sp) (hr : Room k X.A) (hb : KBn X.K fd ps 1 ks g gV) (hx : Passes CX X E) (hkw : PK X kws tk)
    (hall : (backToKw pos (keywordEach kws X.env)).all (·.1.isSome) = true := by rfl) (hks : (backToKw pos (keywordEach kws X.env)).filterMap (·.1) = ks := by rfl)
    (hpl : ((backTo pos (starEach [] X.env)).any (·.1) || (backToKw pos (keywordEach kws X.env)).any (·.1.isNone)) = false := by rfl)
    (ht : eval (.Call (.Attribute o m apos) [] kws pos) X.env = (do
      let ov ← eval o X.env
      standAt apos.atName
      let (f, first) ←
            holding [ov] (getMethod ov m pl)
      callWith pos f first (backTo pos (starEach [] X.env)) (backToKw pos (keywordEach kws X.env))) := by rfl) :
    PE X (.Call (.Attribute o m apos) [] kws pos) (tMethK C m sp gV E ta ks.length tk) := by
  refine ⟨fun pins s σ H Q I h =>
        ?_⟩
  refine PySem.W.methodCall_KW (pl :=
        pl) (thn (he.run pins s σ H _ I h) fun u s1 ⟨x, H1, I1, rx, a, dx, fs, ex, ea, l, q⟩ => ?_) ht
  subst ex
  obtain rfl : u = Value.ref a :=
        rx
  refine
        getmeth_ok I1 ea c hm l ?_
  refine PySem.W.callWith_KW0 (first := [.ref a]) (h₀ := X.base) I.ok.mod.kin hm.kp hall (thn (hkw.run pos pins s1 σ H1 _ I1 q) fun ws s2 ⟨zs, H2, I2, rz, l2, q2⟩ => ⟨I2.kIn, ?_⟩) hpl
  rw [hks]
  exact run_fnN (us := [.ref a]) (vs := [.ref a]) F hr hb hx I2 (.cons rfl .nil) rz rfl l2 q2
end
end Qe

namespace PySem.W
open PySem PySem.Spec
open PySem.Calls PyProof.Rows
/-- a lambda's function, its defaults dV -/
abbrev qla_fn (qual : Str) (params : Arguments) (body : Expr) (scope : Scope) (cl : List (Str × Addr)) (dV pm cdv ct : Value) : FuncData := { kla_fn "<lambda>" qual params body scope cl pm cdv ct with defaults := dV }
abbrev qla_obj (qual : Str) (params : Arguments) (body : Expr) (scope : Scope) (cl : List (Str × Addr)) (dV pm cdv ct : Value) : Obj := { cls := .type "function", data := .func (qla_fn qual params body scope cl dV pm cdv ct) }
section
variable {M : Model} {A : Around} {E : Value → Shared → Prop} {s : Shared} {qual : Str} {params : Arguments} {body : Expr} {scope : Scope} {env : Env} {c P : Addr} {ps : Array Value} {pos : Pos} {ln : Nat} {mg : Str → Option Value} {cl : List (Str × Addr)} {dV : Value} {Q : Value → Shared → Prop}
/-- made, its code object new -/
theorem qla_new (e1 : closureFor scope env = pure cl) (e2 : env.globals = mainGlobals) (G : s.heap.Ns mainGlobals mg) (e3 : env.code = .ref c) (C : CodeHd s.heap c P) (tP : s.heap.get? P = some (tabObj ps)) (t3 : TriplesOk ps.toList)
    (miss : codeAmong pos ps.toList = none) (nP : mainGlobals ≠ P) (B : s.heap.BuiltinsAt mg P)
    (q : ∀ c' ct g' u, Heap.ExtBut P s.heap g' → s.heap.objs.size ≤ c' → c' < g'.objs.size → g'.CodeRec (.ref c') qual → g'.get? P = some (tabObj (ps ++ #[rawInt pos.line, rawInt pos.col, .ref c'])) →
      Q (.ref g'.objs.size) { s with heap := g'.push (qla_obj qual params body scope cl dV ((mg "__name__").getD .none) (.ref c') ct), toks := u }) :
    wpAny M A (makeTail "<lambda>" qual params (.expr body) scope env dV .none none pos ln) Q E s := by
  obtain ⟨bm, ob, b1, b2, _, b3, b4, b5, b6, b7⟩ := B
  unfold makeTail
  rw [e1, e2]
  refine
        wpAny_bind (wpAny_pure ?_)
  cases cl with
  | nil =>
    simp only [List.isEmpty_nil,
          if_true]
    refine wpAny_bind (wpAny_pure (wpAny_bind (wpAny_functionCodeX e3 (C.code tP t3) (C.tab tP) miss fun c' g' u x1 x2 x3 _ x4 x5 _ => ?_)))
    have G1 := G.extBut x1 nP
    refine wpAny_bind (wpAny_builtinsFor G1 b1 b2 (x1 _ _ b3 b4) b5 b6 b7 (wpAny_bind (wpAny_nsGet G1 ?_)))
    exact wpAny_bind (wpAny_pure (wpAny_newObj_type (q c' .none g' u x1 x2 x3 x4 x5.2) (by size_fits)))
  | cons y ys =>
    simp only [List.isEmpty_cons,
          Bool.false_eq_true, if_false]
    have grown := fun (o : Obj) => C.keeps (h' := s.heap.push o) fun b o e => Heap.get?_push_of_some _ e
    refine wpAny_bind (wpAny_newTextTuple (wpAny_bind (wpAny_functionCodeX e3 ((grown _).code (Heap.get?_push_of_some _ tP) t3) ((grown _).tab (Heap.get?_push_of_some _ tP)) miss fun c' g' u x1 x2 x3 _ x4 x5 _ => ?_)))
    have G1 := (G.push _).extBut x1 nP
    have x0 : Heap.ExtBut P s.heap g' := fun b o n e => x1 b o n (Heap.get?_push_of_some _ e)
    have x6 : s.heap.objs.size ≤ c' := Nat.le_trans (by rw [Heap.size_push]; omega) x2
    refine wpAny_bind (wpAny_builtinsFor G1 b1 b2 (x0 _ _ b3 b4) b5 b6 b7 (wpAny_bind (wpAny_nsGet G1 ?_)))
    exact wpAny_bind (wpAny_pure (wpAny_newObj_type (q c' _ g' u x0 x6 x3 x4 x5.2) (by size_fits)))
/-- made, its code object found -/
theorem qla_old {cv : Value} (e1 : closureFor scope env = pure cl) (e2 : env.globals = mainGlobals) (G : s.heap.Ns mainGlobals mg) (e3 : env.code = .ref c) (C : CodeHd s.heap c P) (tP : s.heap.get? P = some (tabObj ps)) (t3 : TriplesOk ps.toList)
    (hit : codeAmong pos ps.toList = some cv) (B : s.heap.BuiltinsAt mg P)
    (q : ∀ (ct : Value) (g' : Heap) (u : Tok), (∀ b o, s.heap.get? b = some o → g'.get? b = some o) → s.heap.objs.size ≤ g'.objs.size → Q (.ref g'.objs.size) { s with heap := g'.push (qla_obj qual params body scope cl dV ((mg "__name__").getD .none) cv ct), toks := u }) :
    wpAny M A (makeTail "<lambda>" qual params (.expr body) scope env dV .none none pos ln) Q E s := by
  obtain ⟨bm, ob, b1, b2, _, b3, b4, b5, b6, b7⟩ := B
  unfold makeTail
  rw [e1, e2]
  refine
        wpAny_bind (wpAny_pure ?_)
  cases cl with
  | nil =>
    simp only [List.isEmpty_nil,
          if_true]
    refine wpAny_bind (wpAny_pure (wpAny_bind (wpAny_functionCode_hit e3 (C.code tP t3) hit (wpAny_bind (wpAny_builtinsFor G b1 b2 b4 b5 b6 b7 (wpAny_bind (wpAny_nsGet G ?_)))))))
    exact wpAny_bind (wpAny_pure (wpAny_newObj_type (q .none s.heap s.toks (fun _ _ e => e) (Nat.le_refl _)) (by size_fits)))
  | cons y ys =>
    simp only [List.isEmpty_cons,
          Bool.false_eq_true, if_false]
    have grown := fun (o : Obj) => C.keeps (h' := s.heap.push o) fun b o e => Heap.get?_push_of_some _ e
    refine wpAny_bind (wpAny_newTextTuple (wpAny_bind (wpAny_functionCode_hit e3 ((grown _).code (Heap.get?_push_of_some _ tP) t3) hit (wpAny_bind (wpAny_builtinsFor (G.push _) b1 b2 (Heap.get?_push_of_some _ b4) b5 b6 b7 (wpAny_bind (wpAny_nsGet (G.push _) ?_)))))))
    exact wpAny_bind (wpAny_pure (wpAny_newObj_type (q _ _ s.toks (fun b o e => Heap.get?_push_of_some _ e) (by rw [Heap.size_push]; omega)) (by size_fits)))
/-- lambda x = d: .. -/
theorem qla_eval {d : Expr} {a : Arg} (body : Expr) (scope : Scope)
    (h : wpAny M A (eval d env) (fun v s1 => wpAny M A (makeTail "<lambda>" (env.qual ++ "<lambda>") { posonlyargs := [], args := [a], vararg := none, kwonlyargs := [], kw_defaults := [], kwarg := none, defaults := [d] } (.expr body) scope env (.ref s1.heap.objs.size) .none none pos pos.line) Q E
      { s1 with heap := s1.heap.push { cls := .type "tuple", data := .seq #[v] } }) E s) :
    wpAny M A (eval (.Lambda { posonlyargs := [], args := [a], vararg := none, kwonlyargs := [], kw_defaults := [], kwarg := none, defaults := [d] } body scope pos) env) Q E s := by
  rw [arm_eval_Lambda]
  show wpAny M A (do let dv ← evalAll [eval d env]; let kdv ← holding dv (evalAllOpt []); makeFunction "<lambda>" (env.qual ++ "<lambda>") { posonlyargs := [], args := [a], vararg := none, kwonlyargs := [], kw_defaults := [], kwarg := none, defaults := [d] } (.expr body) scope env dv kdv [] pos pos.line) Q E s
  refine wpAny_bind (wpAny_bind (wpAny_mono h (fun v s1 h1 => wpAny_bind (wpAny_holding (wpAny_pure (wpAny_pure (wpAny_bind (wpAny_holding (wpAny_pure ?_))))))) fun _ _ z => z))
  rw [makeFunction_eq]
  simp only [List.zip_nil_right, List.filterMap_nil, List.isEmpty_nil, List.isEmpty_cons, if_true, pure_bind, Bool.false_eq_true, if_false]
  exact wpAny_bind (wpAny_newTextTuple h1)
end
end PySem.W

namespace Qe
open PySem PySem.Spec
open PyProof.Rows L2 LamX
section
variable {X : Cx} {pins : List (Addr × Obj)}
      {σ : L2.St} {H : Hp} {s : Shared}
abbrev argD (a : Arg) (d : Expr) : Arguments := { posonlyargs := [], args := [a], vararg := none, kwonlyargs := [], kw_defaults := [], kwarg := none, defaults := [d] }
/-- the function object, from the table's state -/
theorem lamD_tail {T : List (Addr × Str)} {c P Td : Addr} {params : Arguments} {body : Expr} {scope : Scope} {pos : Pos} {n : Int} {E : Value → Shared → Prop} {Q : Value → Shared → Prop} (I : Inv X pins σ H s) (TB : TabB X.base X.mg c P) (hcode : X.env.code = .ref c)
    (inT : (P, X.env.qual ++ "<lambda>") ∈ T) (one : ∀ p ∈ T, p.1 = P → p.2 = X.env.qual ++ "<lambda>") (hT : Tabs T H) (hd : H Td = some (.tup [.int n])) (hfree : ∀ y ∈ scope.names, y.2 = .free → ∃ c, X.env.cells.lookup y.1 = some c)
    (q : ∀ (f c' : Addr) (pm ct : Value) (H1 : Hp) (s' : Shared), Inv X pins σ H1 s' → ExtN H H1 → Tabs T H1 →
      s'.heap.get? f = some (PySem.W.qla_obj (X.env.qual ++ "<lambda>") params body scope (cloFrom X.env.cells scope.names []) (.ref Td) pm (.ref c') ct) → H1 f = none → f ∉ frs X.stack → H1 c' = some (CodeO c' (X.env.qual ++ "<lambda>")) → Q (.ref f) s') :
    wpAny (model X.prog X.w) X.A (PySem.makeTail "<lambda>" (X.env.qual ++ "<lambda>") params (.expr body) scope X.env (.ref Td) .none none pos pos.line) Q E s := by
  obtain ⟨ps, tP, t3, tell⟩ := hT _ inT
  have bP : s.heap.BuiltinsAt X.mg P :=
        TB.bm.keeps I.bk
  have gP : s.heap.get? P = some { cls := .none, data := .fields ps } := I.hok P _ tP
  have off : ∀ f, s.heap.objs.size ≤ f → f ∉ frs X.stack := fun f hf z => (List.mem_cons.mp (I.stkSub _ z)).elim (fun e => by
    have lt := I.lt
    rw [← e] at lt
    exact Nat.lt_irrefl _ (Nat.lt_of_lt_of_le lt hf)) (I.nofs hf)
  cases look : codeAmong pos ps.toList with
  | some cv =>
    obtain ⟨c', e, co⟩ := tell pos cv look
    subst e
    refine PySem.W.qla_old (mg := X.mg) (c := c) (P := P) (ps := ps) (closure_ok hfree) I.ok.glob (I.mod.glob.keeps I.bk) hcode (TB.code.keeps I.bk) gP t3 look bP fun ct g' u x0 x1 => ?_
    exact q g'.objs.size c' ((X.mg "__name__").getD .none) ct H _ (I.kept (t' := u) fun b o e => Heap.get?_push_of_some _ (x0 b o e)) (ExtN.refl H) hT (Heap.get?_push_size _ rfl) (I.hok.fresh x1) (off _ x1) co
  | none =>
    refine PySem.W.qla_new (mg := X.mg) (c := c) (P := P) (ps := ps) (closure_ok hfree) I.ok.glob (I.mod.glob.keeps I.bk) hcode (TB.code.keeps I.bk) gP t3 look TB.gP bP fun c' ct g' u x1 x2 x3 x4 x5 => ?_
    obtain ⟨c2, oc, vs, t, e2, k1, k2, k3⟩ := x4
    cases e2
    have big : s.heap.objs.size ≤ g'.objs.size := Nat.le_trans x2 (Nat.le_of_lt x3)
    have nc : H c' = none := I.hok.fresh x2
    have I1 := inv_table (t' := u) (more := #[rawInt pos.line, rawInt pos.col, .ref c']) (h' := g'.push (PySem.W.qla_obj (X.env.qual ++ "<lambda>") params body scope (cloFrom X.env.cells scope.names []) (.ref Td) ((X.mg "__name__").getD .none) (.ref c') ct)) I tP
      (fun b o hb e => Heap.get?_push_of_some _ (x1 b o hb e)) (Heap.get?_push_of_some _ x5) x2 ⟨oc, vs, t, Heap.get?_push_of_some _ k1, k2, k3⟩
    have ext : ExtN H (upd (upd H P (.tbl (ps ++ #[rawInt pos.line, rawInt pos.col, .ref c']))) c' (CodeO c' (X.env.qual ++ "<lambda>"))) := fun b o e nt => by
      rw [upd_ne (ne_of_none e nc), upd_ne (fun z => nt ps (Option.some.inj (e.symm.trans (by rw [z]; exact tP))))]
      exact e
    have ls : (ps ++ #[rawInt pos.line, rawInt pos.col, .ref c']).toList = ps.toList ++ [rawInt pos.line, rawInt pos.col, .ref c'] := by simp
    refine q g'.objs.size c' ((X.mg "__name__").getD .none) ct _ _ I1 ext (fun p hp => ?_) (Heap.get?_push_size _ rfl) ?_ (off _ big) upd_same
    · by_cases hb : p.1 = P
      · rw [one p hp hb, hb]
        refine ⟨_, by rw [upd_ne (ne_of_none tP nc), upd_same], by rw [ls]; exact PySem.TriplesOk_snoc _ _ _ _ t3, fun p' cv hcv => ?_⟩
        rw [ls] at hcv
        rcases among_app _ t3 hcv with z | z
        · obtain ⟨c0, z1, z2⟩ := tell p' cv z
          exact ⟨c0, z1, ext _ _ z2 codeO_ne⟩
        · exact ⟨c', z, upd_same⟩
      · obtain ⟨ps', a1, a2, a3⟩ :=
              hT p hp
        refine ⟨ps', by rw [upd_ne (ne_of_none a1 nc), upd_ne hb]; exact a1, a2, fun p' cv hcv => ?_⟩
        obtain ⟨c0, z1, z2⟩ := a3 p' cv hcv
        exact ⟨c0, z1, ext _ _ z2 codeO_ne⟩
    · rw [upd_ne (Nat.ne_of_gt x3), upd_ne (Nat.ne_of_gt (Nat.lt_of_lt_of_le (Heap.lt_size gP) big))]
      exact I.hok.fresh big
/-- lambda x = n: .. -/
theorem lamD_make {T : List (Addr × Str)} {c P : Addr} {a : Arg} {j : Nat} {cp : Pos} {body : Expr} {scope : Scope} {pos : Pos} {n : Int} {Q : Value → Shared → Prop} (I : Inv X pins σ H s) (TB : TabB X.base X.mg c P) (hcode : X.env.code = .ref c)
    (inT : (P, X.env.qual ++ "<lambda>") ∈ T) (one : ∀ p ∈ T, p.1 = P → p.2 = X.env.qual ++ "<lambda>") (hT : Tabs T H) (hfree : ∀ y ∈ scope.names, y.2 = .free → ∃ c, X.env.cells.lookup y.1 = some c)
    (q : ∀ (f c' Td : Addr) (pm ct : Value) (H1 : Hp) (s' : Shared), Inv X pins σ H1 s' → ExtN H H1 → Tabs T H1 →
      s'.heap.get? f = some (PySem.W.qla_obj (X.env.qual ++ "<lambda>") (argD a (.Constant (.int n) j cp)) body scope (cloFrom X.env.cells scope.names []) (.ref Td) pm (.ref c') ct) → H1 f = none → f ∉ frs X.stack → H1 c' = some (CodeO c' (X.env.qual ++ "<lambda>")) → H1 Td = some (.tup [.int n]) → Q (.ref f) s') :
    wpAny (model X.prog X.w) X.A (eval (.Lambda (argD a (.Constant (.int n) j cp)) body scope pos) X.env) Q X.xe s := by
  refine PySem.W.qla_eval body scope (thn ((pe_int (X := X) (i := n) (j := j) (pos := cp)).run pins s σ H (fun v H1 => v = .int n ∧ H1 = H) I ⟨rfl, rfl⟩) fun u s1 hq => ?_)
  obtain ⟨v, H1, I1, r1, rfl, rfl⟩ := hq
  obtain ⟨t, rfl⟩ := r1
  obtain ⟨hp, g, d, tk, os⟩ := s1
  have hn : H1 hp.objs.size = none := I1.hok.fresh (Nat.le_refl _)
  have I2 : Inv X pins σ (upd H1 hp.objs.size (.tup [.int n])) ⟨hp.push { cls := .type "tuple", data := .seq #[.int n t] }, g, d, tk, os⟩ :=
    I1.laid (t' := tk) (fun b o e => Heap.get?_push_of_some _ e) (Nat.le_refl _) ⟨by show 1 ≤ sizeLine; decide, [.int n t], .cons ⟨t, rfl⟩ .nil, _, Heap.get?_push_size _ rfl, rfl, _, rfl⟩
  have ext : ExtN H1 (upd H1 hp.objs.size (.tup [.int n])) := fun b o e _ => by rw [upd_ne (ne_of_none e hn)]; exact e
  refine lamD_tail I2 TB hcode inT one (hT.ext fun b o e => by rw [upd_ne (ne_of_none e hn)]; exact e) upd_same hfree fun f c' pm ct H3 s' I3 e3 T3 gf nf of co => ?_
  exact q f c' _ pm ct H3 s' I3 (ext.trans e3) T3 gf nf of co (e3 _ _ upd_same fun ps z => by cases z)
/-! ### the lambda's names: one parameter, captured ones, globals -/
structure LamN (N : List Str) (sc scope : Scope) (x : Str) : Prop where
  kind : scope.kind = .function
  co :
        scope.isCoroutine = false
  gen :
        scope.isGenerator = false
  loc : ∀ y ∈ scope.names, y.2 = .local → y.1 ∉ N
  cell : ∀ y ∈ scope.names,
        y.2 ≠ .cell
  par : scope.names.lookup x = some .local
  free : ∀ y ∈ scope.names, y.2 = .free →
        sc.names.lookup y.1 = some .cell ∨ sc.names.lookup y.1 = some .free
def lamNB (N : List Str) (sc scope : Scope) (x : Str) : Bool := decide (scope.kind = .function) && (!scope.isCoroutine && (!scope.isGenerator && (decide (scope.names.lookup x = some .local) &&
  scope.names.all fun y => (!decide (y.2 = .local) || decide (y.1 ∉ N)) && (!decide (y.2 = .cell) && (!decide (y.2 = .free) || (decide (sc.names.lookup y.1 = some .cell) || decide (sc.names.lookup y.1 = some .free)))))))
theorem lamN_by {N : List Str} {sc scope : Scope} {x : Str} (h : lamNB N sc scope x = true) : LamN N sc scope x := by
  unfold lamNB at h
  simp only [Bool.and_eq_true, Bool.or_eq_true, Bool.not_eq_true',
        decide_eq_true_eq, decide_eq_false_iff_not, List.all_eq_true] at h
  obtain ⟨h1, h2, h3, h4, h5⟩ := h
  exact ⟨h1, h2, h3, fun y hy e => (h5 y hy).1.elim (fun z => absurd e z) id, fun y hy => (h5 y hy).2.1, h4, fun y hy e => (h5 y hy).2.2.elim (fun z => absurd e z) id⟩
theorem LamN.has {scope : Scope} {x : Str} (L : LamN X.N X.env.scope scope x) (ok : X.Ok) : ∀ y ∈ scope.names, y.2 = .free → ∃ c, X.env.cells.lookup y.1 = some c := fun y hy e => (L.free y hy e).elim (fun k => ok.has _ (.inl k)) fun k => ok.has _ (.inr k)
end
section
variable {X : Cx} {pins : List (Addr × Obj)}
      {σ : L2.St} {H HZ : Hp} {s s1 : Shared}
theorem lamD_start {A : Around} {outer : List Env} {E : XK} {scope : Scope} {f c' : Addr} {h1 : Heap} {tk : Nat} {x : Str} {m : Str → Option Value} (I : Inv X pins σ H s) (L : LamN X.N X.env.scope scope x) (e0 : Env0 X.prog X.w X.K X.mg X.base A outer s1 HZ) (hd : A.handled = none)
    (un : Un (frs X.stack) [] H HZ s.heap s1.heap) (hns : h1.Ns s1.heap.objs.size m) (kp : ∀ b o, s1.heap.get? b = some o → h1.get? b = some o) :
    Inv (lamCx X A outer s1 HZ E scope f c') [] σ HZ { s1 with heap := h1, toks := tk } := by
  have caught := L.has I.ok
  have sub : ∀ {y c}, (cloFrom X.env.cells scope.names []).lookup y = some c → X.env.cells.lookup y = some c := fun {y c} e => by
    rcases cloFrom_mem (PySem.mem_of_lookup e) with z | ⟨z1, z2⟩
    · cases z
    · obtain ⟨c1, hc⟩ := caught _ z1 rfl
      have hc : X.env.cells.lookup y = some c1 :=
            hc
      have ec : c = c1 := by rw [z2, hc] <;> rfl
      rw [ec]; exact hc
  have sup : ∀ {y}, scope.names.lookup y = some .free → ∃ c, (cloFrom X.env.cells scope.names []).lookup y = some c := fun {y} hl => mem_lookup (cloFrom_has (cells := X.env.cells) (acc := []) (PySem.mem_of_lookup hl : (y, NameKind.free) ∈ scope.names))
  have kept : ∀ {c : Addr} {v : Option Value}, H c = none → s.heap.IsCell c v → h1.IsCell c v := fun {c v} n ⟨o, ho, z⟩ => by
    obtain ⟨sl, q⟩ :=
          un.any ho n (by simp)
    exact ⟨_, kp _ _ q, z⟩
  have nx : ∀ b : Addr, b ∉ (lamCx X A outer s1 HZ E scope f c').ex := fun b z => absurd (show b ∈ ([] : List Addr) from z) (by simp)
  refine ⟨⟨e0.mod, L.kind, rfl, rfl, Nat.le_refl _, fun y z c z1 z2 => I.ok.inj y z c (sub z1) (sub z2), fun y hy => ?_, fun y c z _ => (nomatch (show false = true from z)), fun _ => hd, Around.frames_deeper e0.frames, .inr ⟨rfl, rfl⟩, fun b z => absurd z (nx b), e0.bs, e0.bsz, fun b _ _ => nx b,
      fun b z => absurd z (nx b), e0.funs, e0.frf⟩,
    rfl, e0.bare, Un.kept kp, ⟨m, hns, fun i y v z1 z2 z3 => ?_⟩, fun y c e => ?_, e0.hok.fresh (Nat.le_refl _), fun y c e => ?_, fun q hq => absurd (show q ∈ ([] : List (Addr × Obj)) ++ [] from hq) (by simp), e0.hok.kept kp, I.len⟩
  · have hy : scope.names.lookup y = some .cell ∨ scope.names.lookup y = some .free :=
          hy
    exact hy.elim (fun z => absurd rfl (L.cell _ (PySem.mem_of_lookup z))) sup
  · have z3 : Vis scope y := z3
    rcases z3 with k | k | k
    · exact absurd (List.mem_of_getElem? (show X.N[i]? = some y from z1)) (L.loc _ (PySem.mem_of_lookup k) rfl)
    · exact absurd rfl (L.cell _ (PySem.mem_of_lookup k))
    · have kf := L.free _ (PySem.mem_of_lookup k) rfl
      obtain ⟨m0, _, hl⟩ := I.loc
      obtain ⟨u, r, q⟩ := hl i y v z1 z2 (kf.elim (fun k => .inr (.inl k)) fun k => .inr (.inr k))
      obtain ⟨c2, h2⟩ := sup k
      refine ⟨u, r, .inr ⟨.inr k, c2, h2, ?_⟩⟩
      have c1 := sub h2
      rcases q with ⟨k1, _⟩ | ⟨_, c3, e3, z⟩
      · have k1 : X.env.scope.names.lookup y = some .local := k1
        rcases kf with k2 | k2 <;> rw [show X.env.scope.names.lookup y = _ from k2] at k1 <;> cases k1
      · rw [c1] at e3
        cases e3
        exact kept (I.freeC y _ c1) z
  · obtain ⟨v, z⟩ := I.cell y c (sub e)
    exact ⟨v, kept (I.freeC y c (sub e)) z⟩
  · obtain ⟨v, o, ho, _⟩ := I.cell y c (sub e)
    exact un.free c o ho (I.freeC y c (sub e)) (by simp)
/-- how the parameter takes its default -/
def BindD (a : Arg) (d body : Expr) (scope : Scope) : Prop := ∀ (q : Str) (cl : List (Str × Addr)) (Td : Addr) (pm cv ct v : Value), ∃ kb, bindArgs (PySem.W.qla_fn q (argD a d) body scope cl (.ref Td) pm cv ct) ⟨[], []⟩ = seqItems? (.ref Td) >>= kb ∧ kb (some #[v]) = pure [(a.arg, v)]
/-- x(), x holds such a lambda -/
theorem pe_actD {CXg : CXT} {Eg : XK} {Ng : List Str} {qg : Str} {sg : Scope} {g f c' Td : Addr} {cdg pm ct : Value} {a : Arg} {d body : Expr} {scope : Scope} {k i : Nat} {y : Str} {n : Int} {pn : List (Addr × Obj)} {xe : Value → Shared → Prop} {W : WX} {E : XK} {tb : TE} {p1 p2 : Pos}
    (I : Inv X pins σ H s) (L : LamN X.N X.env.scope scope a.arg) (gf : s.heap.get? f = some (PySem.W.qla_obj (X.env.qual ++ "<lambda>") (argD a d) body scope (cloFrom X.env.cells scope.names []) (.ref Td) pm (.ref c') ct)) (hfn : H f = none) (hfr : f ∉ frs X.stack) (hTd : H Td = some (.tup [.int n]))
    (tk : Takes ((cxOf CXg X.prog X.w X.K X.mg X.base Ng qg sg g cdg X.A X.stack s H Eg).tr pn xe) W) (hW : ∀ cls d σ' H', E cls d H' →
          W cls d σ' H') (hr : Room (k + 1) (X.A.deeper (envOfC qg sg s.heap.objs.size g cdg)))
    (hbody : ∀ (A : Around) (outer : List Env) (s : Shared) (H : Hp), Room k (A.deeper (lamEnv X scope s.heap.objs.size f c')) →
          PE (lamCx X A outer s H E scope f c') body tb)
    (hbind : BindD a d body scope) (hN : Ng[i]? = some y) (hv : Vis sg y) (hd : (y == ("__debug__" : Str)) = false := by decide) (hcd : (y == ("__classdict__" : Str)) = false := by decide) :
    PE ((cxOf CXg X.prog X.w X.K X.mg X.base Ng qg sg g cdg X.A X.stack s H Eg).tr pn xe) (.Call (.Name y p1) [] [] p2)
      (fun σZ HZ Q => σZ[i]? = some (some (.ref f)) ∧ HZ c' = some (CodeO c' (X.env.qual ++ "<lambda>")) ∧ tb σ HZ Q) :=
            by
  refine ⟨fun pz sz σZ HZ Q IZ h => ?_⟩
  obtain ⟨hs, hc, ht⟩ := h
  refine wpAny_Call_Name_kw (thn ((pe_var (pos := p1) (i := i) hN hv hd hcd).run pz sz σZ HZ (fun v H1 => v = .ref f ∧ H1 = HZ) IZ ⟨.ref f, hs, rfl, rfl⟩) fun u s1 ⟨v, H1, I1, r1, q1⟩ => ?_)
  obtain ⟨ev, eH⟩ := q1
  subst ev
  rw [eH] at I1
  obtain rfl : u = Value.ref f :=
        r1
  have of1 : s1.heap.get? f = some (PySem.W.qla_obj (X.env.qual ++ "<lambda>") (argD a d) body scope (cloFrom X.env.cells scope.names []) (.ref Td) pm (.ref c') ct) := I1.base.keep f _ gf hfn hfr (fun z => nomatch (show f ∈ ([] : List Addr) from z))
  refine PySem.W.callWith_F0 ⟨_,
        _, _, _, of1⟩ ?_
  have un : Un (frs X.stack) [] H HZ s.heap s1.heap :=
        I1.base
  obtain ⟨⟨oc, vs, t, g1, g2, g3⟩, _, _⟩ := I1.hok c' _ hc
  obtain ⟨_, its, rv, o, gT, hcl, m, hdt⟩ := I1.hok Td _ (un.tups _ _ hTd)
  obtain ⟨v1, rfl, r1⟩ : ∃ v, its = [v] ∧ RelV (.int n) v := by
    cases rv with
    | cons r tl => cases tl; exact ⟨_, rfl, r⟩
  have rc : codeAny (model X.prog X.w) (X.A.deeper (envOfC qg sg s.heap.objs.size g cdg)) (.call (.ref f) ⟨[], []⟩) (CR (L2.CX X.prog X.w) (envOfC qg sg s.heap.objs.size g cdg :: X.stack) X.prog X.w HZ s1 Q E) s1 :=
        by
    refine PySem.W.kla_callFunE hr.depth of1 rfl L.co L.gen rfl ⟨c', oc, vs, t, rfl, g1, g2, g3⟩ ?_
    obtain ⟨kb, b1, b2⟩ := hbind (X.env.qual ++ "<lambda>") (cloFrom X.env.cells scope.names []) Td pm (.ref c') ct v1
    rw [b1]
    refine wpAny_bind (wpAny_seqItems gT hdt ?_)
    rw [b2]
    refine wpAny_pure (wpAny_newFunctionEnv (fun y hy => L.cell y hy) (fun y hy => by
      have e : y = (a.arg, v1) := by simpa using hy
      rw [e]; exact L.par) (fun h1 hns hsb => ⟨I1.nolimit.fresh _ hsb, ?_⟩) L.kind)
    show codeAny _ _ (.expr body (lamEnv X scope s1.heap.objs.size f c'))
          _ _
    have kp : ∀ b o, s1.heap.get? b = some o → h1.get? b = some o := fun b o e => hsb.extBut b o (Nat.ne_of_lt (Heap.lt_size e)) (Heap.get?_push_of_some _ e)
    have J := lamD_start (E := E) (f := f) (c' := c') (tk := s1.toks + ([(a.arg, v1)] : List (Str × Value)).length) I L I1.env0 hr.hd un hns kp
    refine PySem.W.kla_codeExpr (wpAny_mono ((hbody _ _ s1 HZ (hr.deeper _)).run [] _ _ HZ Q J ht) (fun v s' hq =>
          ?_) fun e s' hq => hq)
    obtain ⟨w', H', J', r5, q⟩ := hq
    exact ⟨w', H', J'.os, J'.bare, J'.base, J'.hok, r5, q⟩
  have hx : Passes (L2.CX X.prog X.w) ((cxOf CXg X.prog X.w X.K X.mg X.base Ng qg sg g cdg X.A X.stack s H Eg).tr pn xe) E :=
        passes_call tk hW
  refine wpAny_call (codeAny_mono rc fun r s' hq =>
        ?_)
  cases r with
  | error e => exact hx pz σZ HZ s1 e s' I1 hq
  | ok fl =>
    cases fl with
    | ret u => exact I1.after hq
    | next => exact False.elim hq
    | brk => exact False.elim hq
    | cont => exact False.elim hq
/-- f(lambda x = n: body), f a def that calls what it gets -/
theorem pe_lamcallD {T : List (Addr × Str)} {TT : (XK → Hp → VK → Prop) → Hp → VK → Prop} {x y : Str} {g c P : Addr} {k : Nat} {pg : Arguments} {bg : List Stmt} {sg : Scope} {dV kV doc pm cdv ct oc : Value} {an od : Option Addr} {osl : Array (Option Value)} {Ng : List Str}
    {a : Arg} {n : Int} {j : Nat} {cp : Pos} {body : Expr} {scope : Scope} {t : XK → TE} {p lpos pos : Pos} (hg : Gl X x) (hm : X.mg x = some (.ref g)) (hk : PySem.W.keepIn X.K (.ref g) = true)
    (lk : X.K.lookup g = some ⟨oc, od, .func (PySem.W.fnOf x x pg bg sg dV kV doc pm an cdv ct), osl⟩) (hcg : PySem.W.codeIn X.K cdv x = true) (hb : L2.Binds X.K (PySem.W.fnOf x x pg bg sg dV kV doc pm an cdv ct) [y] []) (Sg : FnScope Ng [y] sg) (hNg : Ng[0]? = some y) (hvy : Vis sg y)
    (hG : GivesTo X Ng x sg g cdv bg y (X.env.qual ++ "<lambda>") TT) (TB : TabB X.base X.mg c P) (hcode : X.env.code = .ref c) (inT : (P, X.env.qual ++ "<lambda>") ∈ T) (one : ∀ p ∈ T, p.1 = P → p.2 = X.env.qual ++ "<lambda>") (hr : Room (k + 2) X.A)
    (L : LamN X.N X.env.scope scope a.arg) (hbind : BindD a (.Constant (.int n) j cp) body scope)
    (hbody : ∀ (A : Around) (outer : List Env) (s : Shared) (H : Hp) (E : XK) (f c' : Addr), Room k (A.deeper (lamEnv X scope s.heap.objs.size f c')) →
          PE (lamCx X A outer s H E scope f c') body (t E))
    (hdb : (x == ("__debug__" : Str)) = false := by decide) (hd : (y == ("__debug__" : Str)) = false := by decide) (hcd : (y == ("__classdict__" : Str)) = false := by decide) :
    PE X (.Call (.Name x p) [.Lambda (argD a (.Constant (.int n) j cp)) body scope lpos] [] pos) (tLam T TT t) := by
  refine ⟨fun pins s σ H Q I h =>
        ?_⟩
  obtain ⟨hT, h⟩ := h
  refine
        wpAny_Call_Name_kw (ld_glob I hg hm ?_ hdb)
  refine PySem.W.callWith_K (h₀ :=
        X.base) I.ok.mod.kin hk ?_ (by rfl) (by rfl)
  show wpAny _ _ (spliced ((false, eval (.Lambda (argD a (.Constant (.int n) j cp)) body scope lpos) X.env) :: backTo pos (starEach [] X.env))) _ _ s
  refine Calls.spliced_cons (lamD_make I TB hcode inT one hT (L.has I.ok) fun f c' Td pm' ct' H1 s' I1 e1 T1 gf nf of co hTd => Calls.spliced_nil ⟨I1.kIn, ?_⟩)
  have rc : codeAny (model X.prog X.w) X.A (.call (.ref g) ⟨[.ref f], []⟩) (CR C8.CX0 X.stack X.prog X.w H1 s' Q C8.E0) s' :=
        by
    refine run_ofS (N := Ng) (ps := [y]) (us := [.ref f]) (vs := [.ref f]) lk hcg Sg hr I1.env0 (hb s' [.ref f] I1.kIn rfl) (.cons rfl .nil) rfl fun hr' => ?_
    obtain ⟨t', ht', hq'⟩ := hG f c' s' H1 Q (fun E H' Q' => t E σ H' Q') (fun W pn xe E p1 p2 tk hW => pe_actD (i := 0) I1 L gf nf of hTd tk hW hr' (fun A outer s H hr2 => hbody A outer s H E f c' hr2) hbind hNg hvy hd hcd) co (h H1 e1 T1)
    exact ⟨t', ht'.nox, hq'⟩
  refine wpAny_call (codeAny_mono rc fun r s2 hq =>
        ?_)
  cases r with
  | error e =>
        exact (show False from hq).elim
  | ok fl =>
    cases fl with
    | ret u => exact I1.after hq
    | next => exact False.elim hq
    | brk => exact False.elim hq
    | cont => exact False.elim hq
end
end Qe

namespace Qe
open PySem PySem.Spec PyProof.Rows L2 He C8
/-! ### the text by places -/
def top (i : Nat) : Stmt := PySem.Challenge.pw_queueeffect_k93_whole_sessions_and_their.main.body.getD i (.Pass ⟨0, 0, 0, 0⟩)

abbrev s_StepFailed_init : Stmt := inClass (top 4) 0
theorem sc_StepFailed_init : FnScope ["self", "position"] ["self", "position"] (defScope s_StepFailed_init) := ⟨rfl, rfl, rfl, by decide +kernel, rfl, by decide +kernel, by decide +kernel⟩
abbrev s_LimitExceeded_init : Stmt := inClass (top 8) 0
theorem sc_LimitExceeded_init : FnScope ["self", "limit"] ["self", "limit"] (defScope s_LimitExceeded_init) := ⟨rfl, rfl, rfl, by decide +kernel, rfl, by decide +kernel, by decide +kernel⟩
abbrev s_is_integer : Stmt := top 17
theorem sc_is_integer : FnScope ["value"] ["value"] (defScope s_is_integer) := ⟨rfl, rfl, rfl, by decide +kernel, rfl, by decide +kernel, by decide +kernel⟩
abbrev s_in_range : Stmt := top 18
theorem sc_in_range : FnScope ["value", "least", "most"] ["value", "least", "most"] (defScope s_in_range) := ⟨rfl, rfl, rfl, by decide +kernel, rfl, by decide +kernel, by decide +kernel⟩
abbrev s_is_word : Stmt := top 19
theorem sc_is_word : FnScope ["value", "most", "item"] ["value", "most"] (defScope s_is_word) := ⟨rfl, rfl, rfl, by decide +kernel, rfl, by decide +kernel, by decide +kernel⟩
abbrev s_is_queue : Stmt := top 20
theorem sc_is_queue : FnScope ["value"] ["value"] (defScope s_is_queue) := ⟨rfl, rfl, rfl, by decide +kernel, rfl, by decide +kernel, by decide +kernel⟩
abbrev s_check_queue : Stmt := top 21
theorem sc_check_queue : FnScope ["queue"] ["queue"] (defScope s_check_queue) := ⟨rfl, rfl, rfl, by decide +kernel, rfl, by decide +kernel, by decide +kernel⟩
abbrev s_is_step : Stmt := top 22
theorem sc_is_step : FnScope ["value"] ["value"] (defScope s_is_step) := ⟨rfl, rfl, rfl, by decide +kernel, rfl, by decide +kernel, by decide +kernel⟩
abbrev s_is_suitable : Stmt := top 25
theorem sc_is_suitable : FnScope ["takes", "puts", "number"] ["takes", "puts", "number"] (defScope s_is_suitable) := ⟨rfl, rfl, rfl, by decide +kernel, rfl, by decide +kernel, by decide +kernel⟩
abbrev s_least_suitable : Stmt := top 26
theorem sc_least_suitable : FnScope ["takes", "puts", "least", "number"] ["takes", "puts", "least"] (defScope s_least_suitable) := ⟨rfl, rfl, rfl, by decide +kernel, rfl, by decide +kernel, by decide +kernel⟩
abbrev s_is_look : Stmt := top 28
theorem sc_is_look : FnScope ["value"] ["value"] (defScope s_is_look) := ⟨rfl, rfl, rfl, by decide +kernel, rfl, by decide +kernel, by decide +kernel⟩
abbrev s_first_unlooking : Stmt := top 29
theorem sc_first_unlooking : FnScope ["value", "most", "position", "step"] ["value", "most"] (defScope s_first_unlooking) := ⟨rfl, rfl, rfl, by decide +kernel, rfl, by decide +kernel, by decide +kernel⟩
abbrev s_check_looking : Stmt := top 30
theorem sc_check_looking : FnScope ["steps", "most", "problem"] ["steps", "most"] (defScope s_check_looking) := ⟨rfl, rfl, rfl, by decide +kernel, rfl, by decide +kernel, by decide +kernel⟩
abbrev s_after_look : Stmt := top 31
theorem sc_after_look : FnScope ["queue", "step"] ["queue", "step"] (defScope s_after_look) := ⟨rfl, rfl, rfl, by decide +kernel, rfl, by decide +kernel, by decide +kernel⟩
abbrev s_execute_looking : Stmt := top 32
theorem sc_execute_looking : FnScope ["queue", "steps", "position", "step", "later"] ["queue", "steps"] (defScope s_execute_looking) := ⟨rfl, rfl, rfl, by decide +kernel, rfl, by decide +kernel, by decide +kernel⟩
abbrev s_run_looking : Stmt := top 33
theorem sc_run_looking : FnScope ["queue", "steps", "result", "position"] ["queue", "steps"] (defScope s_run_looking) := ⟨rfl, rfl, rfl, by decide +kernel, rfl, by decide +kernel, by decide +kernel⟩
abbrev s_LookEffect_init : Stmt := inClass (top 34) 0
theorem sc_LookEffect_init : FnScope ["self", "prefix", "taken", "puts", "core"] ["self", "prefix", "taken", "puts", "core"] (defScope s_LookEffect_init) := ⟨rfl, rfl, rfl, by decide +kernel, rfl, by decide +kernel, by decide +kernel⟩
abbrev s_LookEffect_prefix : Stmt := inClass (top 34) 1
theorem sc_LookEffect_prefix : FnScope ["self"] ["self"] (defScope s_LookEffect_prefix) := ⟨rfl, rfl, rfl, by decide +kernel, rfl, by decide +kernel, by decide +kernel⟩
abbrev s_LookEffect_taken : Stmt := inClass (top 34) 2
theorem sc_LookEffect_taken : FnScope ["self"] ["self"] (defScope s_LookEffect_taken) := ⟨rfl, rfl, rfl, by decide +kernel, rfl, by decide +kernel, by decide +kernel⟩
abbrev s_LookEffect_puts : Stmt := inClass (top 34) 3
theorem sc_LookEffect_puts : FnScope ["self"] ["self"] (defScope s_LookEffect_puts) := ⟨rfl, rfl, rfl, by decide +kernel, rfl, by decide +kernel, by decide +kernel⟩
abbrev s_LookEffect_core : Stmt := inClass (top 34) 4
theorem sc_LookEffect_core : FnScope ["self"] ["self"] (defScope s_LookEffect_core) := ⟨rfl, rfl, rfl, by decide +kernel, rfl, by decide +kernel, by decide +kernel⟩
abbrev s_LookEffect_accepts : Stmt := inClass (top 34) 6
theorem sc_LookEffect_accepts : FnScope ["self", "queue"] ["self", "queue"] (defScope s_LookEffect_accepts) := ⟨rfl, rfl, rfl, by decide +kernel, rfl, by decide +kernel, by decide +kernel⟩
abbrev s_LookEffect_apply : Stmt := inClass (top 34) 7
theorem sc_LookEffect_apply : FnScope ["self", "queue"] ["self", "queue"] (defScope s_LookEffect_apply) := ⟨rfl, rfl, rfl, by decide +kernel, rfl, by decide +kernel, by decide +kernel⟩
abbrev s_LookEffect_eq : Stmt := inClass (top 34) 8
theorem sc_LookEffect_eq : FnScope ["self", "other"] ["self", "other"] (defScope s_LookEffect_eq) := ⟨rfl, rfl, rfl, by decide +kernel, rfl, by decide +kernel, by decide +kernel⟩
abbrev s_look_parts : Stmt := top 35
theorem sc_look_parts : FnScope ["effect"] ["effect"] (defScope s_look_parts) := ⟨rfl, rfl, rfl, by decide +kernel, rfl, by decide +kernel, by decide +kernel⟩
abbrev s_check_look : Stmt := top 36
theorem sc_check_look : FnScope ["value"] ["value"] (defScope s_check_look) := ⟨rfl, rfl, rfl, by decide +kernel, rfl, by decide +kernel, by decide +kernel⟩
abbrev s_Collector_init : Stmt := inClass (top 37) 0
theorem sc_Collector_init : FnScope ["self"] ["self"] (defScope s_Collector_init) := ⟨rfl, rfl, rfl, by decide +kernel, rfl, by decide +kernel, by decide +kernel⟩
abbrev s_Collector_add : Stmt := inClass (top 37) 1
theorem sc_Collector_add : FnScope ["self", "step"] ["self", "step"] (defScope s_Collector_add) := ⟨rfl, rfl, rfl, by decide +kernel, rfl, by decide +kernel, by decide +kernel⟩
abbrev s_Collector_effect : Stmt := inClass (top 37) 2
theorem sc_Collector_effect : FnScope ["self", "prefix", "puts"] ["self"] (defScope s_Collector_effect) := ⟨rfl, rfl, rfl, by decide +kernel, rfl, by decide +kernel, by decide +kernel⟩
abbrev s_conflict : Stmt := top 38
theorem sc_conflict : FnScope ["steps", "collector", "position", "step"] ["steps"] (defScope s_conflict) := ⟨rfl, rfl, rfl, by decide +kernel, rfl, by decide +kernel, by decide +kernel⟩
abbrev s_collected : Stmt := top 39
theorem sc_collected : FnScope ["steps", "collector", "step"] ["steps"] (defScope s_collected) := ⟨rfl, rfl, rfl, by decide +kernel, rfl, by decide +kernel, by decide +kernel⟩
abbrev s_look_effect_of : Stmt := top 40
theorem sc_look_effect_of : FnScope ["steps"] ["steps"] (defScope s_look_effect_of) := ⟨rfl, rfl, rfl, by decide +kernel, rfl, by decide +kernel, by decide +kernel⟩
abbrev s_compose_looks : Stmt := top 41
theorem sc_compose_looks : FnScope ["one", "other", "first", "taken", "puts", "core", "second", "more_taken", "more_puts", "more_core", "prefix", "need"] ["one", "other"] (defScope s_compose_looks) := ⟨rfl, rfl, rfl, by decide +kernel, rfl, by decide +kernel, by decide +kernel⟩
abbrev s_is_name : Stmt := top 45
theorem sc_is_name : FnScope ["value", "letter"] ["value"] (defScope s_is_name) := ⟨rfl, rfl, rfl, by decide +kernel, rfl, by decide +kernel, by decide +kernel⟩
abbrev s_Kept_init : Stmt := inClass (top 49) 0
theorem sc_Kept_init : FnScope ["self", "session"] ["self", "session"] (defScope s_Kept_init) := ⟨rfl, rfl, rfl, by decide +kernel, rfl, by decide +kernel, by decide +kernel⟩
abbrev s_Kept_enter : Stmt := inClass (top 49) 1
theorem sc_Kept_enter : FnScope ["self"] ["self"] (defScope s_Kept_enter) := ⟨rfl, rfl, rfl, by decide +kernel, rfl, by decide +kernel, by decide +kernel⟩
abbrev s_Kept_exit : Stmt := inClass (top 49) 2
theorem sc_Kept_exit : FnScope ["self", "kind", "value", "trace"] ["self", "kind", "value", "trace"] (defScope s_Kept_exit) := ⟨rfl, rfl, rfl, by decide +kernel, rfl, by decide +kernel, by decide +kernel⟩
abbrev s_Session_init : Stmt := inClass (top 50) 0
theorem sc_Session_init : FnScope ["self", "queue"] ["self", "queue"] (defScope s_Session_init) := ⟨rfl, rfl, rfl, by decide +kernel, rfl, by decide +kernel, by decide +kernel⟩
abbrev s_Session_replayed : Stmt := inClass (top 50) 1
theorem sc_Session_replayed : FnScope ["cls", "queue", "steps", "session"] ["cls", "queue", "steps"] (defScope s_Session_replayed) := ⟨rfl, rfl, rfl, by decide +kernel, rfl, by decide +kernel, by decide +kernel⟩
abbrev s_Session_queue : Stmt := inClass (top 50) 2
theorem sc_Session_queue : FnScope ["self"] ["self"] (defScope s_Session_queue) := ⟨rfl, rfl, rfl, by decide +kernel, rfl, by decide +kernel, by decide +kernel⟩
abbrev s_Session_capacity : Stmt := inClass (top 50) 3
theorem sc_Session_capacity : FnScope ["self"] ["self"] (defScope s_Session_capacity) := ⟨rfl, rfl, rfl, by decide +kernel, rfl, by decide +kernel, by decide +kernel⟩
abbrev s_Session_log : Stmt := inClass (top 50) 4
theorem sc_Session_log : FnScope ["self"] ["self"] (defScope s_Session_log) := ⟨rfl, rfl, rfl, by decide +kernel, rfl, by decide +kernel, by decide +kernel⟩
abbrev s_Session_attempts : Stmt := inClass (top 50) 5
theorem sc_Session_attempts : FnScope ["self"] ["self"] (defScope s_Session_attempts) := ⟨rfl, rfl, rfl, by decide +kernel, rfl, by decide +kernel, by decide +kernel⟩
abbrev s_Session_marks : Stmt := inClass (top 50) 6
theorem sc_Session_marks : FnScope ["self", "name"] ["self"] (defScope s_Session_marks) := ⟨rfl, rfl, rfl, by decide +kernel, rfl, by decide +kernel, by decide +kernel⟩
abbrev s_Session_stepped : Stmt := inClass (top 50) 7
theorem sc_Session_stepped : FnScope ["self", "queue", "step", "position", "later"] ["self", "queue", "step", "position"] (defScope s_Session_stepped) := ⟨rfl, rfl, rfl, by decide +kernel, rfl, by decide +kernel, by decide +kernel⟩
abbrev s_Session_execute_all : Stmt := inClass (top 50) 8
theorem sc_Session_execute_all : FnScope ["self", "steps", "position", "step"] ["self", "steps"] (defScope s_Session_execute_all) := ⟨rfl, rfl, rfl, by decide +kernel, rfl, by decide +kernel, by decide +kernel⟩
abbrev s_Session_do : Stmt := inClass (top 50) 9
theorem sc_Session_do : FnScope ["self", "step"] ["self", "step"] (defScope s_Session_do) := ⟨rfl, rfl, rfl, by decide +kernel, rfl, by decide +kernel, by decide +kernel⟩
abbrev s_Session_batch : Stmt := inClass (top 50) 10
theorem sc_Session_batch : FnScope ["self", "steps", "length", "executable", "queues", "position", "step"] ["self", "steps"] (defScope s_Session_batch) := ⟨rfl, rfl, rfl, by decide +kernel, rfl, by decide +kernel, by decide +kernel⟩
abbrev s_Session_preview : Stmt := inClass (top 50) 11
theorem sc_Session_preview : FnScope ["self", "steps", "found"] ["self", "steps"] (defScope s_Session_preview) := ⟨rfl, rfl, rfl, by decide +kernel, rfl, by decide +kernel, by decide +kernel⟩
abbrev s_Session_shorten : Stmt := inClass (top 50) 12
theorem sc_Session_shorten : FnScope ["self", "length", "name", "place"] ["self", "length"] (defScope s_Session_shorten) := ⟨rfl, rfl, rfl, by decide +kernel, rfl, by decide +kernel, by decide +kernel⟩
abbrev s_Session_undo : Stmt := inClass (top 50) 13
theorem sc_Session_undo : FnScope ["self", "count"] ["self", "count"] (defScope s_Session_undo) := ⟨rfl, rfl, rfl, by decide +kernel, rfl, by decide +kernel, by decide +kernel⟩
abbrev s_Session_mark : Stmt := inClass (top 50) 14
theorem sc_Session_mark : FnScope ["self", "name"] ["self", "name"] (defScope s_Session_mark) := ⟨rfl, rfl, rfl, by decide +kernel, rfl, by decide +kernel, by decide +kernel⟩
abbrev s_Session_place_of : Stmt := inClass (top 50) 15
theorem sc_Session_place_of : FnScope ["self", "name"] ["self", "name"] (defScope s_Session_place_of) := ⟨rfl, rfl, rfl, by decide +kernel, rfl, by decide +kernel, by decide +kernel⟩
abbrev s_Session_since : Stmt := inClass (top 50) 17
theorem sc_Session_since : FnScope ["self", "name"] ["self", "name"] (defScope s_Session_since) := ⟨rfl, rfl, rfl, by decide +kernel, rfl, by decide +kernel, by decide +kernel⟩
abbrev s_Session_rewind : Stmt := inClass (top 50) 18
theorem sc_Session_rewind : FnScope ["self", "name"] ["self", "name"] (defScope s_Session_rewind) := ⟨rfl, rfl, rfl, by decide +kernel, rfl, by decide +kernel, by decide +kernel⟩
abbrev s_Session_total : Stmt := inClass (top 50) 19
theorem sc_Session_total : FnScope ["self"] ["self"] (defScope s_Session_total) := ⟨rfl, rfl, rfl, by decide +kernel, rfl, by decide +kernel, by decide +kernel⟩
abbrev s_Session_fresh : Stmt := inClass (top 50) 20
theorem sc_Session_fresh : FnScope ["self"] ["self"] (defScope s_Session_fresh) := ⟨rfl, rfl, rfl, by decide +kernel, rfl, by decide +kernel, by decide +kernel⟩
abbrev s_Session_clone : Stmt := inClass (top 50) 21
theorem sc_Session_clone : FnScope ["self", "twin"] ["self"] (defScope s_Session_clone) := ⟨rfl, rfl, rfl, by decide +kernel, rfl, by decide +kernel, by decide +kernel⟩
abbrev s_Session_eq : Stmt := inClass (top 50) 22
theorem sc_Session_eq : FnScope ["self", "other"] ["self", "other"] (defScope s_Session_eq) := ⟨rfl, rfl, rfl, by decide +kernel, rfl, by decide +kernel, by decide +kernel⟩
abbrev s_Session_len : Stmt := inClass (top 50) 23
theorem sc_Session_len : FnScope ["self"] ["self"] (defScope s_Session_len) := ⟨rfl, rfl, rfl, by decide +kernel, rfl, by decide +kernel, by decide +kernel⟩
abbrev s_word_text : Stmt := top 55
theorem sc_word_text : FnScope ["word"] ["word"] (defScope s_word_text) := ⟨rfl, rfl, rfl, by decide +kernel, rfl, by decide +kernel, by decide +kernel⟩
abbrev s_list_text : Stmt := top 56
theorem sc_list_text : FnScope ["words"] ["words"] (defScope s_list_text) := ⟨rfl, rfl, rfl, by decide +kernel, rfl, by decide +kernel, by decide +kernel⟩
abbrev s_format_look_effect : Stmt := top 57
theorem sc_format_look_effect : FnScope ["effect", "prefix", "taken", "puts", "core"] ["effect"] (defScope s_format_look_effect) := ⟨rfl, rfl, rfl, by decide +kernel, rfl, by decide +kernel, by decide +kernel⟩
abbrev s_word_in : Stmt := top 58
theorem sc_word_in : FnScope ["text"] ["text"] (defScope s_word_in) := ⟨rfl, rfl, rfl, by decide +kernel, rfl, by decide +kernel, by decide +kernel⟩
abbrev s_Console_init : Stmt := inClass (top 61) 0
theorem sc_Console_init : FnScope ["self", "session"] ["self", "session"] (defScope s_Console_init) := ⟨rfl, rfl, rfl, by decide +kernel, rfl, by decide +kernel, by decide +kernel⟩
abbrev s_Console_execute : Stmt := inClass (top 61) 3
theorem sc_Console_execute : FnScope ["self", "command", "answer"] ["self", "command"] (defScope s_Console_execute) := ⟨rfl, rfl, rfl, by decide +kernel, rfl, by decide +kernel, by decide +kernel⟩
abbrev s_Console_answer_query : Stmt := inClass (top 61) 4
theorem sc_Console_answer_query : FnScope ["self", "command", "session", "name", "place"] ["self", "command"] (defScope s_Console_answer_query) := ⟨rfl, rfl, rfl, by decide +kernel, rfl, by decide +kernel, by decide +kernel⟩
abbrev s_Console_answer_undo : Stmt := inClass (top 61) 5
theorem sc_Console_answer_undo : FnScope ["self", "command", "word", "gap", "rest", "count"] ["self", "command"] (defScope s_Console_answer_undo) := ⟨rfl, rfl, rfl, by decide +kernel, rfl, by decide +kernel, by decide +kernel⟩
abbrev s_Console_answer_mark : Stmt := inClass (top 61) 6
theorem sc_Console_answer_mark : FnScope ["self", "command", "word", "gap", "name"] ["self", "command"] (defScope s_Console_answer_mark) := ⟨rfl, rfl, rfl, by decide +kernel, rfl, by decide +kernel, by decide +kernel⟩
abbrev s_Console_answer_try : Stmt := inClass (top 61) 7
theorem sc_Console_answer_try : FnScope ["self", "command", "word", "gap", "rest", "effect", "queue"] ["self", "command"] (defScope s_Console_answer_try) := ⟨rfl, rfl, rfl, by decide +kernel, rfl, by decide +kernel, by decide +kernel⟩
abbrev s_Console_len : Stmt := inClass (top 61) 9
theorem sc_Console_len : FnScope ["self"] ["self"] (defScope s_Console_len) := ⟨rfl, rfl, rfl, by decide +kernel, rfl, by decide +kernel, by decide +kernel⟩
abbrev s_law_hand : Stmt := top 63
theorem sc_law_hand : FnScope ["_law_script", "_law_k", "_law_cell", "_law_seed"] ["_law_script", "_law_k"] (defScope s_law_hand) := ⟨rfl, rfl, rfl, by decide +kernel, rfl, by decide +kernel, by decide +kernel⟩
abbrev s_law_draw : Stmt := top 64
theorem sc_law_draw : FnScope ["_law_pool", "_law_size", "_law_found"] ["_law_pool", "_law_size"] (defScope s_law_draw) := ⟨rfl, rfl, rfl, by decide +kernel, rfl, by decide +kernel, by decide +kernel⟩
abbrev s_law_word : Stmt := top 65
theorem sc_law_word : FnScope ["_law_pool", "_law_letters", "_law_most", "_law_turn_here"] ["_law_pool", "_law_letters", "_law_most"] (defScope s_law_word) := ⟨rfl, rfl, rfl, by decide +kernel, rfl, by decide +kernel, by decide +kernel⟩
abbrev s_law_any_step : Stmt := top 66
theorem sc_law_any_step : FnScope ["_law_pool", "_law_queue", "_law_way"] ["_law_pool", "_law_queue"] (defScope s_law_any_step) := ⟨rfl, rfl, rfl, by decide +kernel, rfl, by decide +kernel, by decide +kernel⟩
abbrev s_law_any_steps : Stmt := top 67
theorem sc_law_any_steps : FnScope ["_law_pool", "_law_queue", "_law_most", "_law_found", "_law_turn_here", "_law_step"] ["_law_pool", "_law_queue", "_law_most"] (defScope s_law_any_steps) := ⟨rfl, rfl, rfl, by decide +kernel, rfl, by decide +kernel, by decide +kernel⟩
abbrev s_law_model : Stmt := top 68
theorem sc_law_model : FnScope ["_law_queue", "_law_most"] ["_law_queue", "_law_most"] (defScope s_law_model) := ⟨rfl, rfl, rfl, by decide +kernel, rfl, by decide +kernel, by decide +kernel⟩
abbrev s_law_next : Stmt := top 69
theorem sc_law_next : FnScope ["_law_queue", "_law_step", "_law_most"] ["_law_queue", "_law_step", "_law_most"] (defScope s_law_next) := ⟨rfl, rfl, rfl, by decide +kernel, rfl, by decide +kernel, by decide +kernel⟩
abbrev s_law_runs : Stmt := top 70
theorem sc_law_runs : FnScope ["_law_model_here", "_law_steps", "_law_found", "_law_position", "_law_step", "_law_later", "_law_problem"] ["_law_model_here", "_law_steps"] (defScope s_law_runs) := ⟨rfl, rfl, rfl, by decide +kernel, rfl, by decide +kernel, by decide +kernel⟩
abbrev s_law_add : Stmt := top 71
theorem sc_law_add : FnScope ["_law_model_here", "_law_queues", "_law_steps"] ["_law_model_here", "_law_queues", "_law_steps"] (defScope s_law_add) := ⟨rfl, rfl, rfl, by decide +kernel, rfl, by decide +kernel, by decide +kernel⟩
abbrev s_law_cut : Stmt := top 72
theorem sc_law_cut : FnScope ["_law_model_here", "_law_size", "_law_name"] ["_law_model_here", "_law_size"] (defScope s_law_cut) := ⟨rfl, rfl, rfl, by decide +kernel, rfl, by decide +kernel, by decide +kernel⟩
abbrev s_law_shows : Stmt := top 73
theorem sc_law_shows : FnScope ["_law_session", "_law_model_here", "_law_queue", "_law_log", "_law_marks", "_law_name"] ["_law_session", "_law_model_here"] (defScope s_law_shows) := ⟨rfl, rfl, rfl, by decide +kernel, rfl, by decide +kernel, by decide +kernel⟩
abbrev s_law_did : Stmt := top 74
theorem sc_law_did : FnScope ["_law_door", "_law_session", "_law_item", "e"] ["_law_door", "_law_session", "_law_item"] (defScope s_law_did) := ⟨rfl, rfl, rfl, by decide +kernel, rfl, by decide +kernel, by decide +kernel⟩
abbrev s_law_turn : Stmt := top 75
theorem sc_law_turn : FnScope ["_law_pool", "_law_session", "_law_model_here", "_law_queue", "_law_door", "_law_steps", "_law_found", "_law_problem", "_law_told"] ["_law_pool", "_law_session", "_law_model_here"] (defScope s_law_turn) := ⟨rfl, rfl, rfl, by decide +kernel, rfl, by decide +kernel, by decide +kernel⟩
abbrev s_law_move : Stmt := top 76
theorem sc_law_move : FnScope ["_law_pool", "_law_session", "_law_model_here", "_law_way", "_law_size", "_law_steps", "_law_name", "_law_marks"] ["_law_pool", "_law_session", "_law_model_here"] (defScope s_law_move) := ⟨rfl, rfl, rfl, by decide +kernel, rfl, by decide +kernel, by decide +kernel⟩
abbrev s_law_right : Stmt := top 77
theorem sc_law_right : FnScope ["_law_session", "_law_model_here", "_law_log", "_law_queues", "_law_replayed", "_law_total", "_law_name", "_law_size", "_law_part"] ["_law_session", "_law_model_here"] (defScope s_law_right) := ⟨rfl, rfl, rfl, by decide +kernel, rfl, by decide +kernel, by decide +kernel⟩
abbrev s_law_limited : Stmt := top 78
theorem sc_law_limited : FnScope ["_law_call", "e"] ["_law_call"] (defScope s_law_limited) := ⟨rfl, rfl, rfl, by decide +kernel, rfl, by decide +kernel, by decide +kernel⟩
abbrev s_law_many_steps : Stmt := top 79
theorem sc_law_many_steps : FnScope ["_law_turn_here", "_law_puts", "_law_found", "_law_board", "_law_session"] [] (defScope s_law_many_steps) := ⟨rfl, rfl, rfl, by decide +kernel, rfl, by decide +kernel, by decide +kernel⟩
abbrev s_law_many_takes : Stmt := top 80
theorem sc_law_many_takes : FnScope ["_law_turn_here", "_law_found", "_law_session"] [] (defScope s_law_many_takes) := ⟨rfl, rfl, rfl, by decide +kernel, rfl, by decide +kernel, by decide +kernel⟩
abbrev s_law : Stmt := top 81
theorem sc_law : FnScope ["_law_script", "_law_k", "_law_pool", "_law_queue", "_law_session", "_law_model_here", "_law_turn_here", "_law_name", "_law_size"] ["_law_script"] (defScope s_law) := ⟨rfl, rfl, rfl, by decide +kernel, rfl, by decide +kernel, by decide +kernel⟩

/-! ### own facts -/
/-- the getter's def of a property -/
def pf (K : PySem.W.Frag) (C f : Str) : Addr := match PySem.W.recIn K (ma K (ga K C) f) "property" with
  | some (.ref g :: _) => g
  | _ => 0
def propB (K : PySem.W.Frag) (C f : Str) : Bool := eqO (PySem.W.findIn K (.ref (ga K C)) f) (some (some (.ref (ma K (ga K C) f)))) && (eqO (PySem.W.specialIn K (.ref (ma K (ga K C) f)) "__get__") (some (some (.builtin "property.__get__"))) &&
  (decide (PySem.W.takesIn K (.ref (ma K (ga K C) f)) = some true) && (match PySem.W.recIn K (ma K (ga K C) f) "property" with
    | some (.ref _ :: _) => true
    | _ => false)))
theorem propB_ok {K : PySem.W.Frag} {C f : Str} (h : propB K C f = true) : PropOf K (ga K C) f (ma K (ga K C) f) (pf K C f) := by
  obtain ⟨h1, h⟩ := ba h
  obtain ⟨h2, h⟩ := ba h
  obtain ⟨h3, h4⟩ := ba h
  refine ⟨eqO_ok h1, eqO_ok h2, of_decide_eq_true h3, ?_⟩
  unfold pf
  split at h4
  · rename_i g r e
    exact ⟨r, by rw [e]⟩
  · cases h4
abbrev cf (K : PySem.W.Frag) (C : Str) (m : PySem.Str) : Addr := He5.wf K (ga K C) "classmethod" m
def cmB (K : PySem.W.Frag) (C : Str) (m : PySem.Str) : Bool := PySem.W.readsIn K (ga K C) (.type "type") && (eqO (PySem.W.specialIn K (.ref (ga K C)) "__getattribute__") (some (some (.builtin "type.__getattribute__"))) && (He5.wrapB K (ga K C) "classmethod" "classmethod.__get__" m && PySem.W.fnIn K (cf K C m)))
theorem cmB_ok {K : PySem.W.Frag} {C : Str} {m : PySem.Str} (h : cmB K C m = true) : ClX.CRead K (ga K C) (.type "type") ∧ ClX.CMet K (ga K C) (.type "type") m (ma K (ga K C) m) (cf K C m) := by
  obtain ⟨h1, h⟩ := ba h
  obtain ⟨h2, h⟩ := ba h
  obtain ⟨h3, h4⟩ := ba h
  obtain ⟨k1, k2⟩ := He5.wrapB_ok h3
  exact ⟨⟨h1, eqO_ok h2⟩, ⟨k1, k2, h4⟩⟩
def insB (K : PySem.W.Frag) (C : Str) : Bool := (Fa.cls C).ok K && (eqO (PySem.W.findIn K (.ref (ga K C)) "__class__") (some (some (.builtin "object.__class__"))) && (eqO (PySem.W.specialIn K (.builtin "object.__class__") "__get__") (some (some (.builtin "getset_descriptor.__get__"))) &&
  (decide (PySem.W.takesIn K (.builtin "object.__class__") = some true) && (decide (PySem.W.mroIn K (ga K C) (.type "object") = some true) && decide (PySem.W.kitOne K (.ref (ga K C)) (.ref (ga K C)) = some true)))))
theorem insB_ok {K : PySem.W.Frag} {C : Str} (h : insB K C = true) : InsC K (ga K C) := by
  obtain ⟨h1, h⟩ := ba h
  obtain ⟨h2, h⟩ := ba h
  obtain ⟨h3, h⟩ := ba h
  obtain ⟨h4, h⟩ := ba h
  obtain ⟨h5, h6⟩ := ba h
  exact ⟨cls_ok h1, eqO_ok h2, eqO_ok h3, of_decide_eq_true h4, of_decide_eq_true h5, of_decide_eq_true h6⟩
def lenB (K : PySem.W.Frag) (C : Str) : Bool := eqO (PySem.W.findIn K (.ref (ga K C)) "__len__") (some (some (.ref (ma K (ga K C) "__len__")))) && PySem.W.isFn K (.ref (ma K (ga K C) "__len__"))
structure LenB (K : PySem.W.Frag) (C f : Addr) : Prop where
  at_ : PySem.W.findIn K (.ref C) "__len__" = some (some (.ref f))
  fn : PySem.W.isFn K (.ref f)
        = true
theorem lenB_ok {K : PySem.W.Frag} {C : Str} (h : lenB K C = true) : LenB K (ga K C) (ma K (ga K C) "__len__") := ⟨eqO_ok (ba h).1, (ba h).2⟩
/-! ### the Hook: the facts, the Bool ex, the defs' tables -/
structure SaysQ (fa : List Fa) (fn : List He5.DefA) (tf : List Defn) (ex : PySem.W.Frag → Bool) (h : Heap) (K : PySem.W.Frag) : Prop where
  t : He5.SaysA fa fn K
  more : ex K = true
  hd : ∀ p ∈ tf,
        PySem.W.codeHdIn K (cT K p).1 (cT K p).2 = true
  out : ∀ p ∈ tf,
        K.lookup (cT K p).2 = none
  empty : ∀ p ∈ tf,
        h.get? (cT K p).2 = some { cls := .none, data := .fields #[] }
def dvals (g : Addr → Option Obj) (a : Addr) : List Addr := match g a with
  | some ⟨_, _, .dict es _, _⟩ => es.toList.flatMap fun e => refV e.val
  | _ => []
def kidsF (g : Addr → Option Obj) (a : Addr) : List Addr := match g a with
  | some ⟨_, _, .func fd, _⟩ => a :: (refV fd.code ++ refV fd.kwdefaults)
  | _ => [a]
def kidsM (g : Addr → Option Obj) (a : Addr) : List Addr := match g a with
  | some ⟨_, _, .func fd, _⟩ => a :: (refV fd.code ++ refV fd.kwdefaults)
  | some ⟨.type t, _, .fields vs, _⟩ => (match t == "property" || t == "classmethod", vs.toList with
    | true, .ref b :: _ => a :: kidsF g b
    | _, _ => [a])
  | _ => []
def kidsC (g : Addr → Option Obj) (a : Addr) : List Addr := match g a with
  | some ⟨_, _, .func fd, _⟩ => a :: (refV fd.code ++ refV fd.kwdefaults)
  | some ⟨_, _, .cls cd, _⟩ => a :: cd.ns :: (dvals g cd.ns).flatMap (kidsM g)
  | _ => []
def asQ (g : Addr → Option Obj) : List Addr := mainGlobals :: ((dvals g mainGlobals).flatMap (kidsC g) ++ [cStatics])
abbrev AlQ : Type := AlD × Bool
def obsQ (fa : List Fa) (fn : List He5.DefA) (tf : List Defn) (ex : PySem.W.Frag → Bool) (g : Addr → Option Obj) : AlQ := (He5.obsA fa fn (frT g (asQ g)), ex (frT g (asQ g)) && tabsB g tf (frT g (asQ g)))
def valQ (fn : List He5.DefA) : AlQ := (He5.valA fn, true)
theorem saysQ_of {fa : List Fa} {fn : List He5.DefA} {tf : List Defn} {ex : PySem.W.Frag → Bool} {h : Heap} (e : obsQ fa fn tf ex h.get? = valQ fn) : SaysQ fa fn tf ex h (frT h.get? (asQ h.get?)) := by
  have e1 : He5.obsA fa fn (frT h.get? (asQ h.get?)) = He5.valA fn := congrArg (fun z : AlQ => z.1) e
  have e2 : (ex (frT h.get? (asQ h.get?)) && tabsB h.get? tf (frT h.get? (asQ h.get?))) = true := congrArg (fun z : AlQ => z.2) e
  obtain ⟨h1, h2⟩ := ba e2
  have key : ∀ p ∈ tf, PySem.W.codeHdIn (frT h.get? (asQ h.get?)) (cT (frT h.get? (asQ h.get?)) p).1 (cT (frT h.get? (asQ h.get?)) p).2 = true ∧ ∃ o, h.get? (cT (frT h.get? (asQ h.get?)) p).2 = some o ∧ emptyTab o = true := fun p hp => by
    obtain ⟨h3, h4⟩ :=
          ba (List.all_eq_true.mp h2 p hp)
    refine ⟨h3, ?_⟩
    cases q : h.get? (cT (frT h.get? (asQ h.get?)) p).2 with
    | none => rw [q] at h4; cases h4
    | some o => rw [q] at h4; exact ⟨o, rfl, h4⟩
  exact ⟨e1, h1, fun p hp => (key p hp).1, fun p hp => by obtain ⟨_, o, q, z⟩ := key p hp; exact frT_none q z, fun p hp => by obtain ⟨_, o, q, z⟩ := key p hp; rw [q, emptyTab_eq z]⟩
def hookQ (fa : List Fa) (fn : List He5.DefA) (tf : List Defn) (ex : PySem.W.Frag → Bool) : PySem.W.Hook where
  α := AlQ
  obs := fun s => obsQ fa fn tf ex s.heap.get?
  val := fun _ => valQ fn
  says := fun _ h => ∃ K : PySem.W.Frag, K.In h ∧ SaysQ fa fn tf ex h K
  of := fun _ _ e => ⟨_, frT_in, saysQ_of e⟩
  keeps :=
        fun _ _ _ ⟨K, hK, c⟩ k => ⟨K, PySem.W.Frag.In.keeps hK k, ⟨c.t, c.more, c.hd, c.out, fun p hp => k _ _ (c.empty p hp)⟩⟩
theorem obsQ_eq {fa : List Fa} {fn : List He5.DefA} {tf : List Defn} {ex : PySem.W.Frag → Bool} {g : Addr → Option Obj} {s : Shared} (h : ∀ a, g a = s.heap.get? a) : obsQ fa fn tf ex g = (hookQ fa fn tf ex).obs s := by
  have e : g = s.heap.get? :=
        funext h
  rw [e] <;> rfl

def A_StepFailed_init (K : PySem.W.Frag) : Addr := ma K (ga K "StepFailed") "__init__"
def d_StepFailed_init : He5.DefA := ⟨A_StepFailed_init, "__init__", "StepFailed.__init__", defArgs s_StepFailed_init, defBody s_StepFailed_init, defScope s_StepFailed_init, [], []⟩
def A_LimitExceeded_init (K : PySem.W.Frag) : Addr := ma K (ga K "LimitExceeded") "__init__"
def d_LimitExceeded_init : He5.DefA := ⟨A_LimitExceeded_init, "__init__", "LimitExceeded.__init__", defArgs s_LimitExceeded_init, defBody s_LimitExceeded_init, defScope s_LimitExceeded_init, [], []⟩
def A_is_integer (K : PySem.W.Frag) : Addr := ga K "is_integer"
def d_is_integer : He5.DefA := ⟨A_is_integer, "is_integer", "is_integer", defArgs s_is_integer, defBody s_is_integer, defScope s_is_integer, [], []⟩
def A_in_range (K : PySem.W.Frag) : Addr := ga K "in_range"
def d_in_range : He5.DefA := ⟨A_in_range, "in_range", "in_range", defArgs s_in_range, defBody s_in_range, defScope s_in_range, [], []⟩
def A_is_word (K : PySem.W.Frag) : Addr := ga K "is_word"
def d_is_word : He5.DefA := ⟨A_is_word, "is_word", "is_word", defArgs s_is_word, defBody s_is_word, defScope s_is_word, [], []⟩
def A_is_queue (K : PySem.W.Frag) : Addr := ga K "is_queue"
def d_is_queue : He5.DefA := ⟨A_is_queue, "is_queue", "is_queue", defArgs s_is_queue, defBody s_is_queue, defScope s_is_queue, [], []⟩
def A_check_queue (K : PySem.W.Frag) : Addr := ga K "check_queue"
def d_check_queue : He5.DefA := ⟨A_check_queue, "check_queue", "check_queue", defArgs s_check_queue, defBody s_check_queue, defScope s_check_queue, [], []⟩
def A_is_step (K : PySem.W.Frag) : Addr := ga K "is_step"
def d_is_step : He5.DefA := ⟨A_is_step, "is_step", "is_step", defArgs s_is_step, defBody s_is_step, defScope s_is_step, [], []⟩
def A_is_suitable (K : PySem.W.Frag) : Addr := ga K "is_suitable"
def d_is_suitable : He5.DefA := ⟨A_is_suitable, "is_suitable", "is_suitable", defArgs s_is_suitable, defBody s_is_suitable, defScope s_is_suitable, [], []⟩
def A_least_suitable (K : PySem.W.Frag) : Addr := ga K "least_suitable"
def d_least_suitable : He5.DefA := ⟨A_least_suitable, "least_suitable", "least_suitable", defArgs s_least_suitable, defBody s_least_suitable, defScope s_least_suitable, [], []⟩
def A_is_look (K : PySem.W.Frag) : Addr := ga K "is_look"
def d_is_look : He5.DefA := ⟨A_is_look, "is_look", "is_look", defArgs s_is_look, defBody s_is_look, defScope s_is_look, [], []⟩
def A_first_unlooking (K : PySem.W.Frag) : Addr := ga K "first_unlooking"
def d_first_unlooking : He5.DefA := ⟨A_first_unlooking, "first_unlooking", "first_unlooking", defArgs s_first_unlooking, defBody s_first_unlooking, defScope s_first_unlooking, [], []⟩
def A_check_looking (K : PySem.W.Frag) : Addr := ga K "check_looking"
def d_check_looking : He5.DefA := ⟨A_check_looking, "check_looking", "check_looking", defArgs s_check_looking, defBody s_check_looking, defScope s_check_looking, [], []⟩
def A_after_look (K : PySem.W.Frag) : Addr := ga K "after_look"
def d_after_look : He5.DefA := ⟨A_after_look, "after_look", "after_look", defArgs s_after_look, defBody s_after_look, defScope s_after_look, [], []⟩
def A_execute_looking (K : PySem.W.Frag) : Addr := ga K "execute_looking"
def d_execute_looking : He5.DefA := ⟨A_execute_looking, "execute_looking", "execute_looking", defArgs s_execute_looking, defBody s_execute_looking, defScope s_execute_looking, [], []⟩
def A_run_looking (K : PySem.W.Frag) : Addr := ga K "run_looking"
def d_run_looking : He5.DefA := ⟨A_run_looking, "run_looking", "run_looking", defArgs s_run_looking, defBody s_run_looking, defScope s_run_looking, [], []⟩
def A_LookEffect_init (K : PySem.W.Frag) : Addr := ma K (ga K "LookEffect") "__init__"
def d_LookEffect_init : He5.DefA := ⟨A_LookEffect_init, "__init__", "LookEffect.__init__", defArgs s_LookEffect_init, defBody s_LookEffect_init, defScope s_LookEffect_init, [], []⟩
def A_LookEffect_prefix (K : PySem.W.Frag) : Addr := pf K "LookEffect" "prefix"
def d_LookEffect_prefix : He5.DefA := ⟨A_LookEffect_prefix, "prefix", "LookEffect.prefix", defArgs s_LookEffect_prefix, defBody s_LookEffect_prefix, defScope s_LookEffect_prefix, [], []⟩
def A_LookEffect_taken (K : PySem.W.Frag) : Addr := pf K "LookEffect" "taken"
def d_LookEffect_taken : He5.DefA := ⟨A_LookEffect_taken, "taken", "LookEffect.taken", defArgs s_LookEffect_taken, defBody s_LookEffect_taken, defScope s_LookEffect_taken, [], []⟩
def A_LookEffect_puts (K : PySem.W.Frag) : Addr := pf K "LookEffect" "puts"
def d_LookEffect_puts : He5.DefA := ⟨A_LookEffect_puts, "puts", "LookEffect.puts", defArgs s_LookEffect_puts, defBody s_LookEffect_puts, defScope s_LookEffect_puts, [], []⟩
def A_LookEffect_core (K : PySem.W.Frag) : Addr := pf K "LookEffect" "core"
def d_LookEffect_core : He5.DefA := ⟨A_LookEffect_core, "core", "LookEffect.core", defArgs s_LookEffect_core, defBody s_LookEffect_core, defScope s_LookEffect_core, [], []⟩
def A_LookEffect_accepts (K : PySem.W.Frag) : Addr := ma K (ga K "LookEffect") "accepts"
def d_LookEffect_accepts : He5.DefA := ⟨A_LookEffect_accepts, "accepts", "LookEffect.accepts", defArgs s_LookEffect_accepts, defBody s_LookEffect_accepts, defScope s_LookEffect_accepts, [], []⟩
def A_LookEffect_apply (K : PySem.W.Frag) : Addr := ma K (ga K "LookEffect") "apply"
def d_LookEffect_apply : He5.DefA := ⟨A_LookEffect_apply, "apply", "LookEffect.apply", defArgs s_LookEffect_apply, defBody s_LookEffect_apply, defScope s_LookEffect_apply, [], []⟩
def A_LookEffect_eq (K : PySem.W.Frag) : Addr := ma K (ga K "LookEffect") "__eq__"
def d_LookEffect_eq : He5.DefA := ⟨A_LookEffect_eq, "__eq__", "LookEffect.__eq__", defArgs s_LookEffect_eq, defBody s_LookEffect_eq, defScope s_LookEffect_eq, [], []⟩
def A_look_parts (K : PySem.W.Frag) : Addr := ga K "look_parts"
def d_look_parts : He5.DefA := ⟨A_look_parts, "look_parts", "look_parts", defArgs s_look_parts, defBody s_look_parts, defScope s_look_parts, [], []⟩
def A_check_look (K : PySem.W.Frag) : Addr := ga K "check_look"
def d_check_look : He5.DefA := ⟨A_check_look, "check_look", "check_look", defArgs s_check_look, defBody s_check_look, defScope s_check_look, [], []⟩
def A_Collector_init (K : PySem.W.Frag) : Addr := ma K (ga K "Collector") "__init__"
def d_Collector_init : He5.DefA := ⟨A_Collector_init, "__init__", "Collector.__init__", defArgs s_Collector_init, defBody s_Collector_init, defScope s_Collector_init, [], []⟩
def A_Collector_add (K : PySem.W.Frag) : Addr := ma K (ga K "Collector") "add"
def d_Collector_add : He5.DefA := ⟨A_Collector_add, "add", "Collector.add", defArgs s_Collector_add, defBody s_Collector_add, defScope s_Collector_add, [], []⟩
def A_Collector_effect (K : PySem.W.Frag) : Addr := ma K (ga K "Collector") "effect"
def d_Collector_effect : He5.DefA := ⟨A_Collector_effect, "effect", "Collector.effect", defArgs s_Collector_effect, defBody s_Collector_effect, defScope s_Collector_effect, [], []⟩
def A_conflict (K : PySem.W.Frag) : Addr := ga K "conflict"
def d_conflict : He5.DefA := ⟨A_conflict, "conflict", "conflict", defArgs s_conflict, defBody s_conflict, defScope s_conflict, [], []⟩
def A_collected (K : PySem.W.Frag) : Addr := ga K "collected"
def d_collected : He5.DefA := ⟨A_collected, "collected", "collected", defArgs s_collected, defBody s_collected, defScope s_collected, [], []⟩
def A_look_effect_of (K : PySem.W.Frag) : Addr := ga K "look_effect_of"
def d_look_effect_of : He5.DefA := ⟨A_look_effect_of, "look_effect_of", "look_effect_of", defArgs s_look_effect_of, defBody s_look_effect_of, defScope s_look_effect_of, [], []⟩
def A_compose_looks (K : PySem.W.Frag) : Addr := ga K "compose_looks"
def d_compose_looks : He5.DefA := ⟨A_compose_looks, "compose_looks", "compose_looks", defArgs s_compose_looks, defBody s_compose_looks, defScope s_compose_looks, [], []⟩
def A_is_name (K : PySem.W.Frag) : Addr := ga K "is_name"
def d_is_name : He5.DefA := ⟨A_is_name, "is_name", "is_name", defArgs s_is_name, defBody s_is_name, defScope s_is_name, [], []⟩
def A_Kept_init (K : PySem.W.Frag) : Addr := ma K (ga K "Kept") "__init__"
def d_Kept_init : He5.DefA := ⟨A_Kept_init, "__init__", "Kept.__init__", defArgs s_Kept_init, defBody s_Kept_init, defScope s_Kept_init, [], []⟩
def A_Kept_enter (K : PySem.W.Frag) : Addr := ma K (ga K "Kept") "__enter__"
def d_Kept_enter : He5.DefA := ⟨A_Kept_enter, "__enter__", "Kept.__enter__", defArgs s_Kept_enter, defBody s_Kept_enter, defScope s_Kept_enter, [], []⟩
def A_Kept_exit (K : PySem.W.Frag) : Addr := ma K (ga K "Kept") "__exit__"
def d_Kept_exit : He5.DefA := ⟨A_Kept_exit, "__exit__", "Kept.__exit__", defArgs s_Kept_exit, defBody s_Kept_exit, defScope s_Kept_exit, [], []⟩
def A_Session_init (K : PySem.W.Frag) : Addr := ma K (ga K "Session") "__init__"
def d_Session_init : He5.DefA := ⟨A_Session_init, "__init__", "Session.__init__", defArgs s_Session_init, defBody s_Session_init, defScope s_Session_init, [], []⟩
def A_Session_replayed (K : PySem.W.Frag) : Addr := cf K "Session" "replayed"
def d_Session_replayed : He5.DefA := ⟨A_Session_replayed, "replayed", "Session.replayed", defArgs s_Session_replayed, defBody s_Session_replayed, defScope s_Session_replayed, [], []⟩
def A_Session_queue (K : PySem.W.Frag) : Addr := pf K "Session" "queue"
def d_Session_queue : He5.DefA := ⟨A_Session_queue, "queue", "Session.queue", defArgs s_Session_queue, defBody s_Session_queue, defScope s_Session_queue, [], []⟩
def A_Session_capacity (K : PySem.W.Frag) : Addr := pf K "Session" "capacity"
def d_Session_capacity : He5.DefA := ⟨A_Session_capacity, "capacity", "Session.capacity", defArgs s_Session_capacity, defBody s_Session_capacity, defScope s_Session_capacity, [], []⟩
def A_Session_log (K : PySem.W.Frag) : Addr := ma K (ga K "Session") "log"
def d_Session_log : He5.DefA := ⟨A_Session_log, "log", "Session.log", defArgs s_Session_log, defBody s_Session_log, defScope s_Session_log, [], []⟩
def A_Session_attempts (K : PySem.W.Frag) : Addr := ma K (ga K "Session") "attempts"
def d_Session_attempts : He5.DefA := ⟨A_Session_attempts, "attempts", "Session.attempts", defArgs s_Session_attempts, defBody s_Session_attempts, defScope s_Session_attempts, [], []⟩
def A_Session_marks (K : PySem.W.Frag) : Addr := ma K (ga K "Session") "marks"
def d_Session_marks : He5.DefA := ⟨A_Session_marks, "marks", "Session.marks", defArgs s_Session_marks, defBody s_Session_marks, defScope s_Session_marks, [], []⟩
def A_Session_stepped (K : PySem.W.Frag) : Addr := ma K (ga K "Session") "stepped"
def d_Session_stepped : He5.DefA := ⟨A_Session_stepped, "stepped", "Session.stepped", defArgs s_Session_stepped, defBody s_Session_stepped, defScope s_Session_stepped, [], []⟩
def A_Session_execute_all (K : PySem.W.Frag) : Addr := ma K (ga K "Session") "execute_all"
def d_Session_execute_all : He5.DefA := ⟨A_Session_execute_all, "execute_all", "Session.execute_all", defArgs s_Session_execute_all, defBody s_Session_execute_all, defScope s_Session_execute_all, [], []⟩
def A_Session_do (K : PySem.W.Frag) : Addr := ma K (ga K "Session") "do"
def d_Session_do : He5.DefA := ⟨A_Session_do, "do", "Session.do", defArgs s_Session_do, defBody s_Session_do, defScope s_Session_do, [], []⟩
def A_Session_batch (K : PySem.W.Frag) : Addr := ma K (ga K "Session") "batch"
def d_Session_batch : He5.DefA := ⟨A_Session_batch, "batch", "Session.batch", defArgs s_Session_batch, defBody s_Session_batch, defScope s_Session_batch, [], []⟩
def A_Session_preview (K : PySem.W.Frag) : Addr := ma K (ga K "Session") "preview"
def d_Session_preview : He5.DefA := ⟨A_Session_preview, "preview", "Session.preview", defArgs s_Session_preview, defBody s_Session_preview, defScope s_Session_preview, [], []⟩
def A_Session_shorten (K : PySem.W.Frag) : Addr := ma K (ga K "Session") "shorten"
def d_Session_shorten : He5.DefA := ⟨A_Session_shorten, "shorten", "Session.shorten", defArgs s_Session_shorten, defBody s_Session_shorten, defScope s_Session_shorten, [], []⟩
def A_Session_undo (K : PySem.W.Frag) : Addr := ma K (ga K "Session") "undo"
def d_Session_undo : He5.DefA := ⟨A_Session_undo, "undo", "Session.undo", defArgs s_Session_undo, defBody s_Session_undo, defScope s_Session_undo, [], [("count", .int 1)]⟩
def A_Session_mark (K : PySem.W.Frag) : Addr := ma K (ga K "Session") "mark"
def d_Session_mark : He5.DefA := ⟨A_Session_mark, "mark", "Session.mark", defArgs s_Session_mark, defBody s_Session_mark, defScope s_Session_mark, [], []⟩
def A_Session_place_of (K : PySem.W.Frag) : Addr := ma K (ga K "Session") "place_of"
def d_Session_place_of : He5.DefA := ⟨A_Session_place_of, "place_of", "Session.place_of", defArgs s_Session_place_of, defBody s_Session_place_of, defScope s_Session_place_of, [], []⟩
def A_Session_since (K : PySem.W.Frag) : Addr := ma K (ga K "Session") "since"
def d_Session_since : He5.DefA := ⟨A_Session_since, "since", "Session.since", defArgs s_Session_since, defBody s_Session_since, defScope s_Session_since, [], []⟩
def A_Session_rewind (K : PySem.W.Frag) : Addr := ma K (ga K "Session") "rewind"
def d_Session_rewind : He5.DefA := ⟨A_Session_rewind, "rewind", "Session.rewind", defArgs s_Session_rewind, defBody s_Session_rewind, defScope s_Session_rewind, [], []⟩
def A_Session_total (K : PySem.W.Frag) : Addr := ma K (ga K "Session") "total"
def d_Session_total : He5.DefA := ⟨A_Session_total, "total", "Session.total", defArgs s_Session_total, defBody s_Session_total, defScope s_Session_total, [], []⟩
def A_Session_fresh (K : PySem.W.Frag) : Addr := ma K (ga K "Session") "fresh"
def d_Session_fresh : He5.DefA := ⟨A_Session_fresh, "fresh", "Session.fresh", defArgs s_Session_fresh, defBody s_Session_fresh, defScope s_Session_fresh, [], []⟩
def A_Session_clone (K : PySem.W.Frag) : Addr := ma K (ga K "Session") "clone"
def d_Session_clone : He5.DefA := ⟨A_Session_clone, "clone", "Session.clone", defArgs s_Session_clone, defBody s_Session_clone, defScope s_Session_clone, [], []⟩
def A_Session_eq (K : PySem.W.Frag) : Addr := ma K (ga K "Session") "__eq__"
def d_Session_eq : He5.DefA := ⟨A_Session_eq, "__eq__", "Session.__eq__", defArgs s_Session_eq, defBody s_Session_eq, defScope s_Session_eq, [], []⟩
def A_Session_len (K : PySem.W.Frag) : Addr := ma K (ga K "Session") "__len__"
def d_Session_len : He5.DefA := ⟨A_Session_len, "__len__", "Session.__len__", defArgs s_Session_len, defBody s_Session_len, defScope s_Session_len, [], []⟩
def A_word_text (K : PySem.W.Frag) : Addr := ga K "word_text"
def d_word_text : He5.DefA := ⟨A_word_text, "word_text", "word_text", defArgs s_word_text, defBody s_word_text, defScope s_word_text, [], []⟩
def A_list_text (K : PySem.W.Frag) : Addr := ga K "list_text"
def d_list_text : He5.DefA := ⟨A_list_text, "list_text", "list_text", defArgs s_list_text, defBody s_list_text, defScope s_list_text, [], []⟩
def A_format_look_effect (K : PySem.W.Frag) : Addr := ga K "format_look_effect"
def d_format_look_effect : He5.DefA := ⟨A_format_look_effect, "format_look_effect", "format_look_effect", defArgs s_format_look_effect, defBody s_format_look_effect, defScope s_format_look_effect, [], []⟩
def A_word_in (K : PySem.W.Frag) : Addr := ga K "word_in"
def d_word_in : He5.DefA := ⟨A_word_in, "word_in", "word_in", defArgs s_word_in, defBody s_word_in, defScope s_word_in, [], []⟩
def A_Console_init (K : PySem.W.Frag) : Addr := ma K (ga K "Console") "__init__"
def d_Console_init : He5.DefA := ⟨A_Console_init, "__init__", "Console.__init__", defArgs s_Console_init, defBody s_Console_init, defScope s_Console_init, [], []⟩
def A_Console_execute (K : PySem.W.Frag) : Addr := ma K (ga K "Console") "execute"
def d_Console_execute : He5.DefA := ⟨A_Console_execute, "execute", "Console.execute", defArgs s_Console_execute, defBody s_Console_execute, defScope s_Console_execute, [], []⟩
def A_Console_answer_query (K : PySem.W.Frag) : Addr := ma K (ga K "Console") "answer_query"
def d_Console_answer_query : He5.DefA := ⟨A_Console_answer_query, "answer_query", "Console.answer_query", defArgs s_Console_answer_query, defBody s_Console_answer_query, defScope s_Console_answer_query, [], []⟩
def A_Console_answer_undo (K : PySem.W.Frag) : Addr := ma K (ga K "Console") "answer_undo"
def d_Console_answer_undo : He5.DefA := ⟨A_Console_answer_undo, "answer_undo", "Console.answer_undo", defArgs s_Console_answer_undo, defBody s_Console_answer_undo, defScope s_Console_answer_undo, [], []⟩
def A_Console_answer_mark (K : PySem.W.Frag) : Addr := ma K (ga K "Console") "answer_mark"
def d_Console_answer_mark : He5.DefA := ⟨A_Console_answer_mark, "answer_mark", "Console.answer_mark", defArgs s_Console_answer_mark, defBody s_Console_answer_mark, defScope s_Console_answer_mark, [], []⟩
def A_Console_answer_try (K : PySem.W.Frag) : Addr := ma K (ga K "Console") "answer_try"
def d_Console_answer_try : He5.DefA := ⟨A_Console_answer_try, "answer_try", "Console.answer_try", defArgs s_Console_answer_try, defBody s_Console_answer_try, defScope s_Console_answer_try, [], []⟩
def A_Console_len (K : PySem.W.Frag) : Addr := ma K (ga K "Console") "__len__"
def d_Console_len : He5.DefA := ⟨A_Console_len, "__len__", "Console.__len__", defArgs s_Console_len, defBody s_Console_len, defScope s_Console_len, [], []⟩
def A_law_hand (K : PySem.W.Frag) : Addr := ga K "_law_hand"
def d_law_hand : He5.DefA := ⟨A_law_hand, "_law_hand", "_law_hand", defArgs s_law_hand, defBody s_law_hand, defScope s_law_hand, [], []⟩
def A_law_draw (K : PySem.W.Frag) : Addr := ga K "_law_draw"
def d_law_draw : He5.DefA := ⟨A_law_draw, "_law_draw", "_law_draw", defArgs s_law_draw, defBody s_law_draw, defScope s_law_draw, [], []⟩
def A_law_word (K : PySem.W.Frag) : Addr := ga K "_law_word"
def d_law_word : He5.DefA := ⟨A_law_word, "_law_word", "_law_word", defArgs s_law_word, defBody s_law_word, defScope s_law_word, [], []⟩
def A_law_any_step (K : PySem.W.Frag) : Addr := ga K "_law_any_step"
def d_law_any_step : He5.DefA := ⟨A_law_any_step, "_law_any_step", "_law_any_step", defArgs s_law_any_step, defBody s_law_any_step, defScope s_law_any_step, [], []⟩
def A_law_any_steps (K : PySem.W.Frag) : Addr := ga K "_law_any_steps"
def d_law_any_steps : He5.DefA := ⟨A_law_any_steps, "_law_any_steps", "_law_any_steps", defArgs s_law_any_steps, defBody s_law_any_steps, defScope s_law_any_steps, [], []⟩
def A_law_model (K : PySem.W.Frag) : Addr := ga K "_law_model"
def d_law_model : He5.DefA := ⟨A_law_model, "_law_model", "_law_model", defArgs s_law_model, defBody s_law_model, defScope s_law_model, [], []⟩
def A_law_next (K : PySem.W.Frag) : Addr := ga K "_law_next"
def d_law_next : He5.DefA := ⟨A_law_next, "_law_next", "_law_next", defArgs s_law_next, defBody s_law_next, defScope s_law_next, [], []⟩
def A_law_runs (K : PySem.W.Frag) : Addr := ga K "_law_runs"
def d_law_runs : He5.DefA := ⟨A_law_runs, "_law_runs", "_law_runs", defArgs s_law_runs, defBody s_law_runs, defScope s_law_runs, [], []⟩
def A_law_add (K : PySem.W.Frag) : Addr := ga K "_law_add"
def d_law_add : He5.DefA := ⟨A_law_add, "_law_add", "_law_add", defArgs s_law_add, defBody s_law_add, defScope s_law_add, [], []⟩
def A_law_cut (K : PySem.W.Frag) : Addr := ga K "_law_cut"
def d_law_cut : He5.DefA := ⟨A_law_cut, "_law_cut", "_law_cut", defArgs s_law_cut, defBody s_law_cut, defScope s_law_cut, [], []⟩
def A_law_shows (K : PySem.W.Frag) : Addr := ga K "_law_shows"
def d_law_shows : He5.DefA := ⟨A_law_shows, "_law_shows", "_law_shows", defArgs s_law_shows, defBody s_law_shows, defScope s_law_shows, [], []⟩
def A_law_did (K : PySem.W.Frag) : Addr := ga K "_law_did"
def d_law_did : He5.DefA := ⟨A_law_did, "_law_did", "_law_did", defArgs s_law_did, defBody s_law_did, defScope s_law_did, [], []⟩
def A_law_turn (K : PySem.W.Frag) : Addr := ga K "_law_turn"
def d_law_turn : He5.DefA := ⟨A_law_turn, "_law_turn", "_law_turn", defArgs s_law_turn, defBody s_law_turn, defScope s_law_turn, [], []⟩
def A_law_move (K : PySem.W.Frag) : Addr := ga K "_law_move"
def d_law_move : He5.DefA := ⟨A_law_move, "_law_move", "_law_move", defArgs s_law_move, defBody s_law_move, defScope s_law_move, [], []⟩
def A_law_right (K : PySem.W.Frag) : Addr := ga K "_law_right"
def d_law_right : He5.DefA := ⟨A_law_right, "_law_right", "_law_right", defArgs s_law_right, defBody s_law_right, defScope s_law_right, [], []⟩
def A_law_limited (K : PySem.W.Frag) : Addr := ga K "_law_limited"
def d_law_limited : He5.DefA := ⟨A_law_limited, "_law_limited", "_law_limited", defArgs s_law_limited, defBody s_law_limited, defScope s_law_limited, [], []⟩
def A_law_many_steps (K : PySem.W.Frag) : Addr := ga K "_law_many_steps"
def d_law_many_steps : He5.DefA := ⟨A_law_many_steps, "_law_many_steps", "_law_many_steps", defArgs s_law_many_steps, defBody s_law_many_steps, defScope s_law_many_steps, [], []⟩
def A_law_many_takes (K : PySem.W.Frag) : Addr := ga K "_law_many_takes"
def d_law_many_takes : He5.DefA := ⟨A_law_many_takes, "_law_many_takes", "_law_many_takes", defArgs s_law_many_takes, defBody s_law_many_takes, defScope s_law_many_takes, [], []⟩
def A_law (K : PySem.W.Frag) : Addr := ga K "law"
def d_law : He5.DefA := ⟨A_law, "law", "law", defArgs s_law, defBody s_law, defScope s_law, [], []⟩
def fa0 : List (Fa) := [.glo "is_integer", .glo "in_range", .glo "is_word", .glo "is_queue", .glo "check_queue", .glo "is_step", .glo "is_suitable", .glo "least_suitable", .glo "is_look", .glo "first_unlooking", .glo "check_looking", .glo "after_look"]
def fa1 : List (Fa) := [.glo "execute_looking", .glo "run_looking", .meth "LookEffect" "accepts", .meth "LookEffect" "apply", .glo "look_parts", .glo "check_look", .meth "Collector" "add", .meth "Collector" "effect", .glo "conflict", .glo "collected", .glo "look_effect_of", .glo "compose_looks"]
def fa2 : List (Fa) := [.glo "is_name", .meth "Session" "log", .meth "Session" "attempts", .meth "Session" "marks", .meth "Session" "stepped", .meth "Session" "execute_all", .meth "Session" "do", .meth "Session" "batch", .meth "Session" "preview", .meth "Session" "shorten", .meth "Session" "undo", .meth "Session" "mark"]
def fa3 : List (Fa) := [.meth "Session" "place_of", .meth "Session" "since", .meth "Session" "rewind", .meth "Session" "total", .meth "Session" "fresh", .meth "Session" "clone", .glo "word_text", .glo "list_text", .glo "format_look_effect", .glo "word_in", .meth "Console" "execute", .meth "Console" "answer_query"]
def fa4 : List (Fa) := [.meth "Console" "answer_undo", .meth "Console" "answer_mark", .meth "Console" "answer_try", .glo "_law_hand", .glo "_law_draw", .glo "_law_word", .glo "_law_any_step", .glo "_law_any_steps", .glo "_law_model", .glo "_law_next", .glo "_law_runs", .glo "_law_add"]
def fa5 : List (Fa) := [.glo "_law_cut", .glo "_law_shows", .glo "_law_did", .glo "_law_turn", .glo "_law_move", .glo "_law_right", .glo "_law_limited", .glo "_law_many_steps", .glo "_law_many_takes", .glo "law", .glo "LookEffect", .cls "LookEffect"]
def fa6 : List (Fa) := [.mkr "LookEffect", .noat "LookEffect" "own_prefix", .noat "LookEffect" "own_taken", .noat "LookEffect" "own_puts", .noat "LookEffect" "own_core", .glo "Collector", .cls "Collector", .mkr "Collector", .noat "Collector" "own_prefix", .noat "Collector" "own_puts", .noat "Collector" "own_taken", .noat "Collector" "own_need"]
def fa7 : List (Fa) := [.glo "Kept", .cls "Kept", .mkr "Kept", .noat "Kept" "held", .noat "Kept" "queues", .noat "Kept" "steps", .glo "Session", .cls "Session", .mkr "Session", .noat "Session" "own_queues", .noat "Session" "own_log", .noat "Session" "own_marks"]
def fa8 : List (Fa) := [.noat "Session" "own_attempts", .glo "Console", .cls "Console", .mkr "Console", .noat "Console" "own_session", .noat "Console" "own_commands", .glo "StepFailed", .exm "StepFailed" "StepFailed" true, .exm "StepFailed" "LimitExceeded" false, .exm "StepFailed" "InvalidSequence" false, .glo "LimitExceeded", .exm "LimitExceeded" "StepFailed" false]
def fa9 : List (Fa) := [.exm "LimitExceeded" "LimitExceeded" true, .exm "LimitExceeded" "InvalidSequence" false, .glo "InvalidSequence", .int "MAX_QUEUE" 2100, .int "MAX_STEPS" 400, .int "MAX_ITEMS" 2000, .int "MAX_BATCH" 50, .int "MAX_MARKS" 16, .int "MAX_NAME" 8, .str "ITEMS" "abcdefgh", .str "LETTERS" "abcdefghijklmnopqrstuvwxyz", .str "EMPTY" "."]
def fa10 : List (Fa) := [.free "len", .free "isinstance", .free "all", .free "max", .free "min", .free "int", .free "str", .free "list", .free "dict", .free "range", .free "enumerate", .free "sorted"]
def fa11 : List (Fa) := [.free "bool"]
def fa : List (Fa) := (fa0 ++ (fa1 ++ (fa2 ++ (fa3 ++ (fa4 ++ (fa5 ++ (fa6 ++ (fa7 ++ (fa8 ++ (fa9 ++ (fa10 ++ fa11)))))))))))
def fn0 : List (He5.DefA) := [d_StepFailed_init, d_LimitExceeded_init, d_is_integer, d_in_range, d_is_word, d_is_queue, d_check_queue, d_is_step, d_is_suitable, d_least_suitable, d_is_look, d_first_unlooking]
def fn1 : List (He5.DefA) := [d_check_looking, d_after_look, d_execute_looking, d_run_looking, d_LookEffect_init, d_LookEffect_prefix, d_LookEffect_taken, d_LookEffect_puts, d_LookEffect_core, d_LookEffect_accepts, d_LookEffect_apply, d_LookEffect_eq]
def fn2 : List (He5.DefA) := [d_look_parts, d_check_look, d_Collector_init, d_Collector_add, d_Collector_effect, d_conflict, d_collected, d_look_effect_of, d_compose_looks, d_is_name, d_Kept_init, d_Kept_enter]
def fn3 : List (He5.DefA) := [d_Kept_exit, d_Session_init, d_Session_replayed, d_Session_queue, d_Session_capacity, d_Session_log, d_Session_attempts, d_Session_marks, d_Session_stepped, d_Session_execute_all, d_Session_do, d_Session_batch]
def fn4 : List (He5.DefA) := [d_Session_preview, d_Session_shorten, d_Session_undo, d_Session_mark, d_Session_place_of, d_Session_since, d_Session_rewind, d_Session_total, d_Session_fresh, d_Session_clone, d_Session_eq, d_Session_len]
def fn5 : List (He5.DefA) := [d_word_text, d_list_text, d_format_look_effect, d_word_in, d_Console_init, d_Console_execute, d_Console_answer_query, d_Console_answer_undo, d_Console_answer_mark, d_Console_answer_try, d_Console_len, d_law_hand]
def fn6 : List (He5.DefA) := [d_law_draw, d_law_word, d_law_any_step, d_law_any_steps, d_law_model, d_law_next, d_law_runs, d_law_add, d_law_cut, d_law_shows, d_law_did, d_law_turn]
def fn7 : List (He5.DefA) := [d_law_move, d_law_right, d_law_limited, d_law_many_steps, d_law_many_takes, d_law]
def fn : List (He5.DefA) := (fn0 ++ (fn1 ++ (fn2 ++ (fn3 ++ (fn4 ++ (fn5 ++ (fn6 ++ fn7)))))))
def exL0 : List (PySem.W.Frag → Bool) := [fun K => propB K "LookEffect" "prefix", fun K => propB K "LookEffect" "taken", fun K => propB K "LookEffect" "puts", fun K => propB K "LookEffect" "core", fun K => propB K "Session" "queue", fun K => propB K "Session" "capacity", fun K => cmB K "Session" "replayed", fun K => insB K "LookEffect", fun K => neKB K (ga K "LookEffect") (A_LookEffect_eq K), fun K => insB K "Session", fun K => neKB K (ga K "Session") (A_Session_eq K), fun K => lenB K "Session"]
def exL1 : List (PySem.W.Frag → Bool) := [fun K => lenB K "Console", fun K => withCB K (ga K "Kept") (A_Kept_enter K) (A_Kept_exit K), fun K => PySem.QeX.xcB K (ga K "StepFailed") (A_StepFailed_init K) bm_StepFailed "RuntimeError.__new__" "position", fun K => PySem.QeX.xcB K (ga K "LimitExceeded") (A_LimitExceeded_init K) bm_LimitExceeded "OverflowError.__new__" "limit", fun K => decide ((cT K ("_law_many_steps", none)).2 ≠ (cT K ("_law_many_takes", none)).2)]
def exL : List (PySem.W.Frag → Bool) := (exL0 ++ exL1)
def tf : List Defn := [("_law_many_steps", none), ("_law_many_takes", none)]
def exQ (K : PySem.W.Frag) : Bool := exL.all fun e => e K

/-- the facts of K and of the names that stand -/
structure Tx (K : PySem.W.Frag) (mg : Str → Option Value) : Prop where
  sd : He5.SaysA fa fn K
  ex : exQ K = true
  gm1 : ∀ x v, PySem.W.nsIn K mainGlobals x = some (some v) → mg x = some v
  gm0 : ∀ x, PySem.W.nsIn K mainGlobals x = some none → mg x = none
section
variable {K : PySem.W.Frag} {mg : Str → Option Value}
theorem tx_of {h : Heap} (X : K.In h) (G : h.Ns mainGlobals mg) (c : SaysQ fa fn tf exQ h K) : Tx K mg := ⟨c.t, c.more, fun _ _ e => PySem.W.mg_of X G e, fun _ e => PySem.W.mg_none_of X G e⟩
theorem Tx.exi (t : Tx K mg) (i : Nat) {e : PySem.W.Frag → Bool} (h : exL[i]? = some e := by rfl) : e K = true := List.all_eq_true.mp (show exL.all (fun e => e K) = true from t.ex) e (List.mem_of_getElem? h)
theorem Tx.glo (t : Tx K mg) {x : Str} (c : (Fa.glo x).ok K = true) : mg x = some (.ref (ga K x)) := t.gm1 _ _ (eqO_ok c)
theorem Tx.free (t : Tx K mg) {x : Str} (c : (Fa.free x).ok K = true) : mg x = none := t.gm0 _ (eqO_ok c)
theorem Tx.int (t : Tx K mg) {x : Str} {i : Int} (c : (Fa.int x i).ok K = true) : ∃ u, mg x = some (.int i u) := by
  have c2 :
        (match PySem.W.nsIn K mainGlobals x with
    | some (some (.int j _)) =>
          decide (j = i)
    | _ => false) = true := c
  split at c2
  · rename_i j u e
    have ej : j = i :=
          of_decide_eq_true c2
    exact ⟨u, t.gm1 _ _ (ej ▸ e)⟩
  · cases c2
theorem Tx.str (t : Tx K mg) {x z : Str} (c : (Fa.str x z).ok K = true) : ∃ u, mg x = some (.str z u) := by
  have c2 :
        (match PySem.W.nsIn K mainGlobals x with
    | some (some (.str y _)) =>
          decide (y = z)
    | _ => false) = true := c
  split at c2
  · rename_i j u e
    have ej : j = z := of_decide_eq_true c2
    exact ⟨u, t.gm1 _ _ (ej ▸ e)⟩
  · cases c2

theorem Tx.D_StepFailed_init (t : Tx K mg) : ∃ fd, FunD K "__init__" "StepFailed.__init__" (defArgs s_StepFailed_init) (defBody s_StepFailed_init) (defScope s_StepFailed_init) [] [] (A_StepFailed_init K) fd := t.sd.def_ 0 (d := d_StepFailed_init) rfl
theorem Tx.D_LimitExceeded_init (t : Tx K mg) : ∃ fd, FunD K "__init__" "LimitExceeded.__init__" (defArgs s_LimitExceeded_init) (defBody s_LimitExceeded_init) (defScope s_LimitExceeded_init) [] [] (A_LimitExceeded_init K) fd := t.sd.def_ 1 (d := d_LimitExceeded_init) rfl
theorem Tx.D_is_integer (t : Tx K mg) : ∃ fd, FunD K "is_integer" "is_integer" (defArgs s_is_integer) (defBody s_is_integer) (defScope s_is_integer) [] [] (A_is_integer K) fd := t.sd.def_ 2 (d := d_is_integer) rfl
theorem Tx.g_is_integer (t : Tx K mg) : mg "is_integer" = some (.ref (A_is_integer K)) := t.glo (t.sd.fact 0 (f := .glo "is_integer") rfl)
theorem Tx.D_in_range (t : Tx K mg) : ∃ fd, FunD K "in_range" "in_range" (defArgs s_in_range) (defBody s_in_range) (defScope s_in_range) [] [] (A_in_range K) fd := t.sd.def_ 3 (d := d_in_range) rfl
theorem Tx.g_in_range (t : Tx K mg) : mg "in_range" = some (.ref (A_in_range K)) := t.glo (t.sd.fact 1 (f := .glo "in_range") rfl)
theorem Tx.D_is_word (t : Tx K mg) : ∃ fd, FunD K "is_word" "is_word" (defArgs s_is_word) (defBody s_is_word) (defScope s_is_word) [] [] (A_is_word K) fd := t.sd.def_ 4 (d := d_is_word) rfl
theorem Tx.g_is_word (t : Tx K mg) : mg "is_word" = some (.ref (A_is_word K)) := t.glo (t.sd.fact 2 (f := .glo "is_word") rfl)
theorem Tx.D_is_queue (t : Tx K mg) : ∃ fd, FunD K "is_queue" "is_queue" (defArgs s_is_queue) (defBody s_is_queue) (defScope s_is_queue) [] [] (A_is_queue K) fd := t.sd.def_ 5 (d := d_is_queue) rfl
theorem Tx.g_is_queue (t : Tx K mg) : mg "is_queue" = some (.ref (A_is_queue K)) := t.glo (t.sd.fact 3 (f := .glo "is_queue") rfl)
theorem Tx.D_check_queue (t : Tx K mg) : ∃ fd, FunD K "check_queue" "check_queue" (defArgs s_check_queue) (defBody s_check_queue) (defScope s_check_queue) [] [] (A_check_queue K) fd := t.sd.def_ 6 (d := d_check_queue) rfl
theorem Tx.g_check_queue (t : Tx K mg) : mg "check_queue" = some (.ref (A_check_queue K)) := t.glo (t.sd.fact 4 (f := .glo "check_queue") rfl)
theorem Tx.D_is_step (t : Tx K mg) : ∃ fd, FunD K "is_step" "is_step" (defArgs s_is_step) (defBody s_is_step) (defScope s_is_step) [] [] (A_is_step K) fd := t.sd.def_ 7 (d := d_is_step) rfl
theorem Tx.g_is_step (t : Tx K mg) : mg "is_step" = some (.ref (A_is_step K)) := t.glo (t.sd.fact 5 (f := .glo "is_step") rfl)
theorem Tx.D_is_suitable (t : Tx K mg) : ∃ fd, FunD K "is_suitable" "is_suitable" (defArgs s_is_suitable) (defBody s_is_suitable) (defScope s_is_suitable) [] [] (A_is_suitable K) fd := t.sd.def_ 8 (d := d_is_suitable) rfl
theorem Tx.g_is_suitable (t : Tx K mg) : mg "is_suitable" = some (.ref (A_is_suitable K)) := t.glo (t.sd.fact 6 (f := .glo "is_suitable") rfl)
theorem Tx.D_least_suitable (t : Tx K mg) : ∃ fd, FunD K "least_suitable" "least_suitable" (defArgs s_least_suitable) (defBody s_least_suitable) (defScope s_least_suitable) [] [] (A_least_suitable K) fd := t.sd.def_ 9 (d := d_least_suitable) rfl
theorem Tx.g_least_suitable (t : Tx K mg) : mg "least_suitable" = some (.ref (A_least_suitable K)) := t.glo (t.sd.fact 7 (f := .glo "least_suitable") rfl)
theorem Tx.D_is_look (t : Tx K mg) : ∃ fd, FunD K "is_look" "is_look" (defArgs s_is_look) (defBody s_is_look) (defScope s_is_look) [] [] (A_is_look K) fd := t.sd.def_ 10 (d := d_is_look) rfl
theorem Tx.g_is_look (t : Tx K mg) : mg "is_look" = some (.ref (A_is_look K)) := t.glo (t.sd.fact 8 (f := .glo "is_look") rfl)
theorem Tx.D_first_unlooking (t : Tx K mg) : ∃ fd, FunD K "first_unlooking" "first_unlooking" (defArgs s_first_unlooking) (defBody s_first_unlooking) (defScope s_first_unlooking) [] [] (A_first_unlooking K) fd := t.sd.def_ 11 (d := d_first_unlooking) rfl
theorem Tx.g_first_unlooking (t : Tx K mg) : mg "first_unlooking" = some (.ref (A_first_unlooking K)) := t.glo (t.sd.fact 9 (f := .glo "first_unlooking") rfl)
theorem Tx.D_check_looking (t : Tx K mg) : ∃ fd, FunD K "check_looking" "check_looking" (defArgs s_check_looking) (defBody s_check_looking) (defScope s_check_looking) [] [] (A_check_looking K) fd := t.sd.def_ 12 (d := d_check_looking) rfl
theorem Tx.g_check_looking (t : Tx K mg) : mg "check_looking" = some (.ref (A_check_looking K)) := t.glo (t.sd.fact 10 (f := .glo "check_looking") rfl)
theorem Tx.D_after_look (t : Tx K mg) : ∃ fd, FunD K "after_look" "after_look" (defArgs s_after_look) (defBody s_after_look) (defScope s_after_look) [] [] (A_after_look K) fd := t.sd.def_ 13 (d := d_after_look) rfl
theorem Tx.g_after_look (t : Tx K mg) : mg "after_look" = some (.ref (A_after_look K)) := t.glo (t.sd.fact 11 (f := .glo "after_look") rfl)
theorem Tx.D_execute_looking (t : Tx K mg) : ∃ fd, FunD K "execute_looking" "execute_looking" (defArgs s_execute_looking) (defBody s_execute_looking) (defScope s_execute_looking) [] [] (A_execute_looking K) fd := t.sd.def_ 14 (d := d_execute_looking) rfl
theorem Tx.g_execute_looking (t : Tx K mg) : mg "execute_looking" = some (.ref (A_execute_looking K)) := t.glo (t.sd.fact 12 (f := .glo "execute_looking") rfl)
theorem Tx.D_run_looking (t : Tx K mg) : ∃ fd, FunD K "run_looking" "run_looking" (defArgs s_run_looking) (defBody s_run_looking) (defScope s_run_looking) [] [] (A_run_looking K) fd := t.sd.def_ 15 (d := d_run_looking) rfl
theorem Tx.g_run_looking (t : Tx K mg) : mg "run_looking" = some (.ref (A_run_looking K)) := t.glo (t.sd.fact 13 (f := .glo "run_looking") rfl)
theorem Tx.D_LookEffect_init (t : Tx K mg) : ∃ fd, FunD K "__init__" "LookEffect.__init__" (defArgs s_LookEffect_init) (defBody s_LookEffect_init) (defScope s_LookEffect_init) [] [] (A_LookEffect_init K) fd := t.sd.def_ 16 (d := d_LookEffect_init) rfl
theorem Tx.D_LookEffect_prefix (t : Tx K mg) : ∃ fd, FunD K "prefix" "LookEffect.prefix" (defArgs s_LookEffect_prefix) (defBody s_LookEffect_prefix) (defScope s_LookEffect_prefix) [] [] (A_LookEffect_prefix K) fd := t.sd.def_ 17 (d := d_LookEffect_prefix) rfl
theorem Tx.D_LookEffect_taken (t : Tx K mg) : ∃ fd, FunD K "taken" "LookEffect.taken" (defArgs s_LookEffect_taken) (defBody s_LookEffect_taken) (defScope s_LookEffect_taken) [] [] (A_LookEffect_taken K) fd := t.sd.def_ 18 (d := d_LookEffect_taken) rfl
theorem Tx.D_LookEffect_puts (t : Tx K mg) : ∃ fd, FunD K "puts" "LookEffect.puts" (defArgs s_LookEffect_puts) (defBody s_LookEffect_puts) (defScope s_LookEffect_puts) [] [] (A_LookEffect_puts K) fd := t.sd.def_ 19 (d := d_LookEffect_puts) rfl
theorem Tx.D_LookEffect_core (t : Tx K mg) : ∃ fd, FunD K "core" "LookEffect.core" (defArgs s_LookEffect_core) (defBody s_LookEffect_core) (defScope s_LookEffect_core) [] [] (A_LookEffect_core K) fd := t.sd.def_ 20 (d := d_LookEffect_core) rfl
theorem Tx.D_LookEffect_accepts (t : Tx K mg) : ∃ fd, FunD K "accepts" "LookEffect.accepts" (defArgs s_LookEffect_accepts) (defBody s_LookEffect_accepts) (defScope s_LookEffect_accepts) [] [] (A_LookEffect_accepts K) fd := t.sd.def_ 21 (d := d_LookEffect_accepts) rfl
theorem Tx.m_LookEffect_accepts (t : Tx K mg) : Meth K (ga K "LookEffect") "accepts" (A_LookEffect_accepts K) := meth_ok (t.sd.fact 14 (f := .meth "LookEffect" "accepts") rfl)
theorem Tx.D_LookEffect_apply (t : Tx K mg) : ∃ fd, FunD K "apply" "LookEffect.apply" (defArgs s_LookEffect_apply) (defBody s_LookEffect_apply) (defScope s_LookEffect_apply) [] [] (A_LookEffect_apply K) fd := t.sd.def_ 22 (d := d_LookEffect_apply) rfl
theorem Tx.m_LookEffect_apply (t : Tx K mg) : Meth K (ga K "LookEffect") "apply" (A_LookEffect_apply K) := meth_ok (t.sd.fact 15 (f := .meth "LookEffect" "apply") rfl)
theorem Tx.D_LookEffect_eq (t : Tx K mg) : ∃ fd, FunD K "__eq__" "LookEffect.__eq__" (defArgs s_LookEffect_eq) (defBody s_LookEffect_eq) (defScope s_LookEffect_eq) [] [] (A_LookEffect_eq K) fd := t.sd.def_ 23 (d := d_LookEffect_eq) rfl
theorem Tx.D_look_parts (t : Tx K mg) : ∃ fd, FunD K "look_parts" "look_parts" (defArgs s_look_parts) (defBody s_look_parts) (defScope s_look_parts) [] [] (A_look_parts K) fd := t.sd.def_ 24 (d := d_look_parts) rfl
theorem Tx.g_look_parts (t : Tx K mg) : mg "look_parts" = some (.ref (A_look_parts K)) := t.glo (t.sd.fact 16 (f := .glo "look_parts") rfl)
theorem Tx.D_check_look (t : Tx K mg) : ∃ fd, FunD K "check_look" "check_look" (defArgs s_check_look) (defBody s_check_look) (defScope s_check_look) [] [] (A_check_look K) fd := t.sd.def_ 25 (d := d_check_look) rfl
theorem Tx.g_check_look (t : Tx K mg) : mg "check_look" = some (.ref (A_check_look K)) := t.glo (t.sd.fact 17 (f := .glo "check_look") rfl)
theorem Tx.D_Collector_init (t : Tx K mg) : ∃ fd, FunD K "__init__" "Collector.__init__" (defArgs s_Collector_init) (defBody s_Collector_init) (defScope s_Collector_init) [] [] (A_Collector_init K) fd := t.sd.def_ 26 (d := d_Collector_init) rfl
theorem Tx.D_Collector_add (t : Tx K mg) : ∃ fd, FunD K "add" "Collector.add" (defArgs s_Collector_add) (defBody s_Collector_add) (defScope s_Collector_add) [] [] (A_Collector_add K) fd := t.sd.def_ 27 (d := d_Collector_add) rfl
theorem Tx.m_Collector_add (t : Tx K mg) : Meth K (ga K "Collector") "add" (A_Collector_add K) := meth_ok (t.sd.fact 18 (f := .meth "Collector" "add") rfl)
theorem Tx.D_Collector_effect (t : Tx K mg) : ∃ fd, FunD K "effect" "Collector.effect" (defArgs s_Collector_effect) (defBody s_Collector_effect) (defScope s_Collector_effect) [] [] (A_Collector_effect K) fd := t.sd.def_ 28 (d := d_Collector_effect) rfl
theorem Tx.m_Collector_effect (t : Tx K mg) : Meth K (ga K "Collector") "effect" (A_Collector_effect K) := meth_ok (t.sd.fact 19 (f := .meth "Collector" "effect") rfl)
theorem Tx.D_conflict (t : Tx K mg) : ∃ fd, FunD K "conflict" "conflict" (defArgs s_conflict) (defBody s_conflict) (defScope s_conflict) [] [] (A_conflict K) fd := t.sd.def_ 29 (d := d_conflict) rfl
theorem Tx.g_conflict (t : Tx K mg) : mg "conflict" = some (.ref (A_conflict K)) := t.glo (t.sd.fact 20 (f := .glo "conflict") rfl)
theorem Tx.D_collected (t : Tx K mg) : ∃ fd, FunD K "collected" "collected" (defArgs s_collected) (defBody s_collected) (defScope s_collected) [] [] (A_collected K) fd := t.sd.def_ 30 (d := d_collected) rfl
theorem Tx.g_collected (t : Tx K mg) : mg "collected" = some (.ref (A_collected K)) := t.glo (t.sd.fact 21 (f := .glo "collected") rfl)
theorem Tx.D_look_effect_of (t : Tx K mg) : ∃ fd, FunD K "look_effect_of" "look_effect_of" (defArgs s_look_effect_of) (defBody s_look_effect_of) (defScope s_look_effect_of) [] [] (A_look_effect_of K) fd := t.sd.def_ 31 (d := d_look_effect_of) rfl
theorem Tx.g_look_effect_of (t : Tx K mg) : mg "look_effect_of" = some (.ref (A_look_effect_of K)) := t.glo (t.sd.fact 22 (f := .glo "look_effect_of") rfl)
theorem Tx.D_compose_looks (t : Tx K mg) : ∃ fd, FunD K "compose_looks" "compose_looks" (defArgs s_compose_looks) (defBody s_compose_looks) (defScope s_compose_looks) [] [] (A_compose_looks K) fd := t.sd.def_ 32 (d := d_compose_looks) rfl
theorem Tx.g_compose_looks (t : Tx K mg) : mg "compose_looks" = some (.ref (A_compose_looks K)) := t.glo (t.sd.fact 23 (f := .glo "compose_looks") rfl)
theorem Tx.D_is_name (t : Tx K mg) : ∃ fd, FunD K "is_name" "is_name" (defArgs s_is_name) (defBody s_is_name) (defScope s_is_name) [] [] (A_is_name K) fd := t.sd.def_ 33 (d := d_is_name) rfl
theorem Tx.g_is_name (t : Tx K mg) : mg "is_name" = some (.ref (A_is_name K)) := t.glo (t.sd.fact 24 (f := .glo "is_name") rfl)
theorem Tx.D_Kept_init (t : Tx K mg) : ∃ fd, FunD K "__init__" "Kept.__init__" (defArgs s_Kept_init) (defBody s_Kept_init) (defScope s_Kept_init) [] [] (A_Kept_init K) fd := t.sd.def_ 34 (d := d_Kept_init) rfl
theorem Tx.D_Kept_enter (t : Tx K mg) : ∃ fd, FunD K "__enter__" "Kept.__enter__" (defArgs s_Kept_enter) (defBody s_Kept_enter) (defScope s_Kept_enter) [] [] (A_Kept_enter K) fd := t.sd.def_ 35 (d := d_Kept_enter) rfl
theorem Tx.D_Kept_exit (t : Tx K mg) : ∃ fd, FunD K "__exit__" "Kept.__exit__" (defArgs s_Kept_exit) (defBody s_Kept_exit) (defScope s_Kept_exit) [] [] (A_Kept_exit K) fd := t.sd.def_ 36 (d := d_Kept_exit) rfl
theorem Tx.D_Session_init (t : Tx K mg) : ∃ fd, FunD K "__init__" "Session.__init__" (defArgs s_Session_init) (defBody s_Session_init) (defScope s_Session_init) [] [] (A_Session_init K) fd := t.sd.def_ 37 (d := d_Session_init) rfl
theorem Tx.D_Session_replayed (t : Tx K mg) : ∃ fd, FunD K "replayed" "Session.replayed" (defArgs s_Session_replayed) (defBody s_Session_replayed) (defScope s_Session_replayed) [] [] (A_Session_replayed K) fd := t.sd.def_ 38 (d := d_Session_replayed) rfl
theorem Tx.D_Session_queue (t : Tx K mg) : ∃ fd, FunD K "queue" "Session.queue" (defArgs s_Session_queue) (defBody s_Session_queue) (defScope s_Session_queue) [] [] (A_Session_queue K) fd := t.sd.def_ 39 (d := d_Session_queue) rfl
theorem Tx.D_Session_capacity (t : Tx K mg) : ∃ fd, FunD K "capacity" "Session.capacity" (defArgs s_Session_capacity) (defBody s_Session_capacity) (defScope s_Session_capacity) [] [] (A_Session_capacity K) fd := t.sd.def_ 40 (d := d_Session_capacity) rfl
theorem Tx.D_Session_log (t : Tx K mg) : ∃ fd, FunD K "log" "Session.log" (defArgs s_Session_log) (defBody s_Session_log) (defScope s_Session_log) [] [] (A_Session_log K) fd := t.sd.def_ 41 (d := d_Session_log) rfl
theorem Tx.m_Session_log (t : Tx K mg) : Meth K (ga K "Session") "log" (A_Session_log K) := meth_ok (t.sd.fact 25 (f := .meth "Session" "log") rfl)
theorem Tx.D_Session_attempts (t : Tx K mg) : ∃ fd, FunD K "attempts" "Session.attempts" (defArgs s_Session_attempts) (defBody s_Session_attempts) (defScope s_Session_attempts) [] [] (A_Session_attempts K) fd := t.sd.def_ 42 (d := d_Session_attempts) rfl
theorem Tx.m_Session_attempts (t : Tx K mg) : Meth K (ga K "Session") "attempts" (A_Session_attempts K) := meth_ok (t.sd.fact 26 (f := .meth "Session" "attempts") rfl)
theorem Tx.D_Session_marks (t : Tx K mg) : ∃ fd, FunD K "marks" "Session.marks" (defArgs s_Session_marks) (defBody s_Session_marks) (defScope s_Session_marks) [] [] (A_Session_marks K) fd := t.sd.def_ 43 (d := d_Session_marks) rfl
theorem Tx.m_Session_marks (t : Tx K mg) : Meth K (ga K "Session") "marks" (A_Session_marks K) := meth_ok (t.sd.fact 27 (f := .meth "Session" "marks") rfl)
theorem Tx.D_Session_stepped (t : Tx K mg) : ∃ fd, FunD K "stepped" "Session.stepped" (defArgs s_Session_stepped) (defBody s_Session_stepped) (defScope s_Session_stepped) [] [] (A_Session_stepped K) fd := t.sd.def_ 44 (d := d_Session_stepped) rfl
theorem Tx.m_Session_stepped (t : Tx K mg) : Meth K (ga K "Session") "stepped" (A_Session_stepped K) := meth_ok (t.sd.fact 28 (f := .meth "Session" "stepped") rfl)
theorem Tx.D_Session_execute_all (t : Tx K mg) : ∃ fd, FunD K "execute_all" "Session.execute_all" (defArgs s_Session_execute_all) (defBody s_Session_execute_all) (defScope s_Session_execute_all) [] [] (A_Session_execute_all K) fd := t.sd.def_ 45 (d := d_Session_execute_all) rfl
theorem Tx.m_Session_execute_all (t : Tx K mg) : Meth K (ga K "Session") "execute_all" (A_Session_execute_all K) := meth_ok (t.sd.fact 29 (f := .meth "Session" "execute_all") rfl)
theorem Tx.D_Session_do (t : Tx K mg) : ∃ fd, FunD K "do" "Session.do" (defArgs s_Session_do) (defBody s_Session_do) (defScope s_Session_do) [] [] (A_Session_do K) fd := t.sd.def_ 46 (d := d_Session_do) rfl
theorem Tx.m_Session_do (t : Tx K mg) : Meth K (ga K "Session") "do" (A_Session_do K) := meth_ok (t.sd.fact 30 (f := .meth "Session" "do") rfl)
theorem Tx.D_Session_batch (t : Tx K mg) : ∃ fd, FunD K "batch" "Session.batch" (defArgs s_Session_batch) (defBody s_Session_batch) (defScope s_Session_batch) [] [] (A_Session_batch K) fd := t.sd.def_ 47 (d := d_Session_batch) rfl
theorem Tx.m_Session_batch (t : Tx K mg) : Meth K (ga K "Session") "batch" (A_Session_batch K) := meth_ok (t.sd.fact 31 (f := .meth "Session" "batch") rfl)
theorem Tx.D_Session_preview (t : Tx K mg) : ∃ fd, FunD K "preview" "Session.preview" (defArgs s_Session_preview) (defBody s_Session_preview) (defScope s_Session_preview) [] [] (A_Session_preview K) fd := t.sd.def_ 48 (d := d_Session_preview) rfl
theorem Tx.m_Session_preview (t : Tx K mg) : Meth K (ga K "Session") "preview" (A_Session_preview K) := meth_ok (t.sd.fact 32 (f := .meth "Session" "preview") rfl)
theorem Tx.D_Session_shorten (t : Tx K mg) : ∃ fd, FunD K "shorten" "Session.shorten" (defArgs s_Session_shorten) (defBody s_Session_shorten) (defScope s_Session_shorten) [] [] (A_Session_shorten K) fd := t.sd.def_ 49 (d := d_Session_shorten) rfl
theorem Tx.m_Session_shorten (t : Tx K mg) : Meth K (ga K "Session") "shorten" (A_Session_shorten K) := meth_ok (t.sd.fact 33 (f := .meth "Session" "shorten") rfl)
theorem Tx.D_Session_undo (t : Tx K mg) : ∃ fd, FunD K "undo" "Session.undo" (defArgs s_Session_undo) (defBody s_Session_undo) (defScope s_Session_undo) [] [("count", .int 1)] (A_Session_undo K) fd := t.sd.def_ 50 (d := d_Session_undo) rfl
theorem Tx.m_Session_undo (t : Tx K mg) : Meth K (ga K "Session") "undo" (A_Session_undo K) := meth_ok (t.sd.fact 34 (f := .meth "Session" "undo") rfl)
theorem Tx.D_Session_mark (t : Tx K mg) : ∃ fd, FunD K "mark" "Session.mark" (defArgs s_Session_mark) (defBody s_Session_mark) (defScope s_Session_mark) [] [] (A_Session_mark K) fd := t.sd.def_ 51 (d := d_Session_mark) rfl
theorem Tx.m_Session_mark (t : Tx K mg) : Meth K (ga K "Session") "mark" (A_Session_mark K) := meth_ok (t.sd.fact 35 (f := .meth "Session" "mark") rfl)
theorem Tx.D_Session_place_of (t : Tx K mg) : ∃ fd, FunD K "place_of" "Session.place_of" (defArgs s_Session_place_of) (defBody s_Session_place_of) (defScope s_Session_place_of) [] [] (A_Session_place_of K) fd := t.sd.def_ 52 (d := d_Session_place_of) rfl
theorem Tx.m_Session_place_of (t : Tx K mg) : Meth K (ga K "Session") "place_of" (A_Session_place_of K) := meth_ok (t.sd.fact 36 (f := .meth "Session" "place_of") rfl)
theorem Tx.D_Session_since (t : Tx K mg) : ∃ fd, FunD K "since" "Session.since" (defArgs s_Session_since) (defBody s_Session_since) (defScope s_Session_since) [] [] (A_Session_since K) fd := t.sd.def_ 53 (d := d_Session_since) rfl
theorem Tx.m_Session_since (t : Tx K mg) : Meth K (ga K "Session") "since" (A_Session_since K) := meth_ok (t.sd.fact 37 (f := .meth "Session" "since") rfl)
theorem Tx.D_Session_rewind (t : Tx K mg) : ∃ fd, FunD K "rewind" "Session.rewind" (defArgs s_Session_rewind) (defBody s_Session_rewind) (defScope s_Session_rewind) [] [] (A_Session_rewind K) fd := t.sd.def_ 54 (d := d_Session_rewind) rfl
theorem Tx.m_Session_rewind (t : Tx K mg) : Meth K (ga K "Session") "rewind" (A_Session_rewind K) := meth_ok (t.sd.fact 38 (f := .meth "Session" "rewind") rfl)
theorem Tx.D_Session_total (t : Tx K mg) : ∃ fd, FunD K "total" "Session.total" (defArgs s_Session_total) (defBody s_Session_total) (defScope s_Session_total) [] [] (A_Session_total K) fd := t.sd.def_ 55 (d := d_Session_total) rfl
theorem Tx.m_Session_total (t : Tx K mg) : Meth K (ga K "Session") "total" (A_Session_total K) := meth_ok (t.sd.fact 39 (f := .meth "Session" "total") rfl)
theorem Tx.D_Session_fresh (t : Tx K mg) : ∃ fd, FunD K "fresh" "Session.fresh" (defArgs s_Session_fresh) (defBody s_Session_fresh) (defScope s_Session_fresh) [] [] (A_Session_fresh K) fd := t.sd.def_ 56 (d := d_Session_fresh) rfl
theorem Tx.m_Session_fresh (t : Tx K mg) : Meth K (ga K "Session") "fresh" (A_Session_fresh K) := meth_ok (t.sd.fact 40 (f := .meth "Session" "fresh") rfl)
theorem Tx.D_Session_clone (t : Tx K mg) : ∃ fd, FunD K "clone" "Session.clone" (defArgs s_Session_clone) (defBody s_Session_clone) (defScope s_Session_clone) [] [] (A_Session_clone K) fd := t.sd.def_ 57 (d := d_Session_clone) rfl
theorem Tx.m_Session_clone (t : Tx K mg) : Meth K (ga K "Session") "clone" (A_Session_clone K) := meth_ok (t.sd.fact 41 (f := .meth "Session" "clone") rfl)
theorem Tx.D_Session_eq (t : Tx K mg) : ∃ fd, FunD K "__eq__" "Session.__eq__" (defArgs s_Session_eq) (defBody s_Session_eq) (defScope s_Session_eq) [] [] (A_Session_eq K) fd := t.sd.def_ 58 (d := d_Session_eq) rfl
theorem Tx.D_Session_len (t : Tx K mg) : ∃ fd, FunD K "__len__" "Session.__len__" (defArgs s_Session_len) (defBody s_Session_len) (defScope s_Session_len) [] [] (A_Session_len K) fd := t.sd.def_ 59 (d := d_Session_len) rfl
theorem Tx.D_word_text (t : Tx K mg) : ∃ fd, FunD K "word_text" "word_text" (defArgs s_word_text) (defBody s_word_text) (defScope s_word_text) [] [] (A_word_text K) fd := t.sd.def_ 60 (d := d_word_text) rfl
theorem Tx.g_word_text (t : Tx K mg) : mg "word_text" = some (.ref (A_word_text K)) := t.glo (t.sd.fact 42 (f := .glo "word_text") rfl)
theorem Tx.D_list_text (t : Tx K mg) : ∃ fd, FunD K "list_text" "list_text" (defArgs s_list_text) (defBody s_list_text) (defScope s_list_text) [] [] (A_list_text K) fd := t.sd.def_ 61 (d := d_list_text) rfl
theorem Tx.g_list_text (t : Tx K mg) : mg "list_text" = some (.ref (A_list_text K)) := t.glo (t.sd.fact 43 (f := .glo "list_text") rfl)
theorem Tx.D_format_look_effect (t : Tx K mg) : ∃ fd, FunD K "format_look_effect" "format_look_effect" (defArgs s_format_look_effect) (defBody s_format_look_effect) (defScope s_format_look_effect) [] [] (A_format_look_effect K) fd := t.sd.def_ 62 (d := d_format_look_effect) rfl
theorem Tx.g_format_look_effect (t : Tx K mg) : mg "format_look_effect" = some (.ref (A_format_look_effect K)) := t.glo (t.sd.fact 44 (f := .glo "format_look_effect") rfl)
theorem Tx.D_word_in (t : Tx K mg) : ∃ fd, FunD K "word_in" "word_in" (defArgs s_word_in) (defBody s_word_in) (defScope s_word_in) [] [] (A_word_in K) fd := t.sd.def_ 63 (d := d_word_in) rfl
theorem Tx.g_word_in (t : Tx K mg) : mg "word_in" = some (.ref (A_word_in K)) := t.glo (t.sd.fact 45 (f := .glo "word_in") rfl)
theorem Tx.D_Console_init (t : Tx K mg) : ∃ fd, FunD K "__init__" "Console.__init__" (defArgs s_Console_init) (defBody s_Console_init) (defScope s_Console_init) [] [] (A_Console_init K) fd := t.sd.def_ 64 (d := d_Console_init) rfl
theorem Tx.D_Console_execute (t : Tx K mg) : ∃ fd, FunD K "execute" "Console.execute" (defArgs s_Console_execute) (defBody s_Console_execute) (defScope s_Console_execute) [] [] (A_Console_execute K) fd := t.sd.def_ 65 (d := d_Console_execute) rfl
theorem Tx.m_Console_execute (t : Tx K mg) : Meth K (ga K "Console") "execute" (A_Console_execute K) := meth_ok (t.sd.fact 46 (f := .meth "Console" "execute") rfl)
theorem Tx.D_Console_answer_query (t : Tx K mg) : ∃ fd, FunD K "answer_query" "Console.answer_query" (defArgs s_Console_answer_query) (defBody s_Console_answer_query) (defScope s_Console_answer_query) [] [] (A_Console_answer_query K) fd := t.sd.def_ 66 (d := d_Console_answer_query) rfl
theorem Tx.m_Console_answer_query (t : Tx K mg) : Meth K (ga K "Console") "answer_query" (A_Console_answer_query K) := meth_ok (t.sd.fact 47 (f := .meth "Console" "answer_query") rfl)
theorem Tx.D_Console_answer_undo (t : Tx K mg) : ∃ fd, FunD K "answer_undo" "Console.answer_undo" (defArgs s_Console_answer_undo) (defBody s_Console_answer_undo) (defScope s_Console_answer_undo) [] [] (A_Console_answer_undo K) fd := t.sd.def_ 67 (d := d_Console_answer_undo) rfl
theorem Tx.m_Console_answer_undo (t : Tx K mg) : Meth K (ga K "Console") "answer_undo" (A_Console_answer_undo K) := meth_ok (t.sd.fact 48 (f := .meth "Console" "answer_undo") rfl)
theorem Tx.D_Console_answer_mark (t : Tx K mg) : ∃ fd, FunD K "answer_mark" "Console.answer_mark" (defArgs s_Console_answer_mark) (defBody s_Console_answer_mark) (defScope s_Console_answer_mark) [] [] (A_Console_answer_mark K) fd := t.sd.def_ 68 (d := d_Console_answer_mark) rfl
theorem Tx.m_Console_answer_mark (t : Tx K mg) : Meth K (ga K "Console") "answer_mark" (A_Console_answer_mark K) := meth_ok (t.sd.fact 49 (f := .meth "Console" "answer_mark") rfl)
theorem Tx.D_Console_answer_try (t : Tx K mg) : ∃ fd, FunD K "answer_try" "Console.answer_try" (defArgs s_Console_answer_try) (defBody s_Console_answer_try) (defScope s_Console_answer_try) [] [] (A_Console_answer_try K) fd := t.sd.def_ 69 (d := d_Console_answer_try) rfl
theorem Tx.m_Console_answer_try (t : Tx K mg) : Meth K (ga K "Console") "answer_try" (A_Console_answer_try K) := meth_ok (t.sd.fact 50 (f := .meth "Console" "answer_try") rfl)
theorem Tx.D_Console_len (t : Tx K mg) : ∃ fd, FunD K "__len__" "Console.__len__" (defArgs s_Console_len) (defBody s_Console_len) (defScope s_Console_len) [] [] (A_Console_len K) fd := t.sd.def_ 70 (d := d_Console_len) rfl
theorem Tx.D_law_hand (t : Tx K mg) : ∃ fd, FunD K "_law_hand" "_law_hand" (defArgs s_law_hand) (defBody s_law_hand) (defScope s_law_hand) [] [] (A_law_hand K) fd := t.sd.def_ 71 (d := d_law_hand) rfl
theorem Tx.g_law_hand (t : Tx K mg) : mg "_law_hand" = some (.ref (A_law_hand K)) := t.glo (t.sd.fact 51 (f := .glo "_law_hand") rfl)
theorem Tx.D_law_draw (t : Tx K mg) : ∃ fd, FunD K "_law_draw" "_law_draw" (defArgs s_law_draw) (defBody s_law_draw) (defScope s_law_draw) [] [] (A_law_draw K) fd := t.sd.def_ 72 (d := d_law_draw) rfl
theorem Tx.g_law_draw (t : Tx K mg) : mg "_law_draw" = some (.ref (A_law_draw K)) := t.glo (t.sd.fact 52 (f := .glo "_law_draw") rfl)
theorem Tx.D_law_word (t : Tx K mg) : ∃ fd, FunD K "_law_word" "_law_word" (defArgs s_law_word) (defBody s_law_word) (defScope s_law_word) [] [] (A_law_word K) fd := t.sd.def_ 73 (d := d_law_word) rfl
theorem Tx.g_law_word (t : Tx K mg) : mg "_law_word" = some (.ref (A_law_word K)) := t.glo (t.sd.fact 53 (f := .glo "_law_word") rfl)
theorem Tx.D_law_any_step (t : Tx K mg) : ∃ fd, FunD K "_law_any_step" "_law_any_step" (defArgs s_law_any_step) (defBody s_law_any_step) (defScope s_law_any_step) [] [] (A_law_any_step K) fd := t.sd.def_ 74 (d := d_law_any_step) rfl
theorem Tx.g_law_any_step (t : Tx K mg) : mg "_law_any_step" = some (.ref (A_law_any_step K)) := t.glo (t.sd.fact 54 (f := .glo "_law_any_step") rfl)
theorem Tx.D_law_any_steps (t : Tx K mg) : ∃ fd, FunD K "_law_any_steps" "_law_any_steps" (defArgs s_law_any_steps) (defBody s_law_any_steps) (defScope s_law_any_steps) [] [] (A_law_any_steps K) fd := t.sd.def_ 75 (d := d_law_any_steps) rfl
theorem Tx.g_law_any_steps (t : Tx K mg) : mg "_law_any_steps" = some (.ref (A_law_any_steps K)) := t.glo (t.sd.fact 55 (f := .glo "_law_any_steps") rfl)
theorem Tx.D_law_model (t : Tx K mg) : ∃ fd, FunD K "_law_model" "_law_model" (defArgs s_law_model) (defBody s_law_model) (defScope s_law_model) [] [] (A_law_model K) fd := t.sd.def_ 76 (d := d_law_model) rfl
theorem Tx.g_law_model (t : Tx K mg) : mg "_law_model" = some (.ref (A_law_model K)) := t.glo (t.sd.fact 56 (f := .glo "_law_model") rfl)
theorem Tx.D_law_next (t : Tx K mg) : ∃ fd, FunD K "_law_next" "_law_next" (defArgs s_law_next) (defBody s_law_next) (defScope s_law_next) [] [] (A_law_next K) fd := t.sd.def_ 77 (d := d_law_next) rfl
theorem Tx.g_law_next (t : Tx K mg) : mg "_law_next" = some (.ref (A_law_next K)) := t.glo (t.sd.fact 57 (f := .glo "_law_next") rfl)
theorem Tx.D_law_runs (t : Tx K mg) : ∃ fd, FunD K "_law_runs" "_law_runs" (defArgs s_law_runs) (defBody s_law_runs) (defScope s_law_runs) [] [] (A_law_runs K) fd := t.sd.def_ 78 (d := d_law_runs) rfl
theorem Tx.g_law_runs (t : Tx K mg) : mg "_law_runs" = some (.ref (A_law_runs K)) := t.glo (t.sd.fact 58 (f := .glo "_law_runs") rfl)
theorem Tx.D_law_add (t : Tx K mg) : ∃ fd, FunD K "_law_add" "_law_add" (defArgs s_law_add) (defBody s_law_add) (defScope s_law_add) [] [] (A_law_add K) fd := t.sd.def_ 79 (d := d_law_add) rfl
theorem Tx.g_law_add (t : Tx K mg) : mg "_law_add" = some (.ref (A_law_add K)) := t.glo (t.sd.fact 59 (f := .glo "_law_add") rfl)
theorem Tx.D_law_cut (t : Tx K mg) : ∃ fd, FunD K "_law_cut" "_law_cut" (defArgs s_law_cut) (defBody s_law_cut) (defScope s_law_cut) [] [] (A_law_cut K) fd := t.sd.def_ 80 (d := d_law_cut) rfl
theorem Tx.g_law_cut (t : Tx K mg) : mg "_law_cut" = some (.ref (A_law_cut K)) := t.glo (t.sd.fact 60 (f := .glo "_law_cut") rfl)
theorem Tx.D_law_shows (t : Tx K mg) : ∃ fd, FunD K "_law_shows" "_law_shows" (defArgs s_law_shows) (defBody s_law_shows) (defScope s_law_shows) [] [] (A_law_shows K) fd := t.sd.def_ 81 (d := d_law_shows) rfl
theorem Tx.g_law_shows (t : Tx K mg) : mg "_law_shows" = some (.ref (A_law_shows K)) := t.glo (t.sd.fact 61 (f := .glo "_law_shows") rfl)
theorem Tx.D_law_did (t : Tx K mg) : ∃ fd, FunD K "_law_did" "_law_did" (defArgs s_law_did) (defBody s_law_did) (defScope s_law_did) [] [] (A_law_did K) fd := t.sd.def_ 82 (d := d_law_did) rfl
theorem Tx.g_law_did (t : Tx K mg) : mg "_law_did" = some (.ref (A_law_did K)) := t.glo (t.sd.fact 62 (f := .glo "_law_did") rfl)
theorem Tx.D_law_turn (t : Tx K mg) : ∃ fd, FunD K "_law_turn" "_law_turn" (defArgs s_law_turn) (defBody s_law_turn) (defScope s_law_turn) [] [] (A_law_turn K) fd := t.sd.def_ 83 (d := d_law_turn) rfl
theorem Tx.g_law_turn (t : Tx K mg) : mg "_law_turn" = some (.ref (A_law_turn K)) := t.glo (t.sd.fact 63 (f := .glo "_law_turn") rfl)
theorem Tx.D_law_move (t : Tx K mg) : ∃ fd, FunD K "_law_move" "_law_move" (defArgs s_law_move) (defBody s_law_move) (defScope s_law_move) [] [] (A_law_move K) fd := t.sd.def_ 84 (d := d_law_move) rfl
theorem Tx.g_law_move (t : Tx K mg) : mg "_law_move" = some (.ref (A_law_move K)) := t.glo (t.sd.fact 64 (f := .glo "_law_move") rfl)
theorem Tx.D_law_right (t : Tx K mg) : ∃ fd, FunD K "_law_right" "_law_right" (defArgs s_law_right) (defBody s_law_right) (defScope s_law_right) [] [] (A_law_right K) fd := t.sd.def_ 85 (d := d_law_right) rfl
theorem Tx.g_law_right (t : Tx K mg) : mg "_law_right" = some (.ref (A_law_right K)) := t.glo (t.sd.fact 65 (f := .glo "_law_right") rfl)
theorem Tx.D_law_limited (t : Tx K mg) : ∃ fd, FunD K "_law_limited" "_law_limited" (defArgs s_law_limited) (defBody s_law_limited) (defScope s_law_limited) [] [] (A_law_limited K) fd := t.sd.def_ 86 (d := d_law_limited) rfl
theorem Tx.g_law_limited (t : Tx K mg) : mg "_law_limited" = some (.ref (A_law_limited K)) := t.glo (t.sd.fact 66 (f := .glo "_law_limited") rfl)
theorem Tx.D_law_many_steps (t : Tx K mg) : ∃ fd, FunD K "_law_many_steps" "_law_many_steps" (defArgs s_law_many_steps) (defBody s_law_many_steps) (defScope s_law_many_steps) [] [] (A_law_many_steps K) fd := t.sd.def_ 87 (d := d_law_many_steps) rfl
theorem Tx.g_law_many_steps (t : Tx K mg) : mg "_law_many_steps" = some (.ref (A_law_many_steps K)) := t.glo (t.sd.fact 67 (f := .glo "_law_many_steps") rfl)
theorem Tx.D_law_many_takes (t : Tx K mg) : ∃ fd, FunD K "_law_many_takes" "_law_many_takes" (defArgs s_law_many_takes) (defBody s_law_many_takes) (defScope s_law_many_takes) [] [] (A_law_many_takes K) fd := t.sd.def_ 88 (d := d_law_many_takes) rfl
theorem Tx.g_law_many_takes (t : Tx K mg) : mg "_law_many_takes" = some (.ref (A_law_many_takes K)) := t.glo (t.sd.fact 68 (f := .glo "_law_many_takes") rfl)
theorem Tx.D_law (t : Tx K mg) : ∃ fd, FunD K "law" "law" (defArgs s_law) (defBody s_law) (defScope s_law) [] [] (A_law K) fd := t.sd.def_ 89 (d := d_law) rfl
theorem Tx.g_law (t : Tx K mg) : mg "law" = some (.ref (A_law K)) := t.glo (t.sd.fact 69 (f := .glo "law") rfl)
theorem Tx.g_LookEffect (t : Tx K mg) : mg "LookEffect" = some (.ref (ga K "LookEffect")) := t.glo (t.sd.fact 70 (f := .glo "LookEffect") rfl)
theorem Tx.c_LookEffect (t : Tx K mg) : Cls K (ga K "LookEffect") := cls_ok (t.sd.fact 71 (f := .cls "LookEffect") rfl)
theorem Tx.k_LookEffect (t : Tx K mg) : Mk K (ga K "LookEffect") (A_LookEffect_init K) := mkr_ok (t.sd.fact 72 (f := .mkr "LookEffect") rfl)
theorem Tx.n_LookEffect_own_prefix (t : Tx K mg) : NoAttr K (ga K "LookEffect") "own_prefix" := noat_ok (t.sd.fact 73 (f := .noat "LookEffect" "own_prefix") rfl)
theorem Tx.n_LookEffect_own_taken (t : Tx K mg) : NoAttr K (ga K "LookEffect") "own_taken" := noat_ok (t.sd.fact 74 (f := .noat "LookEffect" "own_taken") rfl)
theorem Tx.n_LookEffect_own_puts (t : Tx K mg) : NoAttr K (ga K "LookEffect") "own_puts" := noat_ok (t.sd.fact 75 (f := .noat "LookEffect" "own_puts") rfl)
theorem Tx.n_LookEffect_own_core (t : Tx K mg) : NoAttr K (ga K "LookEffect") "own_core" := noat_ok (t.sd.fact 76 (f := .noat "LookEffect" "own_core") rfl)
theorem Tx.g_Collector (t : Tx K mg) : mg "Collector" = some (.ref (ga K "Collector")) := t.glo (t.sd.fact 77 (f := .glo "Collector") rfl)
theorem Tx.c_Collector (t : Tx K mg) : Cls K (ga K "Collector") := cls_ok (t.sd.fact 78 (f := .cls "Collector") rfl)
theorem Tx.k_Collector (t : Tx K mg) : Mk K (ga K "Collector") (A_Collector_init K) := mkr_ok (t.sd.fact 79 (f := .mkr "Collector") rfl)
theorem Tx.n_Collector_own_prefix (t : Tx K mg) : NoAttr K (ga K "Collector") "own_prefix" := noat_ok (t.sd.fact 80 (f := .noat "Collector" "own_prefix") rfl)
theorem Tx.n_Collector_own_puts (t : Tx K mg) : NoAttr K (ga K "Collector") "own_puts" := noat_ok (t.sd.fact 81 (f := .noat "Collector" "own_puts") rfl)
theorem Tx.n_Collector_own_taken (t : Tx K mg) : NoAttr K (ga K "Collector") "own_taken" := noat_ok (t.sd.fact 82 (f := .noat "Collector" "own_taken") rfl)
theorem Tx.n_Collector_own_need (t : Tx K mg) : NoAttr K (ga K "Collector") "own_need" := noat_ok (t.sd.fact 83 (f := .noat "Collector" "own_need") rfl)
theorem Tx.g_Kept (t : Tx K mg) : mg "Kept" = some (.ref (ga K "Kept")) := t.glo (t.sd.fact 84 (f := .glo "Kept") rfl)
theorem Tx.c_Kept (t : Tx K mg) : Cls K (ga K "Kept") := cls_ok (t.sd.fact 85 (f := .cls "Kept") rfl)
theorem Tx.k_Kept (t : Tx K mg) : Mk K (ga K "Kept") (A_Kept_init K) := mkr_ok (t.sd.fact 86 (f := .mkr "Kept") rfl)
theorem Tx.n_Kept_held (t : Tx K mg) : NoAttr K (ga K "Kept") "held" := noat_ok (t.sd.fact 87 (f := .noat "Kept" "held") rfl)
theorem Tx.n_Kept_queues (t : Tx K mg) : NoAttr K (ga K "Kept") "queues" := noat_ok (t.sd.fact 88 (f := .noat "Kept" "queues") rfl)
theorem Tx.n_Kept_steps (t : Tx K mg) : NoAttr K (ga K "Kept") "steps" := noat_ok (t.sd.fact 89 (f := .noat "Kept" "steps") rfl)
theorem Tx.g_Session (t : Tx K mg) : mg "Session" = some (.ref (ga K "Session")) := t.glo (t.sd.fact 90 (f := .glo "Session") rfl)
theorem Tx.c_Session (t : Tx K mg) : Cls K (ga K "Session") := cls_ok (t.sd.fact 91 (f := .cls "Session") rfl)
theorem Tx.k_Session (t : Tx K mg) : Mk K (ga K "Session") (A_Session_init K) := mkr_ok (t.sd.fact 92 (f := .mkr "Session") rfl)
theorem Tx.n_Session_own_queues (t : Tx K mg) : NoAttr K (ga K "Session") "own_queues" := noat_ok (t.sd.fact 93 (f := .noat "Session" "own_queues") rfl)
theorem Tx.n_Session_own_log (t : Tx K mg) : NoAttr K (ga K "Session") "own_log" := noat_ok (t.sd.fact 94 (f := .noat "Session" "own_log") rfl)
theorem Tx.n_Session_own_marks (t : Tx K mg) : NoAttr K (ga K "Session") "own_marks" := noat_ok (t.sd.fact 95 (f := .noat "Session" "own_marks") rfl)
theorem Tx.n_Session_own_attempts (t : Tx K mg) : NoAttr K (ga K "Session") "own_attempts" := noat_ok (t.sd.fact 96 (f := .noat "Session" "own_attempts") rfl)
theorem Tx.g_Console (t : Tx K mg) : mg "Console" = some (.ref (ga K "Console")) := t.glo (t.sd.fact 97 (f := .glo "Console") rfl)
theorem Tx.c_Console (t : Tx K mg) : Cls K (ga K "Console") := cls_ok (t.sd.fact 98 (f := .cls "Console") rfl)
theorem Tx.k_Console (t : Tx K mg) : Mk K (ga K "Console") (A_Console_init K) := mkr_ok (t.sd.fact 99 (f := .mkr "Console") rfl)
theorem Tx.n_Console_own_session (t : Tx K mg) : NoAttr K (ga K "Console") "own_session" := noat_ok (t.sd.fact 100 (f := .noat "Console" "own_session") rfl)
theorem Tx.n_Console_own_commands (t : Tx K mg) : NoAttr K (ga K "Console") "own_commands" := noat_ok (t.sd.fact 101 (f := .noat "Console" "own_commands") rfl)
theorem Tx.g_StepFailed (t : Tx K mg) : mg "StepFailed" = some (.ref (ga K "StepFailed")) := t.glo (t.sd.fact 102 (f := .glo "StepFailed") rfl)
theorem Tx.e_StepFailed_StepFailed (t : Tx K mg) : PySem.W.exmOne K (.ref (ga K "StepFailed")) (.ref (ga K "StepFailed")) = some true := exm_ok (t.sd.fact 103 (f := .exm "StepFailed" "StepFailed" true) rfl)
theorem Tx.e_StepFailed_LimitExceeded (t : Tx K mg) : PySem.W.exmOne K (.ref (ga K "StepFailed")) (.ref (ga K "LimitExceeded")) = some false := exm_ok (t.sd.fact 104 (f := .exm "StepFailed" "LimitExceeded" false) rfl)
theorem Tx.e_StepFailed_InvalidSequence (t : Tx K mg) : PySem.W.exmOne K (.ref (ga K "StepFailed")) (.ref (ga K "InvalidSequence")) = some false := exm_ok (t.sd.fact 105 (f := .exm "StepFailed" "InvalidSequence" false) rfl)
theorem Tx.g_LimitExceeded (t : Tx K mg) : mg "LimitExceeded" = some (.ref (ga K "LimitExceeded")) := t.glo (t.sd.fact 106 (f := .glo "LimitExceeded") rfl)
theorem Tx.e_LimitExceeded_StepFailed (t : Tx K mg) : PySem.W.exmOne K (.ref (ga K "LimitExceeded")) (.ref (ga K "StepFailed")) = some false := exm_ok (t.sd.fact 107 (f := .exm "LimitExceeded" "StepFailed" false) rfl)
theorem Tx.e_LimitExceeded_LimitExceeded (t : Tx K mg) : PySem.W.exmOne K (.ref (ga K "LimitExceeded")) (.ref (ga K "LimitExceeded")) = some true := exm_ok (t.sd.fact 108 (f := .exm "LimitExceeded" "LimitExceeded" true) rfl)
theorem Tx.e_LimitExceeded_InvalidSequence (t : Tx K mg) : PySem.W.exmOne K (.ref (ga K "LimitExceeded")) (.ref (ga K "InvalidSequence")) = some false := exm_ok (t.sd.fact 109 (f := .exm "LimitExceeded" "InvalidSequence" false) rfl)
theorem Tx.g_InvalidSequence (t : Tx K mg) : mg "InvalidSequence" = some (.ref (ga K "InvalidSequence")) := t.glo (t.sd.fact 110 (f := .glo "InvalidSequence") rfl)
theorem Tx.i_MAX_QUEUE (t : Tx K mg) : ∃ u, mg "MAX_QUEUE" = some (.int 2100 u) := t.int (t.sd.fact 111 (f := .int "MAX_QUEUE" 2100) rfl)
theorem Tx.i_MAX_STEPS (t : Tx K mg) : ∃ u, mg "MAX_STEPS" = some (.int 400 u) := t.int (t.sd.fact 112 (f := .int "MAX_STEPS" 400) rfl)
theorem Tx.i_MAX_ITEMS (t : Tx K mg) : ∃ u, mg "MAX_ITEMS" = some (.int 2000 u) := t.int (t.sd.fact 113 (f := .int "MAX_ITEMS" 2000) rfl)
theorem Tx.i_MAX_BATCH (t : Tx K mg) : ∃ u, mg "MAX_BATCH" = some (.int 50 u) := t.int (t.sd.fact 114 (f := .int "MAX_BATCH" 50) rfl)
theorem Tx.i_MAX_MARKS (t : Tx K mg) : ∃ u, mg "MAX_MARKS" = some (.int 16 u) := t.int (t.sd.fact 115 (f := .int "MAX_MARKS" 16) rfl)
theorem Tx.i_MAX_NAME (t : Tx K mg) : ∃ u, mg "MAX_NAME" = some (.int 8 u) := t.int (t.sd.fact 116 (f := .int "MAX_NAME" 8) rfl)
theorem Tx.s_ITEMS (t : Tx K mg) : ∃ u, mg "ITEMS" = some (.str "abcdefgh" u) := t.str (t.sd.fact 117 (f := .str "ITEMS" "abcdefgh") rfl)
theorem Tx.s_LETTERS (t : Tx K mg) : ∃ u, mg "LETTERS" = some (.str "abcdefghijklmnopqrstuvwxyz" u) := t.str (t.sd.fact 118 (f := .str "LETTERS" "abcdefghijklmnopqrstuvwxyz") rfl)
theorem Tx.s_EMPTY (t : Tx K mg) : ∃ u, mg "EMPTY" = some (.str "." u) := t.str (t.sd.fact 119 (f := .str "EMPTY" ".") rfl)
theorem Tx.f_len (t : Tx K mg) : mg "len" = none := t.free (t.sd.fact 120 (f := .free "len") rfl)
theorem Tx.f_isinstance (t : Tx K mg) : mg "isinstance" = none := t.free (t.sd.fact 121 (f := .free "isinstance") rfl)
theorem Tx.f_all (t : Tx K mg) : mg "all" = none := t.free (t.sd.fact 122 (f := .free "all") rfl)
theorem Tx.f_max (t : Tx K mg) : mg "max" = none := t.free (t.sd.fact 123 (f := .free "max") rfl)
theorem Tx.f_min (t : Tx K mg) : mg "min" = none := t.free (t.sd.fact 124 (f := .free "min") rfl)
theorem Tx.f_int (t : Tx K mg) : mg "int" = none := t.free (t.sd.fact 125 (f := .free "int") rfl)
theorem Tx.f_str (t : Tx K mg) : mg "str" = none := t.free (t.sd.fact 126 (f := .free "str") rfl)
theorem Tx.f_list (t : Tx K mg) : mg "list" = none := t.free (t.sd.fact 127 (f := .free "list") rfl)
theorem Tx.f_dict (t : Tx K mg) : mg "dict" = none := t.free (t.sd.fact 128 (f := .free "dict") rfl)
theorem Tx.f_range (t : Tx K mg) : mg "range" = none := t.free (t.sd.fact 129 (f := .free "range") rfl)
theorem Tx.f_enumerate (t : Tx K mg) : mg "enumerate" = none := t.free (t.sd.fact 130 (f := .free "enumerate") rfl)
theorem Tx.f_sorted (t : Tx K mg) : mg "sorted" = none := t.free (t.sd.fact 131 (f := .free "sorted") rfl)
theorem Tx.f_bool (t : Tx K mg) : mg "bool" = none := t.free (t.sd.fact 132 (f := .free "bool") rfl)
theorem Tx.p_LookEffect_prefix (t : Tx K mg) : PropOf K (ga K "LookEffect") "prefix" (ma K (ga K "LookEffect") "prefix") (A_LookEffect_prefix K) := propB_ok (t.exi 0 (e := fun K => propB K "LookEffect" "prefix") rfl)
theorem Tx.p_LookEffect_taken (t : Tx K mg) : PropOf K (ga K "LookEffect") "taken" (ma K (ga K "LookEffect") "taken") (A_LookEffect_taken K) := propB_ok (t.exi 1 (e := fun K => propB K "LookEffect" "taken") rfl)
theorem Tx.p_LookEffect_puts (t : Tx K mg) : PropOf K (ga K "LookEffect") "puts" (ma K (ga K "LookEffect") "puts") (A_LookEffect_puts K) := propB_ok (t.exi 2 (e := fun K => propB K "LookEffect" "puts") rfl)
theorem Tx.p_LookEffect_core (t : Tx K mg) : PropOf K (ga K "LookEffect") "core" (ma K (ga K "LookEffect") "core") (A_LookEffect_core K) := propB_ok (t.exi 3 (e := fun K => propB K "LookEffect" "core") rfl)
theorem Tx.p_Session_queue (t : Tx K mg) : PropOf K (ga K "Session") "queue" (ma K (ga K "Session") "queue") (A_Session_queue K) := propB_ok (t.exi 4 (e := fun K => propB K "Session" "queue") rfl)
theorem Tx.p_Session_capacity (t : Tx K mg) : PropOf K (ga K "Session") "capacity" (ma K (ga K "Session") "capacity") (A_Session_capacity K) := propB_ok (t.exi 5 (e := fun K => propB K "Session" "capacity") rfl)
theorem Tx.cm_replayed (t : Tx K mg) : ClX.CRead K (ga K "Session") (.type "type") ∧ ClX.CMet K (ga K "Session") (.type "type") "replayed" (ma K (ga K "Session") "replayed") (A_Session_replayed K) := cmB_ok (t.exi 6 (e := fun K => cmB K "Session" "replayed") rfl)
theorem Tx.is_LookEffect (t : Tx K mg) : InsC K (ga K "LookEffect") := insB_ok (t.exi 7 (e := fun K => insB K "LookEffect") rfl)
theorem Tx.eq_LookEffect (t : Tx K mg) : NeK K (ga K "LookEffect") (A_LookEffect_eq K) := neKB_ok (t.exi 8 (e := fun K => neKB K (ga K "LookEffect") (A_LookEffect_eq K)) rfl)
theorem Tx.is_Session (t : Tx K mg) : InsC K (ga K "Session") := insB_ok (t.exi 9 (e := fun K => insB K "Session") rfl)
theorem Tx.eq_Session (t : Tx K mg) : NeK K (ga K "Session") (A_Session_eq K) := neKB_ok (t.exi 10 (e := fun K => neKB K (ga K "Session") (A_Session_eq K)) rfl)
theorem Tx.len_Session (t : Tx K mg) : LenB K (ga K "Session") (A_Session_len K) := lenB_ok (t.exi 11 (e := fun K => lenB K "Session") rfl)
theorem Tx.len_Console (t : Tx K mg) : LenB K (ga K "Console") (A_Console_len K) := lenB_ok (t.exi 12 (e := fun K => lenB K "Console") rfl)
theorem Tx.with_Kept (t : Tx K mg) : WithC K (ga K "Kept") (A_Kept_enter K) (A_Kept_exit K) := withCB_ok (t.exi 13 (e := fun K => withCB K (ga K "Kept") (A_Kept_enter K) (A_Kept_exit K)) rfl)
theorem Tx.x_StepFailed (t : Tx K mg) : PySem.QeX.XcT K (ga K "StepFailed") (A_StepFailed_init K) bm_StepFailed "RuntimeError.__new__" "position" := PySem.QeX.xcB_ok (t.exi 14 (e := fun K => PySem.QeX.xcB K (ga K "StepFailed") (A_StepFailed_init K) bm_StepFailed "RuntimeError.__new__" "position") rfl)
theorem Tx.ini_StepFailed (t : Tx K mg) : PySem.QeX.Ini_StepFailed K (A_StepFailed_init K) := by
  obtain ⟨fd, F⟩ := t.D_StepFailed_init
  obtain ⟨oc, od, dV, kV, doc, pm, an, cdv, ct, osl, rfl, lk, hcd, hD, _⟩ := F.ex
  rcases hD with ⟨_,
        rfl⟩ | ⟨e, _⟩
  · exact ⟨oc, od, kV, doc, pm, an, cdv, ct, osl, _, _, _, _, _, _, lk, hcd⟩
  · exact absurd rfl e
theorem Tx.x_LimitExceeded (t : Tx K mg) : PySem.QeX.XcT K (ga K "LimitExceeded") (A_LimitExceeded_init K) bm_LimitExceeded "OverflowError.__new__" "limit" := PySem.QeX.xcB_ok (t.exi 15 (e := fun K => PySem.QeX.xcB K (ga K "LimitExceeded") (A_LimitExceeded_init K) bm_LimitExceeded "OverflowError.__new__" "limit") rfl)
theorem Tx.ini_LimitExceeded (t : Tx K mg) : PySem.QeX.Ini_LimitExceeded K (A_LimitExceeded_init K) := by
  obtain ⟨fd, F⟩ := t.D_LimitExceeded_init
  obtain ⟨oc, od, dV, kV, doc, pm, an, cdv, ct, osl, rfl, lk, hcd, hD, _⟩ := F.ex
  rcases hD with ⟨_,
        rfl⟩ | ⟨e, _⟩
  · exact ⟨oc, od, kV, doc, pm, an, cdv, ct, osl, _, _, _, _, _, _, lk, hcd⟩
  · exact absurd rfl e
theorem Tx.tabs_ne (t : Tx K mg) : (cT K ("_law_many_steps", none)).2 ≠ (cT K ("_law_many_takes", none)).2 := of_decide_eq_true (t.exi 16 (e := fun K => decide ((cT K ("_law_many_steps", none)).2 ≠ (cT K ("_law_many_takes", none)).2)) rfl)
end
end Qe

namespace QeHead
open Qe
open PySem PySem.W
open PySem.Calls PyProof.Rows
abbrev R : OpenRow := OpenLaw.row PySem.Challenge.rw_queueeffect_k93_whole_sessions_and_their
abbrev qv : Program := view R.prog [81]
def n0 : List PySem.Str := ["_wall", "InvalidQueue", "InvalidSequence", "StepFailed", "InvalidEffect", "Rejected", "InvalidNumber", "LimitExceeded", "NothingToUndo", "UnknownMark", "InvalidSession", "InvalidCommand", "ITEMS", "MAX_QUEUE", "MAX_STEPS", "is_integer", "in_range", "is_word", "is_queue", "check_queue"]
def n1 : List PySem.Str := ["is_step", "MAX_ITEMS", "is_suitable", "least_suitable", "is_look", "first_unlooking", "check_looking", "after_look", "execute_looking", "run_looking", "LookEffect", "look_parts", "check_look", "Collector", "conflict", "collected", "look_effect_of", "compose_looks", "MAX_NAME", "LETTERS"]
def n2 : List PySem.Str := ["is_name", "MAX_BATCH", "MAX_MARKS", "Kept", "Session", "EMPTY", "DIGITS", "MAX_DIGITS", "word_text", "list_text", "format_look_effect", "word_in", "integer_in", "Console", "_law_hand", "_law_draw", "_law_word", "_law_any_step", "_law_any_steps", "_law_model"]
def n3 : List PySem.Str := ["_law_next", "_law_runs", "_law_add", "_law_cut", "_law_shows", "_law_did", "_law_turn", "_law_move", "_law_right", "_law_limited", "_law_many_steps", "_law_many_takes"]
def names : List PySem.Str := (n0 ++ (n1 ++ (n2 ++ n3)))
abbrev hk : PySem.W.Hook := hookQ fa fn tf exQ
def ob (s : PySem.W.SharedT) : AlQ := obsQ fa fn tf exQ (HandSHeadRun.getT s)
theorem ob_eq (s : PySem.W.SharedT) : ob s = hk.obs s.abs := obsQ_eq (HandSHeadRun.getT_eq s)
theorem run (w : World) : HandSHeadRun.RunEq R qv hk ob 20000 names w := by
  intro os
  kernel_rfl
end QeHead

namespace Qe
open PySem PySem.Spec
open PyProof.Rows L2
/-! ### a def that keeps a promise -/
structure Fx (P : Program) (w : World) (K : PySem.W.Frag) (mg : Str → Option Value) (base : Heap) (CX : CXT) (k : Nat) (f : Addr) (sp : Sp) : Prop where
  ex : ∃ (fd : FuncData) (ps : List Str), FnOk P w K mg base CX k f fd ps sp ∧ PySem.W.keepIn K (.ref f) = true ∧ Binds K fd ps []
section
variable {P : Program} {w : World} {K : PySem.W.Frag}
      {mg : Str → Option Value} {base : Heap}
theorem fx_of {CX : CXT} {x qual : Str} {params : Arguments} {body : List Stmt} {scope : Scope} {dvs : List V} {kws : List (Str × V)} {f : Addr} {fd : FuncData} {N ps : List Str} {k : Nat} {sp : Sp} (F : FunD K x qual params body scope dvs kws f fd) (S : FnScope N ps scope) (b : Binds K fd ps [])
    (len : ∀ vs H Q E, sp vs H Q E →
          vs.length = ps.length)
    (hbody : ∀ (cdv : Value) (A : Around) (outer : List Env) (s : Shared) (H : Hp) (vs : List V) (Q : VK) (E : XK), Room k (A.deeper (envOfC qual scope s.heap.objs.size f cdv)) →
          sp vs H Q E →
      ∃ t, PSs (cxOf CX P w K mg base N qual scope f cdv A outer s H E) body t ∧ t { nx := fun _ H' => Q .non H', rt := Q } (start N vs) H) : Fx P w K mg base CX (k + 1) f sp :=
  ⟨fd, ps, F.ok S len hbody, F.kp, b⟩
end
def S0 (p : Hp → VK → XK → Prop) : Sp := fun vs H Q E => vs = [] ∧ p H Q E
def S1 (p : V → Hp → VK → XK → Prop) : Sp := fun vs H Q E => ∃ a, vs = [a] ∧ p a H Q E
def S2 (p : V → V → Hp → VK → XK → Prop) : Sp := fun vs H Q E => ∃ a b, vs = [a, b] ∧ p a b H Q E
def S3 (p : V → V → V → Hp → VK → XK → Prop) : Sp := fun vs H Q E => ∃ a b c, vs = [a, b, c] ∧ p a b c H Q E
def S4 (p : V → V → V → V → Hp → VK → XK → Prop) : Sp := fun vs H Q E => ∃ a b c d, vs = [a, b, c, d] ∧ p a b c d H Q E
def S5 (p : V → V → V → V → V → Hp → VK → XK → Prop) : Sp := fun vs H Q E => ∃ a b c d e, vs = [a, b, c, d, e] ∧ p a b c d e H Q E
theorem S0.len {p} {l : List Str} (hl : l.length = 0 := by rfl) : ∀ vs H Q E, S0 p vs H Q E → vs.length = l.length := fun _ _ _ _ ⟨e, _⟩ => by rw [e, hl]; rfl
theorem S1.len {p} {l : List Str} (hl : l.length = 1 := by rfl) : ∀ vs H Q E, S1 p vs H Q E → vs.length = l.length := fun _ _ _ _ ⟨_, e, _⟩ => by rw [e, hl]; rfl
theorem S2.len {p} {l : List Str} (hl : l.length = 2 := by rfl) : ∀ vs H Q E, S2 p vs H Q E → vs.length = l.length := fun _ _ _ _ ⟨_, _, e, _⟩ => by rw [e, hl]; rfl
theorem S3.len {p} {l : List Str} (hl : l.length = 3 := by rfl) : ∀ vs H Q E, S3 p vs H Q E → vs.length = l.length := fun _ _ _ _ ⟨_, _, _, e, _⟩ => by rw [e, hl]; rfl
theorem S4.len {p} {l : List Str} (hl : l.length = 4 := by rfl) : ∀ vs H Q E, S4 p vs H Q E → vs.length = l.length := fun _ _ _ _ ⟨_, _, _, _, e, _⟩ => by rw [e, hl]; rfl
theorem S5.len {p} {l : List Str} (hl : l.length = 5 := by rfl) : ∀ vs H Q E, S5 p vs H Q E → vs.length = l.length := fun _ _ _ _ ⟨_, _, _, _, _, e, _⟩ => by rw [e, hl]; rfl
/-! ### its calls -/
section
variable {X : Cx} {CX : CXT} {k j : Nat} {f C : Addr} {x m : Str} {sp : Sp} {p pos apos : Pos} {e o : Expr} {es : List Expr} {ta : TE} {t : TA} {E : XK}
theorem pcall (c : Fx X.prog X.w X.K X.mg X.base CX k f sp) (hm : X.mg x = some (.ref f)) (hr : Room j X.A) (hk : k ≤ j) (hg : Gl X x) (hx : Passes CX X E) (ha : PA X (e :: es) t)
    (hdb : (x == ("__debug__" : Str)) = false := by decide) (he : starEach (e :: es) X.env = (false, eval e X.env) :: starEach es X.env :=
          by rfl) (hpl : (backTo pos (starEach es X.env)).any (·.1) = false := by rfl) :
    PE X (.Call (.Name x p) (e :: es) [] pos) (tCall sp [] E t) := by
  obtain ⟨fd, ps, F, kp, b⟩ :=
        c.ex
  exact pe_call F (hr.mono hk) hg hm kp b .nil hx ha hdb he hpl
theorem pcall0 (c : Fx X.prog X.w X.K X.mg X.base CX k f sp) (hm : X.mg x = some (.ref f)) (hr : Room j X.A) (hk : k ≤ j) (hg : Gl X x) (hx : Passes CX X E)
    (hdb : (x == ("__debug__" : Str)) = false := by decide) :
    PE X (.Call (.Name x p) [] [] pos) (tCall sp [] E tNil) := by
  obtain ⟨fd, ps, F, kp, b⟩ :=
        c.ex
  exact pe_call0 F (hr.mono hk) hg hm kp b .nil hx hdb
theorem pmeth {pl : Sem Bool} (c : Fx X.prog X.w X.K X.mg X.base CX k f sp) (cl : Cls X.K C) (hm : Meth X.K C m f) (hr : Room j X.A) (hk : k ≤ j) (hx : Passes CX X E) (he : PE X o ta) (ha : PA X (e :: es) t)
    (hst : starEach (e :: es) X.env = (false, eval e X.env) :: starEach es X.env :=
          by rfl) (hpl : (backTo pos (starEach es X.env)).any (·.1) = false := by rfl)
    (ht : eval (.Call (.Attribute o m apos)
          (e :: es) [] pos) X.env = (do
      let ov ← eval o X.env
      standAt apos.atName
      let (f, first) ←
            holding [ov] (getMethod ov m pl)
      callWith pos f first (backTo pos (starEach (e :: es) X.env)) (backToKw pos (keywordEach [] X.env))) :=
            by rfl) :
    PE X (.Call (.Attribute o m apos) (e :: es) [] pos) (tMeth C m sp [] E ta t) := by
  obtain ⟨fd, ps, F, kp, b⟩ :=
        c.ex
  exact pe_meth (pl := pl) he cl hm F (hr.mono hk) b .nil hx ha hst hpl ht
theorem pmeth0 {pl : Sem Bool} (c : Fx X.prog X.w X.K X.mg X.base CX k f sp) (cl : Cls X.K C) (hm : Meth X.K C m f) (hr : Room j X.A) (hk : k ≤ j) (hx : Passes CX X E) (he : PE X o ta)
    (ht : eval (.Call (.Attribute o m apos)
          [] [] pos) X.env = (do
      let ov ← eval o X.env
      standAt apos.atName
      let (f, first) ←
            holding [ov] (getMethod ov m pl)
      callWith pos f first (backTo pos (starEach [] X.env)) (backToKw pos (keywordEach [] X.env))) :=
            by rfl) :
    PE X (.Call (.Attribute o m apos) [] [] pos) (tMeth C m sp [] E ta tNil) := by
  obtain ⟨fd, ps, F, kp, b⟩ :=
        c.ex
  exact pe_meth0 (pl := pl) he cl hm F (hr.mono hk) b .nil hx ht
theorem pmake (c : Fx X.prog X.w X.K X.mg X.base CX k f sp) (M : Mk X.K C f) (hm : X.mg x = some (.ref C)) (hr : Room j X.A) (hk : k + 1 ≤ j) (hg : Gl X x) (hx : Passes CX X E) (ha : PA X (e :: es) t)
    (hdb : (x == ("__debug__" : Str)) = false := by decide) (he : starEach (e :: es) X.env = (false, eval e X.env) :: starEach es X.env :=
          by rfl) (hpl : (backTo pos (starEach es X.env)).any (·.1) = false := by rfl) :
    PE X (.Call (.Name x p) (e :: es) [] pos) (tMake C sp [] E t) := by
  obtain ⟨fd, ps, F, kp, b⟩ :=
        c.ex
  exact pe_make M F (hr.mono hk) hg hm b .nil hx ha hdb he hpl
theorem pmake0 (c : Fx X.prog X.w X.K X.mg X.base CX k f sp) (M : Mk X.K C f) (hm : X.mg x = some (.ref C)) (hr : Room j X.A) (hk : k + 1 ≤ j) (hg : Gl X x) (hx : Passes CX X E)
    (hdb : (x == ("__debug__" : Str)) = false := by decide) :
    PE X (.Call (.Name x p) [] [] pos) (tMake C sp [] E tNil) := by
  obtain ⟨fd, ps, F, kp, b⟩ :=
        c.ex
  exact pe_make0 M F (hr.mono hk) hg hm b .nil hx hdb
theorem pprop {pr : Addr} (c : Fx X.prog X.w X.K X.mg X.base CX k f sp) (cl : Cls X.K C) (hp : PropOf X.K C m pr f) (hr : Room j X.A) (hk : k + 1 ≤ j) (hx : Passes CX X.nox E) (he : PE X e ta)
    (hab : attributeBase e m X.env (eval e X.env) = eval e X.env) : PE X (.Attribute e m pos) (tProp C sp [] E ta) := by
  obtain ⟨fd, ps, F, kp, b⟩ :=
        c.ex
  exact pe_prop he cl hp F (hr.mono hk) b .nil hx hab
theorem pe_never : PE X e (fun _ _ _ => False) := ⟨fun _ _ _ _ _ _ h => h.elim⟩
theorem p_eqO (c : Fx X.prog X.w X.K X.mg X.base CX k f sp) (N : NeK X.K C f) (hr : Room j X.A) (hk : k + 1 ≤ j) (hx : Passes CX X E) : OpR X (compareOp .Eq) (rOwn C sp E false) := by
  obtain ⟨fd, ps, F, kp, b⟩ :=
        c.ex
  exact op_eqO N F b (hr.mono (Nat.le_of_succ_le hk)) hx
theorem p_neO (c : Fx X.prog X.w X.K X.mg X.base CX k f sp) (N : NeK X.K C f) (hr : Room j X.A) (hk : k + 1 ≤ j) (hx : Passes CX X E) : OpR X (compareOp .NotEq) (rOwn C sp E true) := by
  obtain ⟨fd, ps, F, kp, b⟩ :=
        c.ex
  exact op_neO N F b (hr.mono hk) hx
theorem p_lenO (c : Fx X.prog X.w X.K X.mg X.base CX k f sp) (N : LenB X.K C f) (hr : Room j X.A) (hk : k + 1 ≤ j) (hx : Passes CX X E) : CallR X (.builtin "len") (rLenO C sp E) := by
  obtain ⟨fd, ps, F, kp, b⟩ :=
        c.ex
  exact call_lenO N.at_ N.fn F b (hr.mono hk) hx
theorem isI_int : CallR X (.builtin "isinstance") (fun xs H Q => ∃ i, xs = [.int i, .ty "int"] ∧ Q (.bl true) H) := fun pins s σ H xs us Q I r ⟨i, e, q⟩ =>
  call_isi pins s σ H xs us Q I r ⟨_, _, _, _, true, e, .ty _, .base (.int i), kit_ty (by decide +kernel), q⟩
theorem isI_bool : CallR X (.builtin "isinstance") (fun xs H Q => ∃ i, xs = [.int i, .ty "bool"] ∧ Q (.bl false) H) := fun pins s σ H xs us Q I r ⟨i, e, q⟩ =>
  call_isi pins s σ H xs us Q I r ⟨_, _, _, _, false, e, .ty _, .base (.int i), kit_ty (by decide +kernel), q⟩
theorem isS_str : CallR X (.builtin "isinstance") (fun xs H Q => ∃ z, xs = [.str z, .ty "str"] ∧ Q (.bl true) H) := fun pins s σ H xs us Q I r ⟨i, e, q⟩ =>
  call_isi pins s σ H xs us Q I r ⟨_, _, _, _, true, e, .ty _, .base (.str i), kit_ty (by decide +kernel), q⟩
theorem isL_list : CallR X (.builtin "isinstance") (fun xs H Q => ∃ a l, xs = [.ref a, .ty "list"] ∧ H a = some (.lst l) ∧ Q (.bl true) H) := fun pins s σ H xs us Q I r ⟨a, l, e, h, q⟩ =>
  call_isi pins s σ H xs us Q I r ⟨_, _, _, _, true, e, .ty _, .base (.lst h), kit_ty (by decide +kernel), q⟩
end
theorem gI {mg : Str → Option Value} {x : Str} {i : Int} (h : ∃ u, mg x = some (.int i u)) : ∃ u, mg x = some u ∧ RelV (.int i) u := by
  obtain ⟨t, h⟩ := h
  exact ⟨_, h, t, rfl⟩
theorem gS {mg : Str → Option Value} {x z : Str} (h : ∃ u, mg x = some (.str z u)) : ∃ u, mg x = some u ∧ RelV (.str z) u := by
  obtain ⟨t, h⟩ := h
  exact ⟨_, h, t, rfl⟩
theorem hu100 {k : Nat} {A : Around} (hr : Room (k + 1) A) : A.units + 100 < cLine := by have := hr.un; omega
/-! ### the heap in a proof -/
/-- a new thing, the heap with it by what is known of it -/
theorem new_ok {H : Hp} {o : HO} {Q : Addr → Hp → Prop} (h : ∀ p H1, H p = none → H1 p = some o → Same H H1 → Q p H1) : ∀ p, H p = none → Q p (upd H p o) := fun p hp => h p _ hp upd_same fun b u e => by rw [upd_ne (ne_of_none e hp)]; exact e
/-- all but these stands -/
def Kp (F : List Addr) (H H' : Hp) : Prop := ∀ b o, H b = some o → b ∉ F → H' b = some o
theorem Kp.same {F : List Addr} {H H' : Hp} (h : Same H H') : Kp F H H' := fun b o e _ => h b o e
theorem Kp.refl {F : List Addr} {H : Hp} : Kp F H H := fun _ _ e _ => e
theorem Kp.trans {F : List Addr} {H H1 H2 : Hp} (a : Kp F H H1) (b : Kp F H1 H2) : Kp F H H2 := fun c o e n => b c o (a c o e n) n
theorem Kp.mono {F G : List Addr} {H H1 : Hp} (a : Kp F H H1) (s : ∀ x ∈ F, x ∈ G) : Kp G H H1 := fun c o e n => a c o e fun m => n (s c m)
theorem Kp.upd {F : List Addr} {H : Hp} {p : Addr} {o : HO} (h : p ∈ F) : Kp F H (L2.upd H p o) := fun b u e n => by
  rw [upd_ne (a := p) (b := b) fun z => n (by rw [z]; exact h)]; exact e
theorem upd_ok {H : Hp} {p : Addr} {o : HO} {Q : Hp → Prop} (h : ∀ H1, H1 p = some o → Kp [p] H H1 → (∀ b, b ≠ p → H1 b = H b) → Q H1) : Q (upd H p o) := h _ upd_same (Kp.upd (by simp)) fun _ n => upd_ne n
/-! ### the walk through a reading -/
local macro_rules | `(tactic| walk_at "sd") => `(tactic| first
  | rfl
  | assumption
  | trivial
  | exact SqL.of (by assumption)
  | exact .inl (SqL.of (by assumption))
  | decide)
end Qe

namespace Qe
open PySem PySem.Spec
open PyProof.Rows L2
/-! ### texts by their signs -/
def sS (l : List Nat) : Str := ⟨l.toArray⟩
abbrev vS (l : List Nat) : V := .str (sS l)
theorem sS_cps (l : List Nat) : (sS l).cps.toList = l := rfl
theorem sS_len (l : List Nat) : (sS l).length = l.length := rfl
theorem sS_app (a b : List Nat) : sS a ++ sS b = sS (a ++ b) := by
  show (⟨a.toArray ++ b.toArray⟩ : Str) = ⟨(a ++ b).toArray⟩
  simp
theorem sS_inj {a b : List Nat} (h : sS a = sS b) : a = b := congrArg (fun z : Str => z.cps.toList) h
theorem vS_inj {a b : List Nat} (h : vS a = vS b) : a = b := sS_inj (V.str.inj h)
theorem vS_eq (a b : List Nat) : decide (vS a = vS b) = decide (a = b) := decide_eq_decide.mpr ⟨vS_inj, fun h => by rw [h]⟩
theorem sS_start (a b : List Nat) : Txt.startswith (sS a) (sS b) = decide (b <+: a) := by
  unfold Txt.startswith
  rw [PySem.StrLaws.subAt_eq, Nat.zero_add, sS_len, sS_len]
  show (decide (b.length ≤ a.length) && (((a.drop 0).take b.length) == b)) = decide (b <+: a)
  rw [List.drop_zero]
  by_cases h : b <+: a
  · rw [decide_eq_true h, decide_eq_true h.length_le, Bool.true_and, beq_iff_eq]
    exact (List.prefix_iff_eq_take.mp h).symm
  · rw [decide_eq_false h]
    by_cases e : a.take b.length = b
    · exact absurd (List.prefix_iff_eq_take.mpr e.symm) h
    · rw [beq_eq_false_iff_ne.mpr e, Bool.and_false]
def cutN {α : Type} : List α → Option Int → Option Int → List α
  | xs, none, none => xs
  | xs, some i, none => xs.drop i.toNat
  | xs, none, some j => xs.take j.toNat
  | xs, some i, some j => (xs.take j.toNat).drop i.toNat
def NN (o : Option Int) : Prop := ∀ i, o = some i → 0 ≤ i
theorem NN.none : NN none := fun _ h => nomatch h
theorem NN.some {i : Int} (h : 0 ≤ i) : NN (some i) := fun _ e => Option.some.inj e ▸ h
theorem sIx_nn {n d : Nat} {i : Int} (h : 0 ≤ i) : HT.sIx n d (some i) = min i.toNat n := by
  show (if i < 0 then _ else _) = _
  rw [if_neg (by omega)]
theorem cut_eq {α : Type} (xs : List α) {lo hi : Option Int} (hl : NN lo) (hh : NN hi) : (xs.drop (HT.sIx xs.length 0 lo)).take (HT.sIx xs.length xs.length hi - HT.sIx xs.length 0 lo) = cutN xs lo hi := by
  cases lo with
  | none =>
    cases hi with
    | none => show (xs.drop 0).take (xs.length - 0) = xs; simp
    | some j =>
      rw [sIx_nn (hh j rfl)]
      show (xs.drop 0).take (min j.toNat xs.length - 0) = xs.take j.toNat
      simp [List.take_eq_take_iff]
  | some i =>
    rw [sIx_nn (hl i rfl)]
    cases hi with
    | none =>
      show (xs.drop (min i.toNat xs.length)).take (xs.length - min i.toNat xs.length) = xs.drop i.toNat
      rw [(List.take_of_length_le (by simp))]
      by_cases h : i.toNat ≤ xs.length
      · rw [Nat.min_eq_left h]
      · rw [Nat.min_eq_right (show xs.length ≤ i.toNat by omega), List.drop_of_length_le (Nat.le_refl _), List.drop_of_length_le (show xs.length ≤ i.toNat by omega)]
    | some j =>
      rw [sIx_nn (hh j rfl)]
      show _ = (xs.take j.toNat).drop i.toNat
      by_cases h : i.toNat ≤ xs.length
      · rw [Nat.min_eq_left h, List.drop_take]
        rw [List.take_eq_take_iff, List.length_drop]
        omega
      · rw [Nat.min_eq_right (show xs.length ≤ i.toNat by omega), List.drop_of_length_le (Nat.le_refl _), List.drop_of_length_le (show (xs.take j.toNat).length ≤ i.toNat by rw [List.length_take]; omega)]
        simp
theorem atI_neg1 {α : Type} {xs : List α} {v : α} (h : xs.getLast? = some v) : atI xs (-1) = some v := by
  obtain ⟨ys, rfl⟩ := List.getLast?_eq_some_iff.mp h
  exact atI_last ys v
section
variable {X : Cx} {o e : Expr} {to te : TE} {apos pos : Pos}
theorem pe_sC {x : Str} {j} (l : List Nat) (h : x = sS l) : PE X (.Constant (.str x) j pos) (tC (vS l)) := by
  subst h
  exact pe_str
theorem gSl {mg : Str → Option Value} {x z : Str} (l : List Nat) (h : ∃ u, mg x = some (.str z u)) (e : z = sS l) : ∃ u, mg x = some u ∧ RelV (vS l) u := by
  subst e
  exact gS h
theorem op_addW : OpR X (binaryOp .Add) (fun x y H Q => ∃ a b, x = vS a ∧ y = vS b ∧ a.length + b.length ≤ 20000 ∧ Q (vS (a ++ b)) H) := fun pins s σ H x y v u Q I rx ry ⟨a, b, ea, eb, hl, q⟩ =>
  op_add_str pins s σ H x y v u Q I rx ry ⟨_, _, ea, eb, Nat.le_trans hl (by decide), by rw [sS_app]; exact q⟩
theorem op_eqW : OpR X (compareOp .Eq) (fun x y H Q => ∃ a b, x = vS a ∧ y = vS b ∧ Q (.bl (decide (a = b))) H) := fun pins s σ H x y v u Q I rx ry ⟨a, b, ea, eb, q⟩ =>
  op_eq pins s σ H x y v u Q I rx ry ⟨by rw [ea, eb]; rfl, by rw [ea, eb, vS_eq]; exact q⟩
theorem op_neW : OpR X (compareOp .NotEq) (fun x y H Q => ∃ a b, x = vS a ∧ y = vS b ∧ Q (.bl (!decide (a = b))) H) := fun pins s σ H x y v u Q I rx ry ⟨a, b, ea, eb, q⟩ =>
  op_ne pins s σ H x y v u Q I rx ry ⟨by rw [ea, eb]; rfl, by rw [ea, eb, vS_eq]; exact q⟩
theorem op_inW : OpR X (compareOp .In) (fun x y H Q => ∃ c a, x = vS [c] ∧ y = vS a ∧ Q (.bl (decide (c ∈ a))) H) := fun pins s σ H x y v u Q I rx ry ⟨c, a, ea, eb, q⟩ =>
  op_in_sign pins s σ H x y v u Q I rx ry ⟨c, _, ea, eb, q⟩
theorem call_lenW : CallR X (.builtin "len") (fun xs H Q => ∃ a, xs = [vS a] ∧ a.length ≤ 20000 ∧ Q (.int a.length) H) := fun pins s σ H xs us Q I r ⟨a, e, hl, q⟩ =>
  call_len_str pins s σ H xs us Q I r ⟨_, e, Nat.le_trans hl (by decide), q⟩
theorem ix_strW : IxR X (fun x y H Q => ∃ a i c, x = vS a ∧ y = .int i ∧ a.length ≤ 20000 ∧ atI a i = some c ∧ Q (vS [c]) H) := fun oe ie pins s σ H x y v u Q I rx ry ⟨a, i, c, ea, ei, hl, hc, q⟩ hs =>
  ix_str oe ie pins s σ H x y v u Q I rx ry ⟨_, _, _, ea, ei, Nat.le_trans hl (by decide), hc, q⟩ hs
theorem sl_strW : SlR X (fun x lo hi H Q => ∃ a, x = vS a ∧ a.length ≤ 20000 ∧ NN lo ∧ NN hi ∧ Q (vS (cutN a lo hi)) H) := fun pins s σ H x v vl vu lo hi sl Q I rx hs pl pu ⟨a, ea, hl, n1, n2, q⟩ =>
  sl_str pins s σ H x v vl vu lo hi sl Q I rx hs pl pu ⟨_, ea, Nat.le_trans hl (by decide), by
    have e : cutS (sS a) lo hi = sS (cutN a lo hi) := by
      unfold cutS
      rw [sS_cps, sS_len, cut_eq a n1 n2]
      rfl
    rw [e]
    exact q⟩
theorem sl_listN : SlR X (fun x lo hi H Q => ∃ a xs, x = .ref a ∧ SqL X.K H a xs ∧ NN lo ∧ NN hi ∧ ∀ p, H p = none → Q (.ref p) (upd H p (.lst (cutN xs lo hi)))) := fun pins s σ H x v vl vu lo hi sl Q I rx hs pl pu ⟨a, xs, ea, hx, n1, n2, q⟩ =>
  sl_list pins s σ H x v vl vu lo hi sl Q I rx hs pl pu ⟨a, xs, ea, hx, fun p hp => by
    have e : cutV xs lo hi = cutN xs lo hi := cut_eq xs n1 n2
    rw [e]
    exact q p hp⟩
theorem mt_startsW : MtR X "str.startswith" (fun x xs H Q => ∃ a b, x = vS a ∧ xs = [vS b] ∧ Q (.bl (decide (b <+: a))) H) := fun pins s σ H x xs v us Q I rx rxs ⟨a, b, ea, eb, q⟩ =>
  mt_startswith pins s σ H x xs v us Q I rx rxs ⟨_, _, ea, eb, by rw [sS_start]; exact q⟩
theorem join_nil (ls : List (List Nat)) : Txt.join (sS []) (ls.map sS) = sS ls.flatten := by
  have go : ∀ (ls : List (List Nat)), Str.join (sS []) (ls.map sS) = sS ls.flatten := fun ls => by
    induction ls with
    | nil => rfl
    | cons a r ih =>
      cases r with
      | nil => show sS a = _; simp
      | cons b r =>
        show sS a ++ sS [] ++ Str.join (sS []) ((b :: r).map sS) = _
        rw [ih, sS_app, sS_app]
        simp
  exact (show Txt.join (sS []) (ls.map sS) = Str.join (sS []) (ls.map sS) from PySem.StrLaws.glued_eq_join _ _).trans (go ls)
theorem pe_join0 (ho : PE X o to) (he : PE X e te) (hs : starEach [e] X.env = [(false, eval e X.env)] := by rfl) (hbase : attributeBase o "join" X.env (eval o X.env) = eval o X.env := by rfl) (hline : (apos.endLine == pos.line) = true := by rfl) :
    PE X (.Call (.Attribute o "join" apos) [e] [] pos) (tM1 (fun x xs H Q => ∃ (p : Addr) (ls : List (List Nat)), x = vS [] ∧ xs = [.ref p] ∧ SqL X.K H p (ls.map vS) ∧ (ls.map List.length).sum ≤ 20000 ∧ Q (vS ls.flatten) H) to te) := by
  refine pe_m1 PySem.F.slot_str_join PySem.F.type_str_join (fun pins s σ H x xs v us Q I rx rxs ⟨p, ls, ea, eb, hq, hl, q⟩ => ?_) ho he hs hbase hline
  refine mt_join pins s σ H x xs v us Q I rx rxs ⟨sS [], p, ls.map sS, ea, eb, .inl ?_, ?_, ?_⟩
  · rw [List.map_map]
    exact hq
  · rw [List.map_map]
    show (ls.map fun l => l.length).sum + (ls.map sS).length * 0 ≤ _
    rw [Nat.mul_zero,
          Nat.add_zero]
    exact Nat.le_trans hl (by decide)
  · rw [join_nil]
    exact q
end
end Qe
namespace Qe
open PySem PySem.Spec
open PyProof.Rows L2
theorem ite_d {p : Prop} [Decidable p] {A B : Prop} (h1 : p → A) (h2 : ¬p → B) : if decide p = true then A else B := by
  by_cases h : p
  · rw [decide_eq_true h]; exact iteT (h1 h)
  · rw [decide_eq_false h]; exact iteF (h2 h)
theorem ite_b {b : Bool} {A B : Prop} (h1 : b = true → A) (h2 : b = false → B) : if b = true then A else B := by
  cases b with
  | true => exact iteT (h1 rfl)
  | false => exact iteF (h2 rfl)
theorem ite_n {p : Prop} [Decidable p] {A B : Prop} (h1 : ¬p → A) (h2 : p → B) : if (!decide p) = true then A else B := by
  by_cases h : p
  · rw [decide_eq_true h]; exact iteF (h2 h)
  · rw [decide_eq_false h]; exact iteT (h1 h)
theorem ite_nb {b : Bool} {A B : Prop} (h1 : b = false → A) (h2 : b = true → B) : if (!b) = true then A else B := by
  cases b with
  | true => exact iteF (h2 rfl)
  | false => exact iteT (h1 rfl)
def itemsL : List Nat := [97, 98, 99, 100, 101, 102, 103, 104]
def isIt (c : Nat) : Bool := decide (c ∈ itemsL)
end Qe
namespace Qe
open PySem PySem.Spec
open PyProof.Rows L2
theorem _root_.L2.Same.updN {H H2 : Hp} {D : Addr} {o : HO} (s : Same H H2) (h : H D = none) : Same H (upd H2 D o) := fun b u e => by rw [upd_ne (ne_of_none e h)]; exact s b u e
theorem _root_.L2.Same.new {H : Hp} {D : Addr} {o : HO} (h : H D = none) : Same H (upd H D o) := (Same.refl H).updN h
theorem small20 {n : Nat} (h : n ≤ 20000) : n < sizeLine := Nat.lt_of_le_of_lt h (by decide)
theorem take_map_succ {α β : Type} {l : List α} {i : Nat} {c : α} (f : α → β) (h : l[i]? = some c) : (l.take i).map f ++ [f c] = (l.take (i + 1)).map f := by
  rw [List.take_succ, h]; simp
theorem lookup_ne {H : Hp} {a D : Addr} {o u : HO} (h : H a = some o) (hD : a ≠ D) : upd H D u a = some o := by rw [upd_ne hD]; exact h
end Qe
namespace Qe
open PySem PySem.Spec
open PyProof.Rows L2
theorem gName_i {i : Nat} {v : V} {σ : L2.St} {H : Hp} {Q : L2.St → Hp → Prop} (h : Q (σ.set i (some v)) H) : gName i v σ H Q := h
theorem tNext_i {D : Ends} {σ : L2.St} {H : Hp} (h : D.nx σ H) : tNext D σ H := h
theorem tSeq_i {t u : TS} {D : Ends} {σ : L2.St} {H : Hp} (h : t { D with nx := u D } σ H) : tSeq t u D σ H := h
end Qe
namespace Qe
/-- a claim that the walk leaves alone -/
@[irreducible] def Hold (p : Prop) : Prop := p
theorem Hold.mk {p : Prop} (h : p) : Hold p := by unfold Hold; exact h
theorem Hold.out {p : Prop} (h : Hold p) : p := by unfold Hold at h; exact h
end Qe
namespace Qe
open PySem PySem.Spec
open PyProof.Rows L2
/-- all but what stands at x is as it was -/
def But (x : Addr) (H H' : Hp) : Prop := ∀ b o, H b = some o → b ≠ x → H' b = some o
theorem But.same {x : Addr} {H H' : Hp} (h : Same H H') : But x H H' := fun b o e _ => h b o e
theorem But.upd {x : Addr} {H H1 : Hp} {o : HO} (h : But x H H1) : But x H (L2.upd H1 x o) := fun b u e n => by rw [upd_ne n]; exact h b u e n
theorem But.trans {x : Addr} {H H1 H2 : Hp} (a : But x H H1) (b : But x H1 H2) : But x H H2 := fun c o e n => b c o (a c o e n) n
/-- a for over enumerate(list) -/
theorem for_enumL {K : PySem.W.Frag} {a : Addr} {xs : List V} {g : TG} {tb : TS} {D : Ends} {σ : L2.St} {H : Hp} (Pv : Nat → L2.St → Hp → Prop) (h0 : Pv 0 σ H) (hl : ∀ i σ H, i ≤ xs.length → Pv i σ H → SqL K H a xs)
    (hs : ∀ i x σ H T H', xs[i]? = some x → Pv i σ H → H T = none → H' T = some (.tup [.int (i : Nat), x]) → Same H H' → g (.ref T) σ H' fun σ2 H2 => tb { D with nx := Pv (i + 1), ct := Pv (i + 1), bk := D.nx } σ2 H2) (hd : ∀ σ H, Pv xs.length σ H → D.nx σ H) :
    ∃ W : Nat → Nat → L2.St → Hp →
          Prop, (∃ m, W 0 m σ H) ∧ ∀ i m σ H, W i m σ H →
      ((Ite K a).stop i H ∧ D.nx σ H) ∨ ((Ite K a).go i H ∧ ∃ N : L2.St → Hp → Prop, (∀ σ' H', N σ' H' → ∃ m', m' < m ∧ W (i + 1) m' σ' H') ∧ ∀ x H', (Ite K a).yld i H x H' → g x σ H' fun σ2 H2 => tb { D with nx := N, ct := N, bk := D.nx } σ2 H2) := by
  refine for_it walk_enum Pv h0 hl (fun i v σ H H' hi p y => ?_) hd
  obtain ⟨T, x, y', rfl, hT, rfl, e1, e2⟩ := y
  have e1' : V.int (i : Nat) = x := Option.some.inj e1
  subst e1'
  exact hs i y' σ H T _ e2 p hT upd_same (Same.new hT)
end Qe
namespace Qe
open PySem PySem.Spec
open PyProof.Rows L2
theorem map_get {α β : Type} {f : α → β} {l : List α} {i : Nat} {x : β} (h : (l.map f)[i]? = some x) : ∃ s, l[i]? = some s ∧ x = f s := by
  rw [List.getElem?_map] at h
  obtain ⟨s, e, rfl⟩ := Option.map_eq_some_iff.mp h
  exact ⟨s, e, rfl⟩
end Qe
namespace Qe
open PySem
theorem sz0 : 0 ≤ sizeLine := by decide
theorem sz1 : 1 ≤ sizeLine := by decide
theorem sz2 : 2 ≤ sizeLine := by decide
theorem sz3 : 3 ≤ sizeLine := by decide
theorem sz4 : 4 ≤ sizeLine := by decide
end Qe
namespace Qe
theorem lt1 : 1 < 1000 := by decide
theorem lt2 : 2 < 1000 := by decide
theorem lt3 : 3 < 1000 := by decide
theorem lt4 : 4 < 1000 := by decide
end Qe
namespace Qe
open PySem PySem.Spec
open PyProof.Rows L2
section
variable {X : Cx}
theorem vI_eq (i j : Int) : decide (V.int i = V.int j) = decide (i = j) := decide_eq_decide.mpr ⟨V.int.inj, fun h => by rw [h]⟩
theorem vB_eq (i j : Bool) : decide (V.bl i = V.bl j) = decide (i = j) := decide_eq_decide.mpr ⟨V.bl.inj, fun h => by rw [h]⟩
theorem op_eqI : OpR X (compareOp .Eq) (fun x y H Q => ∃ i j, x = .int i ∧ y = .int j ∧ Q (.bl (decide (i = j))) H) := fun pins s σ H x y v u Q I rx ry ⟨i, j, ea, eb, q⟩ =>
  op_eq pins s σ H x y v u Q I rx ry ⟨by rw [ea, eb]; rfl, by rw [ea, eb, vI_eq]; exact q⟩
theorem op_neI : OpR X (compareOp .NotEq) (fun x y H Q => ∃ i j, x = .int i ∧ y = .int j ∧ Q (.bl (!decide (i = j))) H) := fun pins s σ H x y v u Q I rx ry ⟨i, j, ea, eb, q⟩ =>
  op_ne pins s σ H x y v u Q I rx ry ⟨by rw [ea, eb]; rfl, by rw [ea, eb, vI_eq]; exact q⟩
theorem op_eqBl : OpR X (compareOp .Eq) (fun x y H Q => ∃ i j, x = .bl i ∧ y = .bl j ∧ Q (.bl (decide (i = j))) H) := fun pins s σ H x y v u Q I rx ry ⟨i, j, ea, eb, q⟩ =>
  op_eq pins s σ H x y v u Q I rx ry ⟨by rw [ea, eb]; rfl, by rw [ea, eb, vB_eq]; exact q⟩
end
end Qe
namespace Qe
open PySem PySem.Spec
open PyProof.Rows L2
theorem passN {X : Cx} : Passes (L2.CX X.prog X.w) X E0 := fun _ _ _ _ _ _ _ ⟨_, _, _, _, _, _, _, _, _, _, _, _, hE⟩ => hE.elim
end Qe

namespace Qe
open PySem L2
/-! ## the mathematics: steps, queues, look effects -/
/-- a step: its sign (43 +, 45 -, 63 ?), its item -/
abbrev Step : Type := Nat × Nat
def Step.ok (s : Step) : Prop := (s.1 = 43 ∨ s.1 = 45 ∨ s.1 = 63) ∧ isIt s.2 = true
abbrev vT (s : Step) : V := vS [s.1, s.2]
/-- at a list of these steps -/
abbrev StL (H : Hp) (a : Addr) (st : List Step) : Prop := H a = some (.lst (st.map vT))
def suitB (p w : List Nat) (n : Nat) : Bool := decide (p.length ≤ n) || decide (p.drop n <+: w)
/-- the least suitable number from n on -/
def leastS (p w : List Nat) (n : Nat) : Nat := if h : suitB p w n = true then n else leastS p w (n + 1)
termination_by p.length - n
decreasing_by
  unfold suitB at h
  have : ¬ p.length ≤ n := fun z => h (by rw [decide_eq_true z]; rfl)
  omega
theorem leastS_ge (p w : List Nat) (n : Nat) : n ≤ leastS p w n := by
  fun_induction leastS p w n with
  | case1 n h => exact Nat.le_refl _
  | case2 n h ih => omega
theorem leastS_suit (p w : List Nat) (n : Nat) : suitB p w (leastS p w n) = true := by
  fun_induction leastS p w n with
  | case1 n h => exact h
  | case2 n h ih => exact ih
theorem leastS_le (p w : List Nat) (n m : Nat) (h1 : n ≤ m) (h2 : suitB p w m = true) : leastS p w n ≤ m := by
  fun_induction leastS p w n with
  | case1 n h => exact h1
  | case2 n h ih =>
    have : n ≠ m := fun e => h (e ▸ h2)
    exact ih (by omega)
theorem suit_len (p w : List Nat) : suitB p w p.length = true := by
  unfold suitB
  rw [decide_eq_true (Nat.le_refl _)]
  rfl
theorem suitB_iff {p w : List Nat} {n : Nat} : suitB p w n = true ↔ (p.length ≤ n ∨ p.drop n <+: w) := by
  unfold suitB
  rw [Bool.or_eq_true, decide_eq_true_iff, decide_eq_true_iff]
/-- the queue after a step or a look -/
def after (q : List Nat) (s : Step) : Option (List Nat) := if s.1 = 43 then some (q ++ [s.2]) else if q.take 1 ≠ [s.2] then none else if s.1 = 63 then some q else some (q.drop 1)
abbrev vO (o : Option (List Nat)) : V := o.elim .non vS
def runS (q : List Nat) (st : List Step) : Option (List Nat) := st.foldl (fun o s => o.bind fun q => after q s) (some q)
theorem runS_nil (q : List Nat) : runS q [] = some q := rfl
theorem runS_snoc (q : List Nat) (st : List Step) (s : Step) : runS q (st ++ [s]) = (runS q st).bind fun q => after q s := by
  unfold runS
  rw [List.foldl_append]
  rfl
theorem fold_none (st : List Step) : st.foldl (fun (o : Option (List Nat)) s => o.bind fun q => after q s) none = none := by
  induction st with
  | nil => rfl
  | cons s r ih => exact ih
theorem runS_app (q : List Nat) (a b : List Step) : runS q (a ++ b) = (runS q a).bind fun q' => runS q' b := by
  unfold runS
  rw [List.foldl_append]
  cases List.foldl (fun (o : Option (List Nat)) s => o.bind fun q => after q s) (some q) a with
  | none => exact fold_none b
  | some r => rfl
theorem runS_split {q r : List Nat} {a b : List Step} (h : runS q (a ++ b) = some r) : ∃ q', runS q a = some q' ∧ runS q' b = some r := by
  rw [runS_app] at h
  exact Option.bind_eq_some_iff.mp h
theorem runS_one (q : List Nat) (s : Step) : runS q [s] = after q s := rfl
theorem after_len {q r : List Nat} {s : Step} (h : after q s = some r) : r.length ≤ q.length + 1 := by
  unfold after at h
  split at h
  · cases h; simp
  · split at h
    · cases h
    · split at h
      · cases h; omega
      · cases h; rw [List.length_drop]; omega
theorem runS_len {st : List Step} : ∀ {q r : List Nat}, runS q st = some r → r.length ≤ q.length + st.length := by
  induction st with
  | nil => intro q r h; cases h; simp
  | cons s t ih =>
    intro q r h
    obtain ⟨q', h1, h2⟩ := runS_split (a := [s]) h
    have := after_len h1
    have := ih h2
    rw [List.length_cons]
    omega
theorem after_it {q r : List Nat} {s : Step} (hs : s.ok) (hq : q.all isIt = true) (h : after q s = some r) : r.all isIt = true := by
  unfold after at h
  split at h
  · cases h; rw [List.all_append, hq, List.all_cons, hs.2]; rfl
  · split at h
    · cases h
    · split at h
      · cases h; exact hq
      · cases h
        rw [List.all_eq_true] at hq ⊢
        exact fun x hx => hq x (List.mem_of_mem_drop hx)
theorem runS_it {st : List Step} : ∀ {q r : List Nat}, (∀ s ∈ st, s.ok) → q.all isIt = true → runS q st = some r → r.all isIt = true := by
  induction st with
  | nil => intro q r _ hq h; cases h; exact hq
  | cons s t ih =>
    intro q r hs hq h
    obtain ⟨q', h1, h2⟩ := runS_split (a := [s]) h
    exact ih (fun x hx => hs x (List.mem_cons_of_mem _ hx)) (after_it (hs s List.mem_cons_self) hq h1) h2
theorem take_snoc {α : Type} {l : List α} {i : Nat} {x : α} (h : l[i]? = some x) : l.take (i + 1) = l.take i ++ [x] := by
  rw [List.take_succ, h]; rfl
theorem runS_take {q r : List Nat} {st : List Step} (h : runS q st = some r) (i : Nat) : ∃ r', runS q (st.take i) = some r' := by
  rw [← List.take_append_drop i st] at h
  obtain ⟨q', h1, _⟩ := runS_split h
  exact ⟨q', h1⟩
end Qe
namespace Qe
def isQ (l : List Nat) : Prop := l.length ≤ 2100 ∧ l.all isIt = true
theorem isQ.b {l : List Nat} (h : isQ l) : (decide ((l.length : Int) ≤ 2100) && l.all isIt) = true := by
  rw [h.2, Bool.and_true]; exact decide_eq_true (by have := h.1; omega)
end Qe

namespace Qe
open PySem PySem.Spec PyProof.Rows L2 He
/-! ## the objects in the heap -/
/-- a look effect: prefix, puts, takes, core -/
structure Eff where
  p : List Nat
  w : List Nat
  t : Nat
  c : Nat
  deriving DecidableEq
structure Eff.ok (e : Eff) : Prop where
  p1 : e.p.length ≤ 2000
  p2 : e.p.all isIt = true
  w1 : e.w.length ≤ 2000
  w2 : e.w.all isIt = true
  t1 : e.t ≤ e.p.length
  t2 : e.p.length ≤ e.t + 1
  c1 : e.c ≤ e.p.length
  c2 : suitB e.p e.w e.c = true
def leF (e : Eff) : List (Str × V) := [("own_prefix", vS e.p), ("own_taken", .int e.t), ("own_puts", vS e.w), ("own_core", .int e.c)]
def isLE (K : PySem.W.Frag) (H : Hp) (a : Addr) (e : Eff) : Prop := ∃ dx, H a = some (.ins (ga K "LookEffect") dx (leF e))
theorem isLE.same {K : PySem.W.Frag} {H H' : Hp} {a : Addr} {e : Eff} (h : isLE K H a e) (s : Same H H') : isLE K H' a e := h.imp fun _ z => s _ _ z
abbrev leT (e : Eff) : List V := [vS e.p, .int e.t, vS e.w, .int e.c]
/-- the collector: prefix, puts, takes, need -/
structure Col where
  p : List Nat
  w : List Nat
  t : Nat
  n : Nat
def v1 (c : Nat) : V := vS [c]
structure isCol (K : PySem.W.Frag) (H : Hp) (x dx pa wa : Addr) (k : Col) : Prop where
  o : H x = some (.ins (ga K "Collector") dx [("own_prefix", .ref pa), ("own_puts", .ref wa), ("own_taken", .int k.t), ("own_need", .int k.n)])
  p : H pa = some (.lst (k.p.map v1))
  w : H wa = some (.lst (k.w.map v1))
  ne : pa ≠ wa
theorem isCol.same {K : PySem.W.Frag} {H H' : Hp} {x dx pa wa : Addr} {k : Col} (h : isCol K H x dx pa wa k) (s : Same H H') : isCol K H' x dx pa wa k := ⟨s _ _ h.o, s _ _ h.p, s _ _ h.w, h.ne⟩
end Qe
namespace Qe
open PySem PySem.Spec
open PyProof.Rows L2
theorem sumS (l : List Nat) : ((l.map fun c => [c]).map List.length).sum = l.length := by
  induction l with
  | nil => rfl
  | cons a r ih =>
    rw [List.map_cons, List.map_cons, List.sum_cons, ih, List.length_cons]
    show
          1 + r.length = r.length + 1
    omega
theorem flS (l : List Nat) : (l.map fun c => [c]).flatten = l := by
  induction l with
  | nil => rfl
  | cons a r ih => rw [List.map_cons, List.flatten_cons, ih]; rfl
theorem mapv1 (l : List Nat) : l.map v1 = (l.map fun c => [c]).map vS := by rw [List.map_map]; rfl
end Qe
namespace Qe
open PySem PySem.Spec
open PyProof.Rows L2
def But3 (x y z : Addr) (H H' : Hp) : Prop := ∀ b o, H b = some o → b ≠ x → b ≠ y → b ≠ z → H' b = some o
theorem But3.refl {x y z : Addr} {H : Hp} : But3 x y z H H := fun _ _ e _ _ _ => e
theorem But3.trans {x y z : Addr} {H H1 H2 : Hp} (a : But3 x y z H H1) (b : But3 x y z H1 H2) : But3 x y z H H2 := fun c o e n1 n2 n3 => b c o (a c o e n1 n2 n3) n1 n2 n3
theorem But3.of {x y z : Addr} {H H1 : Hp} (s : Same H H1) : But3 x y z H H1 := fun c o e _ _ _ => s c o e
theorem made_ne {H1 : Hp} {x dx C p q : Addr} {o : HO} (nx : H1 x = none) (nd : H1 dx = none) (hp : H1 p = some o) (hq : (upd (upd H1 dx (.own x)) x (.ins C dx [])) q = none) : p ≠ q := by
  refine ne_of_none (H := upd (upd H1 dx (.own x)) x (.ins C dx [])) (o := o) ?_ hq
  rw [upd_ne (ne_of_none hp nx), upd_ne (ne_of_none hp nd)]
  exact hp
theorem made_col {H1 H2 H' : Hp} {x dx C pa wa : Addr} (nx : H1 x = none) (nd : H1 dx = none) (npa : (upd (upd H1 dx (.own x)) x (.ins C dx [])) pa = none) (nwa : (upd (upd H1 dx (.own x)) x (.ins C dx [])) wa = none)
    (bt : But x (upd (upd H1 dx (.own x)) x (.ins C dx [])) H2) (b3 : But3 x pa wa H2 H') : Same H1 H' := fun b o e =>
  b3 b o (Same.made nx nd bt b o e) (ne_of_none e nx) (made_ne nx nd e npa) (made_ne nx nd e nwa)
end Qe
namespace Qe
open PySem PySem.Spec
open PyProof.Rows L2
/-- x changed, new things besides -/
structure Bld (x : Addr) (H0 H1 : Hp) (ns : List (Addr × HO)) : Prop where
  but : But x H0 H1
  at_ : ∀ p ∈ ns, H1 p.1 = some p.2 ∧ H0 p.1 = none ∧ p.1 ≠ x
theorem Bld.refl {x : Addr} {H H0 : Hp} (s : Same H H0) : Bld x H H0 [] := ⟨But.same s, fun _ h => nomatch h⟩
theorem Bld.new {x p : Addr} {H0 H1 : Hp} {ns : List (Addr × HO)} {ox o : HO} (b : Bld x H0 H1 ns) (hx : H1 x = some ox) (hp : H1 p = none) : Bld x H0 (upd H1 p o) ((p, o) :: ns) := by
  have npx : p ≠ x := (ne_of_none hx hp).symm
  refine ⟨fun c u e n => ?_, fun q hq => ?_⟩
  · have h1 := b.but c u e n
    rw [upd_ne (ne_of_none h1 hp)]; exact h1
  · rcases List.mem_cons.mp hq with e | e
    · subst e
      refine ⟨upd_same, ?_, npx⟩
      cases z : H0 p with
      | none => rfl
      | some u =>
        have h1 := b.but p u z npx
        rw [hp] at h1; cases h1
    · obtain ⟨h1, h2, h3⟩ := b.at_ q e
      exact ⟨by rw [upd_ne (ne_of_none h1 hp)]; exact h1, h2, h3⟩
theorem Bld.put {x : Addr} {H0 H1 : Hp} {ns : List (Addr × HO)} {o : HO} (b : Bld x H0 H1 ns) : Bld x H0 (upd H1 x o) ns := ⟨b.but.upd, fun q hq => by
  obtain ⟨h1, h2, h3⟩ := b.at_ q hq
  exact ⟨by rw [upd_ne h3]; exact h1, h2, h3⟩⟩
end Qe

namespace Qe
open PySem PySem.Spec PyProof.Rows L2 He
/-! ## flat data and its comparison -/
inductive FD where
  | i (n : Int)
  | s (l : List Nat)
  deriving DecidableEq
def FD.d : FD → PyData
  | .i n => .int n
  | .s l => .str (sS l)
def FD.v : FD → V
  | .i n => .int n
  | .s l => vS l
def chOk (l : List Nat) : Bool := l.all (· < 0x110000)
def FD.ok : FD → Bool
  | .i _ => true
  | .s l => chOk l
theorem chOk_it {l : List Nat} (h : l.all isIt = true) : chOk l = true := by
  unfold chOk
  rw [List.all_eq_true] at h ⊢
  intro x hx
  have h2 : x ∈ itemsL := of_decide_eq_true (h x hx)
  unfold itemsL at h2
  simp only [List.mem_cons, List.not_mem_nil, or_false] at h2
  exact
        decide_eq_true (by omega)
theorem Step.chOk {s : Step} (h : s.ok) : chOk [s.1, s.2] = true := by
  have h1 : Qe.chOk [s.2] = true := chOk_it (by rw [List.all_cons, h.2]; rfl)
  unfold Qe.chOk at h1 ⊢
  rw [List.all_cons, h1, Bool.and_true]
  rcases h.1 with e | e | e <;> rw [e] <;> rfl
theorem FD.lay {f : FD} (h : f.ok = true) : f.d.canLay0 = true := by
  cases f with
  | i n => rfl
  | s l =>
    show PyData.strOk (sS l) = true
    unfold PyData.strOk
    rw [← Array.all_toList]
    exact h
theorem FD.depth (f : FD) : f.d.depth = 0 := by cases f <;> rfl
theorem FD.eqv (f g : FD) : PyData.eqv f.d g.d = decide (f = g) := by
  cases f with
  | i n =>
    cases g with
    | i m =>
      show (n == m) = decide (FD.i n = FD.i m)
      by_cases h : n = m
      · rw [h, decide_eq_true rfl]; exact beq_self_eq_true m
      · rw [decide_eq_false (fun e => h (FD.i.inj e))]; exact beq_eq_false_iff_ne.mpr h
    | s m => rfl
  | s n =>
    cases g with
    | i m => rfl
    | s m =>
      show (sS n == sS m) = decide (FD.s n = FD.s m)
      by_cases h : n = m
      · rw [h, decide_eq_true rfl]; exact beq_self_eq_true _
      · rw [decide_eq_false (fun e => h (FD.s.inj e))]; exact beq_eq_false_iff_ne.mpr fun e => h (sS_inj e)
def allOk (l : List FD) : Bool := l.all FD.ok
theorem lay_all : ∀ {l : List FD}, allOk l = true → PyData.canLayAll0 (l.map FD.d) = true
  | [], _ => rfl
  | f :: r, h => by
    unfold allOk at h
    rw [List.all_cons,
          Bool.and_eq_true] at h
    show (f.d.canLay0 && PyData.canLayAll0 (r.map FD.d)) = true
    rw [FD.lay h.1, lay_all (l := r) h.2]
    rfl
theorem depth_all : ∀ (l : List FD), PyData.depthAll (l.map FD.d) = 0
  | [] => rfl
  | f :: r => by
    show max f.d.depth (PyData.depthAll (r.map FD.d)) = 0
    rw [FD.depth, depth_all r]
    rfl
theorem eqv_all : ∀ (l m : List FD), PyData.eqvAll (l.map FD.d) (m.map FD.d) = decide (l = m)
  | [], [] => rfl
  | [], _ :: _ => rfl
  | _ :: _, [] => rfl
  | f :: r, g :: t => by
    show (PyData.eqv f.d g.d && PyData.eqvAll (r.map FD.d) (t.map FD.d)) = _
    rw [FD.eqv, eqv_all r t]
    by_cases h : f = g
    · by_cases h2 : r = t
      · rw [h, h2]; simp
      · rw [decide_eq_false h2, decide_eq_false (fun e => h2 (List.cons.inj e).2), Bool.and_false]
    · rw [decide_eq_false h, decide_eq_false (fun e => h (List.cons.inj e).1), Bool.false_and]
theorem shT {l : List FD} (h : allOk l = true) : SeqAt.shaped (.tuple (l.map FD.d)) = true := by
  unfold SeqAt.shaped
  rw [Bool.and_eq_true]
  refine ⟨lay_all h, decide_eq_true ?_⟩
  show PyData.depthAll (l.map FD.d) + 1 ≤ 64
  rw [depth_all]; decide
theorem shL {l : List FD} (h : allOk l = true) : SeqAt.shaped (.list (l.map FD.d)) = true := by
  unfold SeqAt.shaped
  rw [Bool.and_eq_true]
  refine ⟨lay_all h, decide_eq_true ?_⟩
  show PyData.depthAll (l.map FD.d) + 1 ≤ 64
  rw [depth_all]; decide
def rowD (l : List FD) : PyData := .tuple (l.map FD.d)
def rowsOk (rs : List (List FD)) : Bool := rs.all allOk
theorem lay_rows : ∀ {l : List (List FD)}, rowsOk l = true → PyData.canLayAll0 (l.map rowD) = true
  | [], _ => rfl
  | f :: r, h => by
    unfold rowsOk at h
    rw [List.all_cons,
          Bool.and_eq_true] at h
    show (PyData.canLayAll0 (f.map FD.d) && PyData.canLayAll0 (r.map rowD)) = true
    rw [lay_all h.1, lay_rows (l := r) h.2]
    rfl
theorem depth_rows : ∀ (l : List (List FD)), PyData.depthAll (l.map rowD) ≤ 1
  | [] => Nat.zero_le _
  | f :: r => by
    show max (PyData.depthAll (f.map FD.d) + 1) (PyData.depthAll (r.map rowD)) ≤ 1
    rw [depth_all]
    exact Nat.max_le.mpr ⟨Nat.le_refl _, depth_rows r⟩
theorem eqv_rows : ∀ (l m : List (List FD)), PyData.eqvAll (l.map rowD) (m.map rowD) = decide (l = m)
  | [], [] => rfl
  | [], _ :: _ => rfl
  | _ :: _, [] => rfl
  | f :: r, g :: t => by
    show (PyData.eqv (rowD f) (rowD g) && PyData.eqvAll (r.map rowD) (t.map rowD)) = _
    rw [show PyData.eqv (rowD f) (rowD g) = decide (f = g) from eqv_all f g, eqv_rows r t]
    by_cases h : f = g
    · by_cases h2 : r = t
      · rw [h, h2]; simp
      · rw [decide_eq_false h2, decide_eq_false (fun e => h2 (List.cons.inj e).2), Bool.and_false]
    · rw [decide_eq_false h, decide_eq_false (fun e => h (List.cons.inj e).1), Bool.false_and]
theorem shR {l : List (List FD)} (h : rowsOk l = true) : SeqAt.shaped (.list (l.map rowD)) = true := by
  unfold SeqAt.shaped
  rw [Bool.and_eq_true]
  refine ⟨lay_rows h, decide_eq_true ?_⟩
  show PyData.depthAll (l.map rowD) + 1 ≤ 64
  have := depth_rows l
  omega
section
variable {K : PySem.W.Frag} {H H' : Hp} {a b : Addr}
theorem FD.dp (f : FD) : Dp K H f.v f.d := by cases f with
  | i n => exact .int n
  | s l => exact .str _
theorem dp_all : ∀ (l : List FD), DpAll K H (l.map FD.v) (l.map FD.d)
  | [] => .nil
  | f :: r => .cons f.dp (dp_all r)
/-- at a: a list of tuples of flat things -/
def Rows (K : PySem.W.Frag) (H : Hp) (a : Addr) (rs : List (List FD)) : Prop := ∃ ts : List Addr, H a = some (.lst (ts.map V.ref)) ∧ Paired (fun t (r : List FD) => H t = some (.tup (r.map FD.v))) ts rs
theorem paired_imp {α β : Type} {R S : α → β → Prop} (h : ∀ x y, R x y → S x y) : ∀ {l : List α} {m : List β}, Paired R l m → Paired S l m
  | _, _, .nil => .nil
  | _, _, .cons p r => .cons (h _ _ p) (paired_imp h r)
theorem Rows.same {rs : List (List FD)} (h : Rows K H a rs) (s : Same H H') : Rows K H' a rs := by
  obtain ⟨ts, h1, h2⟩ := h
  exact ⟨ts, s _ _ h1, paired_imp (fun _ _ e => s _ _ e) h2⟩
theorem dp_rows : ∀ {ts : List Addr} {rs : List (List FD)}, Paired (fun t (r : List FD) => H t = some (.tup (r.map FD.v))) ts rs → DpAll K H (ts.map V.ref) (rs.map rowD)
  | _, _, .nil => .nil
  | _, _, .cons p r => .cons (.tup (SqT.of p) (dp_all _)) (dp_rows r)
theorem Rows.dp {rs : List (List FD)} (h : Rows K H a rs) : Dp K H (.ref a) (.list (rs.map rowD)) := by
  obtain ⟨ts, h1, h2⟩ := h
  exact .lst (SqL.of h1) (dp_rows h2)
end
section
variable {X : Cx}
theorem op_eqTF (hu : X.A.units + 64 < cLine) : OpR X (compareOp .Eq) (fun x y H Q => ∃ (a b : Addr) (l m : List FD), x = .ref a ∧ y = .ref b ∧ H a = some (.tup (l.map FD.v)) ∧ H b = some (.tup (m.map FD.v)) ∧ allOk l = true ∧ allOk m = true ∧ Q (.bl (decide (l = m))) H) :=
  fun pins s σ H x y v u Q I rx ry ⟨a, b, l, m, ea, eb, ha, hb, o1, o2, q⟩ => op_eqD hu pins s σ H x y v u Q I rx ry ⟨_, _, ea ▸ .tup (SqT.of ha) (dp_all l), eb ▸ .tup (SqT.of hb) (dp_all m), shT o1, shT o2, by
    rw [show PyData.eqv (.tuple (l.map FD.d)) (.tuple (m.map FD.d)) = decide (l = m) from eqv_all l m]
    exact q⟩
theorem op_eqLF (hu : X.A.units + 64 < cLine) : OpR X (compareOp .Eq) (fun x y H Q => ∃ (a b : Addr) (l m : List FD), x = .ref a ∧ y = .ref b ∧ H a = some (.lst (l.map FD.v)) ∧ H b = some (.lst (m.map FD.v)) ∧ allOk l = true ∧ allOk m = true ∧ Q (.bl (decide (l = m))) H) :=
  fun pins s σ H x y v u Q I rx ry ⟨a, b, l, m, ea, eb, ha, hb, o1, o2, q⟩ => op_eqD hu pins s σ H x y v u Q I rx ry ⟨_, _, ea ▸ .lst (SqL.of ha) (dp_all l), eb ▸ .lst (SqL.of hb) (dp_all m), shL o1, shL o2, by
    rw [show PyData.eqv (.list (l.map FD.d)) (.list (m.map FD.d)) = decide (l = m) from eqv_all l m]
    exact q⟩
theorem op_neLF (hu : X.A.units + 64 < cLine) : OpR X (compareOp .NotEq) (fun x y H Q => ∃ (a b : Addr) (l m : List FD), x = .ref a ∧ y = .ref b ∧ H a = some (.lst (l.map FD.v)) ∧ H b = some (.lst (m.map FD.v)) ∧ allOk l = true ∧ allOk m = true ∧ Q (.bl (!decide (l = m))) H) :=
  fun pins s σ H x y v u Q I rx ry ⟨a, b, l, m, ea, eb, ha, hb, o1, o2, q⟩ => op_neD hu pins s σ H x y v u Q I rx ry ⟨_, _, ea ▸ .lst (SqL.of ha) (dp_all l), eb ▸ .lst (SqL.of hb) (dp_all m), shL o1, shL o2, by
    rw [show PyData.eqv (.list (l.map FD.d)) (.list (m.map FD.d)) = decide (l = m) from eqv_all l m]
    exact q⟩
theorem op_eqR (hu : X.A.units + 64 < cLine) : OpR X (compareOp .Eq) (fun x y H Q => ∃ (a b : Addr) (l m : List (List FD)), x = .ref a ∧ y = .ref b ∧ Rows X.K H a l ∧ Rows X.K H b m ∧ rowsOk l = true ∧ rowsOk m = true ∧ Q (.bl (decide (l = m))) H) :=
  fun pins s σ H x y v u Q I rx ry ⟨a, b, l, m, ea, eb, ha, hb, o1, o2, q⟩ => op_eqD hu pins s σ H x y v u Q I rx ry ⟨_, _, ea ▸ ha.dp, eb ▸ hb.dp, shR o1, shR o2, by
    rw [show PyData.eqv (.list (l.map rowD)) (.list (m.map rowD)) = decide (l = m) from eqv_rows l m]
    exact q⟩
theorem op_neR (hu : X.A.units + 64 < cLine) : OpR X (compareOp .NotEq) (fun x y H Q => ∃ (a b : Addr) (l m : List (List FD)), x = .ref a ∧ y = .ref b ∧ Rows X.K H a l ∧ Rows X.K H b m ∧ rowsOk l = true ∧ rowsOk m = true ∧ Q (.bl (!decide (l = m))) H) :=
  fun pins s σ H x y v u Q I rx ry ⟨a, b, l, m, ea, eb, ha, hb, o1, o2, q⟩ => op_neD hu pins s σ H x y v u Q I rx ry ⟨_, _, ea ▸ ha.dp, eb ▸ hb.dp, shR o1, shR o2, by
    rw [show PyData.eqv (.list (l.map rowD)) (.list (m.map rowD)) = decide (l = m) from eqv_rows l m]
    exact q⟩
end
end Qe

namespace Qe
open PySem L2
/-! ## the collector's mathematics -/
def Col0 : Col := ⟨[], [], 0, 0⟩
def Col.pre (k : Col) (c : Nat) : List Nat := if k.t = k.p.length then k.p ++ [c] else k.p
def Col.add (k : Col) (s : Step) : Option Col :=
  if s.1 = 43 then some ⟨k.p, k.w ++ [s.2], k.t, k.n⟩
  else if (k.pre s.2)[k.t]? ≠ some s.2 then none else some ⟨k.pre s.2, k.w, if s.1 = 45 then k.t + 1 else k.t, max k.n (k.t + 1 - k.w.length)⟩
def colR (k : Col) (st : List Step) : Option Col := st.foldl (fun o s => o.bind fun k => k.add s) (some k)
theorem colR_snoc (k : Col) (st : List Step) (s : Step) : colR k (st ++ [s]) = (colR k st).bind fun k => k.add s := by
  unfold colR
  rw [List.foldl_append]
  rfl
theorem colfold_none (st : List Step) : st.foldl (fun (o : Option Col) s => o.bind fun k => k.add s) none = none := by
  induction st with
  | nil => rfl
  | cons s r ih => exact ih
theorem colR_app (k : Col) (a b : List Step) : colR k (a ++ b) = (colR k a).bind fun k => colR k b := by
  unfold colR
  rw [List.foldl_append]
  cases List.foldl (fun (o : Option Col) s => o.bind fun k => k.add s) (some k) a with
  | none => exact colfold_none b
  | some r => rfl
theorem colR_split {k r : Col} {a b : List Step} (h : colR k (a ++ b) = some r) : ∃ k', colR k a = some k' ∧ colR k' b = some r := by
  rw [colR_app] at h
  exact Option.bind_eq_some_iff.mp h
theorem colR_take {k r : Col} {st : List Step} (h : colR k st = some r) (i : Nat) : ∃ r', colR k (st.take i) = some r' := by
  rw [← List.take_append_drop i st] at h
  obtain ⟨q', h1, _⟩ := colR_split h
  exact ⟨q', h1⟩
structure Col.inv (k : Col) : Prop where
  t1 : k.t ≤ k.p.length
  t2 : k.p.length ≤ k.t + 1
  n1 : k.n ≤ k.p.length
  n2 : k.p.length ≤ k.n + k.w.length
  p2 : k.p.all isIt = true
  w2 : k.w.all isIt = true
theorem Col0.inv : Col0.inv := ⟨Nat.le_refl _, Nat.zero_le _, Nat.le_refl _, Nat.zero_le _, rfl, rfl⟩
theorem Col.pre_len {k : Col} (i : k.inv) (c : Nat) : k.t + 1 = (k.pre c).length ∧ k.p <+: k.pre c := by
  have := i.t1
  have := i.t2
  unfold Col.pre
  split
  · rename_i h
    exact ⟨by rw [List.length_append, h]; rfl, List.prefix_append _ _⟩
  · exact ⟨by omega, List.prefix_rfl⟩
theorem Col.add_put {k : Col} {s : Step} (h : s.1 = 43) : k.add s = some ⟨k.p, k.w ++ [s.2], k.t, k.n⟩ := by
  unfold Col.add
  rw [if_pos h]
theorem Col.add_take {k r : Col} {s : Step} (h : s.1 ≠ 43) (e : k.add s = some r) : (k.pre s.2)[k.t]? = some s.2 ∧ r = ⟨k.pre s.2, k.w, if s.1 = 45 then k.t + 1 else k.t, max k.n (k.t + 1 - k.w.length)⟩ := by
  unfold Col.add at e
  rw [if_neg h] at e
  split at e
  · cases e
  · rename_i g
    exact ⟨Decidable.not_not.mp g, (Option.some.inj e).symm⟩
theorem Col.add_inv {k r : Col} {s : Step} (i : k.inv) (hs : s.ok) (h : k.add s = some r) : r.inv := by
  by_cases g : s.1 = 43
  · rw [Col.add_put g] at h
    cases h
    have := i.n2
    exact ⟨i.t1, i.t2, i.n1, by simp only [List.length_append]; omega, i.p2, by simp only [List.all_append, i.w2, List.all_cons, hs.2]; rfl⟩
  · obtain ⟨h1, rfl⟩ := Col.add_take g h
    obtain ⟨l1, l2⟩ := Col.pre_len i s.2
    have l3 := l2.length_le
    have := i.t1
    have := i.t2
    have := i.n1
    have := i.n2
    refine ⟨?_, ?_, ?_, ?_, ?_, i.w2⟩
    · show (if s.1 = 45 then k.t + 1 else k.t) ≤ (k.pre s.2).length
      split <;> omega
    · show (k.pre s.2).length ≤ (if s.1 = 45 then k.t + 1 else k.t) + 1
      split <;> omega
    · show max k.n (k.t + 1 - k.w.length) ≤ (k.pre s.2).length
      omega
    · show (k.pre s.2).length ≤ max k.n (k.t + 1 - k.w.length) + k.w.length
      omega
    · show (k.pre s.2).all isIt = true
      unfold Col.pre
      split
      · rw [List.all_append, i.p2, List.all_cons, hs.2]; rfl
      · exact i.p2
theorem colR_inv {st : List Step} : ∀ {k r : Col}, k.inv → (∀ s ∈ st, s.ok) → colR k st = some r → r.inv := by
  induction st with
  | nil => intro k r i _ h; cases h; exact i
  | cons s t ih =>
    intro k r i hs h
    obtain ⟨k', h1, h2⟩ := colR_split (a := [s]) h
    exact ih (Col.add_inv i (hs s List.mem_cons_self) h1) (fun x hx => hs x (List.mem_cons_of_mem _ hx)) h2
theorem Col.add_len {k r : Col} {s : Step} (h : k.add s = some r) : r.w.length ≤ k.w.length + 1 ∧ r.p.length ≤ k.p.length + 1 := by
  by_cases g : s.1 = 43
  · rw [Col.add_put g] at h
    cases h
    exact ⟨by simp, Nat.le_succ _⟩
  · obtain ⟨_, rfl⟩ := Col.add_take g h
    refine ⟨Nat.le_succ _, ?_⟩
    show (k.pre s.2).length ≤ _
    unfold Col.pre
    split <;> simp
theorem colR_len {st : List Step} : ∀ {k r : Col}, colR k st = some r → r.w.length ≤ k.w.length + st.length ∧ r.p.length ≤ k.p.length + st.length := by
  induction st with
  | nil => intro k r h; cases h; exact ⟨Nat.le_refl _, Nat.le_refl _⟩
  | cons s t ih =>
    intro k r h
    obtain ⟨k', h1, h2⟩ := colR_split (a := [s]) h
    have a := Col.add_len h1
    have b := ih h2
    rw [List.length_cons]
    omega
def effOf (k : Col) : Eff := ⟨k.p, k.w, k.t, leastS k.p k.w k.n⟩
theorem effOf_ok {k : Col} (i : k.inv) (hp : k.p.length ≤ 2000) (hw : k.w.length ≤ 2000) : (effOf k).ok :=
  ⟨hp, i.p2, hw, i.w2, i.t1, i.t2, leastS_le _ _ _ _ i.n1 (suit_len _ _), leastS_suit _ _ _⟩
/-! ### a run and its collector -/
structure Fit (q0 q : List Nat) (k : Col) : Prop where
  pre : k.p <+: q0 ++ k.w
  now : q = (q0 ++ k.w).drop k.t
  need : k.n ≤ q0.length
theorem fit0 (q : List Nat) : Fit q q Col0 := ⟨List.nil_prefix, by show q = (q ++ []).drop 0; simp, Nat.zero_le _⟩
theorem prefix_get {α : Type} {a b : List α} (h : a <+: b) {i : Nat} (hi : i < a.length) : b[i]? = a[i]? := by
  obtain ⟨t, rfl⟩ := h
  rw [List.getElem?_append_left hi]
theorem prefix_snoc {α : Type} {a b : List α} {c : α} (h : a <+: b) (hc : b[a.length]? = some c) : a ++ [c] <+: b := by
  obtain ⟨t, rfl⟩ := h
  rw [List.getElem?_append_right (Nat.le_refl _), Nat.sub_self] at hc
  cases t with
  | nil => cases hc
  | cons x r =>
    cases hc
    exact ⟨r, by simp⟩
theorem fit_add {q0 q r : List Nat} {k : Col} {s : Step} (i : k.inv) (f : Fit q0 q k) (hs : s.ok) (h : after q s = some r) : ∃ k', k.add s = some k' ∧ Fit q0 r k' := by
  have t1 := i.t1
  have t2 := i.t2
  by_cases g : s.1 = 43
  · refine ⟨_, Col.add_put g, ?_, ?_, f.need⟩
    · show k.p <+: q0 ++ (k.w ++ [s.2])
      rw [← List.append_assoc]
      exact f.pre.trans (List.prefix_append _ _)
    · unfold after at h
      rw [if_pos g] at h
      cases h
      have hl : k.t ≤ (q0 ++ k.w).length := Nat.le_trans t1 f.pre.length_le
      show q ++ [s.2] = (q0 ++ (k.w ++ [s.2])).drop k.t
      rw [← List.append_assoc, List.drop_append_of_le_length hl, ← f.now]
  · unfold after at h
    rw [if_neg g] at h
    split at h
    · cases h
    · rename_i hq
      have hq := Decidable.not_not.mp hq
      have h0 : q[0]? = some s.2 := by
        cases q with
        | nil => cases hq
        | cons x t => cases hq; rfl
      have ht : (q0 ++ k.w)[k.t]? = some s.2 := by
        rw [f.now, List.getElem?_drop] at h0
        exact h0
      have hlt : k.t < (q0 ++ k.w).length := (List.getElem?_eq_some_iff.mp ht).1
      rw [List.length_append] at hlt
      have hpre : (k.pre s.2) <+: q0 ++ k.w := by
        unfold Col.pre
        split
        · rename_i e
          exact prefix_snoc f.pre (e ▸ ht)
        · exact f.pre
      have hg : (k.pre s.2)[k.t]? = some s.2 := by
        have l1 := (Col.pre_len i s.2).1
        rw [← prefix_get hpre (by omega)]
        exact ht
      refine ⟨⟨k.pre s.2, k.w, if s.1 = 45 then k.t + 1 else k.t, max k.n (k.t + 1 - k.w.length)⟩, ?_, hpre, ?_, ?_⟩
      · unfold Col.add
        rw [if_neg g, if_neg (fun z => z hg)]
      · show r = (q0 ++ k.w).drop (if s.1 = 45 then k.t + 1 else k.t)
        rcases hs.1 with e | e | e
        · exact absurd e g
        · rw [if_pos e]
          rw [if_neg (by omega)] at h
          cases h
          rw [f.now, List.drop_drop]
        · rw [if_neg (by omega)]
          rw [if_pos e] at h
          cases h
          exact f.now
      · show max k.n (k.t + 1 - k.w.length) ≤ q0.length
        have := f.need
        omega
theorem fit_run {q0 : List Nat} {st : List Step} : ∀ {q r : List Nat} {k : Col}, k.inv → Fit q0 q k → (∀ s ∈ st, s.ok) → runS q st = some r → ∃ k', colR k st = some k' ∧ Fit q0 r k' := by
  induction st with
  | nil => intro q r k i f _ h; cases h; exact ⟨k, rfl, f⟩
  | cons s t ih =>
    intro q r k i f hs h
    obtain ⟨q', h1, h2⟩ := runS_split (a := [s]) h
    obtain ⟨k', e1, f1⟩ := fit_add i f (hs s List.mem_cons_self) h1
    obtain ⟨k2, e2, f2⟩ := ih (Col.add_inv i (hs s List.mem_cons_self) e1) f1 (fun x hx => hs x (List.mem_cons_of_mem _ hx)) h2
    refine ⟨k2, ?_, f2⟩
    rw [show s :: t = [s] ++ t from rfl, colR_app, show colR k [s] = some k' from e1]
    exact e2
def Eff.acc (e : Eff) (q : List Nat) : Bool := decide (e.c ≤ q.length) && decide (e.p <+: q ++ e.w)
theorem prefix_drop {α : Type} {a b : List α} (h : a <+: b) (n : Nat) : a.drop n <+: b.drop n := by
  obtain ⟨t, rfl⟩ := h
  by_cases hn : n ≤ a.length
  · rw [List.drop_append_of_le_length hn]
    exact List.prefix_append _ _
  · rw [List.drop_of_length_le (by omega)]
    exact List.nil_prefix
/-- the effect of a run takes its first queue to its last -/
theorem fit_acc {q0 q : List Nat} {k : Col} (f : Fit q0 q k) : (effOf k).acc q0 = true := by
  unfold Eff.acc
  have h1 : leastS k.p k.w k.n ≤ q0.length := by
    refine leastS_le _ _ _ _ f.need (suitB_iff.mpr ?_)
    by_cases h : k.p.length ≤ q0.length
    · exact .inl h
    · refine .inr ?_
      have e : q0 = k.p.take q0.length := by
        obtain ⟨t, ht⟩ := f.pre
        have := congrArg (List.take q0.length) ht
        rw [List.take_append_of_le_length (by omega), List.take_append_of_le_length (Nat.le_refl _), List.take_length] at this
        exact this.symm
      have := prefix_drop f.pre q0.length
      rw [List.drop_append_of_le_length (Nat.le_refl _), List.drop_length, List.nil_append] at this
      exact this
  rw [show (effOf k).c = leastS k.p k.w k.n from rfl, decide_eq_true h1, Bool.true_and]
  exact decide_eq_true f.pre
/-! ### composition -/
def Eff.comp (a b : Eff) : Eff :=
  let p := if b.p = [] then a.p else a.p.take a.t ++ b.p
  let w := a.w ++ b.w
  ⟨p, w, a.t + b.t, leastS p w (max a.c (b.c + a.t - a.w.length))⟩
/-- how the collector of the later steps lies in the whole one's -/
structure Tail (k1 k2 k : Col) : Prop where
  p : k.p = if k2.p = [] then k1.p else k1.p.take k1.t ++ k2.p
  w : k.w = k1.w ++ k2.w
  t : k.t = k1.t + k2.t
  n : k.n = max k1.n (k2.n + k1.t - k1.w.length)
  ok : k2.p ≠ [] → k1.p <+: k.p
theorem tail0 {k : Col} (i : k.inv) : Tail k Col0 k := by
  have := i.t1
  have := i.n2
  refine ⟨?_, by show k.w = k.w ++ []; simp, rfl, ?_, fun h => absurd rfl h⟩
  · show k.p = if ([] : List Nat) = [] then k.p else _
    rw [if_pos rfl]
  · show k.n = max k.n (0 + k.t - k.w.length)
    omega
theorem tail_add {k1 k2 k k' : Col} {s : Step} (i1 : k1.inv) (i2 : k2.inv) (i : k.inv) (t : Tail k1 k2 k) (h : k.add s = some k') : ∃ k2', k2.add s = some k2' ∧ Tail k1 k2' k' := by
  have a1 := i1.t1
  have a2 := i1.t2
  have b1 := i2.t1
  have b2 := i2.t2
  have a3 := i1.n2
  have b3 := i2.n2
  by_cases g : s.1 = 43
  · rw [Col.add_put g] at h
    cases h
    exact ⟨_, Col.add_put g, t.p, by show k.w ++ [s.2] = k1.w ++ (k2.w ++ [s.2]); rw [t.w, List.append_assoc], t.t, t.n, t.ok⟩
  · obtain ⟨hg, rfl⟩ := Col.add_take g h
    have hw : k.w.length = k1.w.length + k2.w.length := by rw [t.w, List.length_append]
    have ht := t.t
    have hn : max k.n (k.t + 1 - k.w.length) = max k1.n (max k2.n (k2.t + 1 - k2.w.length) + k1.t - k1.w.length) := by
      rw [t.n, hw, ht]
      omega
    by_cases e : k2.p = []
    · have hp : k.p = k1.p := by rw [t.p, if_pos e]
      have t0 : k2.t = 0 := by rw [e] at b1; exact Nat.le_zero.mp b1
      have hpre2 : k2.pre s.2 = [s.2] := by
        unfold Col.pre
        rw [if_pos (by rw [e, t0]; rfl), e]; rfl
      have htt : k.t = k1.t := by rw [ht, t0]; rfl
      have hpp : k.pre s.2 = k1.p.take k1.t ++ [s.2] := by
        unfold Col.pre at hg ⊢
        rw [hp, htt] at hg ⊢
        split at hg
        · rename_i z
          rw [if_pos z, z, List.take_length]
        · rename_i z
          rw [if_neg z]
          have hl : k1.t + 1 = k1.p.length := by omega
          conv => lhs; rw [← List.take_length (l := k1.p), ← hl]
          rw [take_snoc hg]
      refine ⟨⟨[s.2], k2.w, if s.1 = 45 then k2.t + 1 else k2.t, max k2.n (k2.t + 1 - k2.w.length)⟩, ?_, ?_, t.w, ?_, hn, fun _ => ?_⟩
      · unfold Col.add
        rw [if_neg g, hpre2, t0, if_neg (fun z => z rfl)]
      · show k.pre s.2 = if [s.2] = [] then _ else _
        rw [if_neg (by simp), hpp]
      · show (if s.1 = 45 then k.t + 1 else k.t) = k1.t + if s.1 = 45 then k2.t + 1 else k2.t
        split <;> omega
      · show k1.p <+: k.pre s.2
        rw [← hp]
        exact (Col.pre_len i s.2).2
    · have hp : k.p = k1.p.take k1.t ++ k2.p := by rw [t.p, if_neg e]
      have hl : k.p.length = k1.t + k2.p.length := by rw [hp, List.length_append, List.length_take]; omega
      have hpp : k.pre s.2 = k1.p.take k1.t ++ k2.pre s.2 := by
        unfold Col.pre
        by_cases z : k2.t = k2.p.length
        · rw [if_pos z, if_pos (by omega), hp, List.append_assoc]
        · rw [if_neg z, if_neg (by omega), hp]
      have hg2 : (k2.pre s.2)[k2.t]? = some s.2 := by
        rw [hpp, ht, List.getElem?_append_right (by rw [List.length_take]; omega), List.length_take, Nat.min_eq_left a1, Nat.add_sub_cancel_left] at hg
        exact hg
      have hne : k2.pre s.2 ≠ [] := fun z => by rw [z] at hg2; cases hg2
      refine ⟨⟨k2.pre s.2, k2.w, if s.1 = 45 then k2.t + 1 else k2.t, max k2.n (k2.t + 1 - k2.w.length)⟩, ?_, ?_, t.w, ?_, hn, fun _ => ?_⟩
      · unfold Col.add
        rw [if_neg g, if_neg (fun z => z hg2)]
      · show k.pre s.2 = if k2.pre s.2 = [] then _ else _
        rw [if_neg hne, hpp]
      · show (if s.1 = 45 then k.t + 1 else k.t) = k1.t + if s.1 = 45 then k2.t + 1 else k2.t
        split <;> omega
      · exact (t.ok e).trans (Col.pre_len i s.2).2
theorem tail_run {k1 : Col} (i1 : k1.inv) {st : List Step} : ∀ {k2 k k' : Col}, k2.inv → k.inv → Tail k1 k2 k → (∀ s ∈ st, s.ok) → colR k st = some k' → ∃ k2', colR k2 st = some k2' ∧ Tail k1 k2' k' ∧ k2'.inv := by
  induction st with
  | nil => intro k2 k k' i2 i t _ h; cases h; exact ⟨k2, rfl, t, i2⟩
  | cons s r ih =>
    intro k2 k k' i2 i t hs h
    obtain ⟨km, h1, h2⟩ := colR_split (a := [s]) h
    have so := hs s List.mem_cons_self
    obtain ⟨k2m, e1, t1⟩ := tail_add i1 i2 i t h1
    obtain ⟨k2', e2, t2, i3⟩ := ih (Col.add_inv i2 so e1) (Col.add_inv i so h1) t1 (fun x hx => hs x (List.mem_cons_of_mem _ hx)) h2
    refine ⟨k2', ?_, t2, i3⟩
    rw [show s :: r = [s] ++ r from rfl, colR_app, show colR k2 [s] = some k2m from e1]
    exact e2
theorem comp_eq {k1 k2 k : Col} (i1 : k1.inv) (i2 : k2.inv) (t : Tail k1 k2 k) : (effOf k1).comp (effOf k2) = effOf k := by
  have a1 := i1.t1
  have a3 := i1.n2
  have b1 := i2.t1
  have hp1 : k1.p <+: k.p := by
    by_cases e : k2.p = []
    · rw [t.p, if_pos e]
      exact List.prefix_rfl
    · exact t.ok e
  have hw1 : k1.w <+: k.w := by rw [t.w]; exact List.prefix_append _ _
  have key : leastS k.p k.w (max (leastS k1.p k1.w k1.n) (leastS k2.p k2.w k2.n + k1.t - k1.w.length)) = leastS k.p k.w k.n := by
    have ge := leastS_ge k.p k.w k.n
    have su := leastS_suit k.p k.w k.n
    obtain ⟨c, hc⟩ : ∃ c, c = leastS k.p k.w k.n := ⟨_, rfl⟩
    rw [← hc] at ge su
    rw [← hc]
    have hn := t.n
    have c1 : leastS k1.p k1.w k1.n ≤ c := by
      refine leastS_le _ _ _ _ (by omega) (suitB_iff.mpr ?_)
      by_cases h : k1.p.length ≤ c
      · exact .inl h
      · refine .inr ?_
        rcases suitB_iff.mp su with z | z
        · have := hp1.length_le
          omega
        · have z2 := (prefix_drop hp1 c).trans z
          rw [t.w] at z2
          have hl : (k1.p.drop c).length ≤ k1.w.length := by rw [List.length_drop]; omega
          exact List.prefix_of_prefix_length_le z2 (List.prefix_append _ _) hl
    have c2 : leastS k2.p k2.w k2.n ≤ c + k1.w.length - k1.t := by
      refine leastS_le _ _ _ _ (by omega) (suitB_iff.mpr ?_)
      by_cases e : k2.p = []
      · rw [e]; exact .inl (Nat.zero_le _)
      · have hp : k.p = k1.p.take k1.t ++ k2.p := by rw [t.p, if_neg e]
        have hl : k.p.length = k1.t + k2.p.length := by rw [hp, List.length_append, List.length_take]; omega
        rcases suitB_iff.mp su with z | z
        · exact .inl (by omega)
        · refine .inr ?_
          have z2 := prefix_drop z k1.w.length
          rw [List.drop_drop, t.w, List.drop_append_of_le_length (Nat.le_refl _), List.drop_length, List.nil_append, hp] at z2
          have hc : k1.t ≤ c + k1.w.length := by omega
          rw [List.drop_append, List.length_take, Nat.min_eq_left a1, List.drop_of_length_le (by rw [List.length_take]; omega), List.nil_append] at z2
          exact z2
    have le1 : leastS k.p k.w (max (leastS k1.p k1.w k1.n) (leastS k2.p k2.w k2.n + k1.t - k1.w.length)) ≤ c := leastS_le _ _ _ _ (by omega) su
    have g1 := leastS_ge k1.p k1.w k1.n
    have g2 := leastS_ge k2.p k2.w k2.n
    have g3 := leastS_ge k.p k.w (max (leastS k1.p k1.w k1.n) (leastS k2.p k2.w k2.n + k1.t - k1.w.length))
    refine Nat.le_antisymm le1 ?_
    rw [hc]
    exact leastS_le _ _ _ _ (by omega) (leastS_suit _ _ _)
  show (⟨_, _, _, _⟩ : Eff) = ⟨_, _, _, _⟩
  have e1 : (if k2.p = [] then k1.p else k1.p.take k1.t ++ k2.p) = k.p := t.p.symm
  have e2 : k1.w ++ k2.w = k.w := t.w.symm
  have e3 : k1.t + k2.t = k.t := t.t.symm
  show (⟨if k2.p = [] then k1.p else k1.p.take k1.t ++ k2.p, k1.w ++ k2.w, k1.t + k2.t, leastS (if k2.p = [] then k1.p else k1.p.take k1.t ++ k2.p) (k1.w ++ k2.w) (max (leastS k1.p k1.w k1.n) (leastS k2.p k2.w k2.n + k1.t - k1.w.length))⟩ : Eff) = _
  rw [e1, e2, e3, key]
  try rfl
end Qe

namespace Qe
open PySem PySem.Spec PyProof.Rows L2 He
/-! ## marks: letters and places, in order -/
abbrev Mk1 : Type := Nat × Nat
def mkE (m : Mk1) : Key × V := (Sum.inr (sS [m.1]), V.int m.2)
def mkK (mk : List Mk1) : List (Key × V) := mk.map mkE
abbrev kN (n : Nat) : Key := Sum.inr (sS [n])
def mLook (mk : List Mk1) (n : Nat) : Option Nat := (mk.find? fun m => decide (m.1 = n)).map (·.2)
def putM (mk : List Mk1) (n p : Nat) : List Mk1 := if (mk.any fun m => decide (m.1 = n)) = true then mk.map (fun m => if m.1 = n then (m.1, p) else m) else mk ++ [(n, p)]
theorem kN_inj {a b : Nat} (h : kN a = kN b) : a = b := (List.cons.inj (sS_inj (Sum.inr.inj h))).1
theorem kN_dec (a b : Nat) : decide (kN a = kN b) = decide (a = b) := decide_eq_decide.mpr ⟨kN_inj, fun h => by rw [h]⟩
theorem valV_mk (mk : List Mk1) (n : Nat) : valV (mkK mk) (kN n) = (mLook mk n).map fun p => V.int (p : Nat) := by
  unfold valV mLook mkK
  induction mk with
  | nil => rfl
  | cons m r ih =>
    rw [List.map_cons, List.find?_cons, List.find?_cons]
    show Option.map _ (match decide (kN m.1 = kN n) with | true => _ | false => _) = _
    rw [kN_dec]
    cases decide (m.1 = n) with
    | true => rfl
    | false => exact ih
theorem any_mk (mk : List Mk1) (n : Nat) : ((mkK mk).any fun kv => decide (kv.1 = kN n)) = mk.any fun m => decide (m.1 = n) := by
  unfold mkK
  rw [List.any_map]
  congr 1
  funext m
  exact kN_dec m.1 n
theorem putK_mk (mk : List Mk1) (n p : Nat) : putK (mkK mk) (kN n) (V.int (p : Nat)) = mkK (putM mk n p) := by
  unfold putK putM
  rw [any_mk]
  by_cases h : (mk.any fun m => decide (m.1 = n)) = true
  · rw [if_pos h, if_pos h]
    unfold mkK
    rw [List.map_map,
          List.map_map]
    refine List.map_congr_left fun m _ => ?_
    show (if kN m.1 = kN n then ((mkE m).1, V.int (p : Nat)) else mkE m) = mkE (if m.1 = n then (m.1, p) else m)
    by_cases e : m.1 = n
    · rw [if_pos (by rw [e]), if_pos e]; rfl
    · rw [if_neg (fun z => e (kN_inj z)), if_neg e]
  · rw [if_neg h, if_neg h]
    unfold mkK
    rw [List.map_append]
    rfl
theorem mLook_any (mk : List Mk1) (n : Nat) : (mLook mk n).isSome = mk.any fun m => decide (m.1 = n) := by
  unfold mLook
  rw [Option.isSome_map]
  induction mk with
  | nil => rfl
  | cons m r ih =>
    rw [List.find?_cons, List.any_cons]
    cases decide (m.1 = n) with
    | true => rfl
    | false => exact ih
theorem mLook_mem {mk : List Mk1} {n p : Nat} (h : mLook mk n = some p) : (n, p) ∈ mk := by
  unfold mLook at h
  obtain ⟨m, h1, h2⟩ := Option.map_eq_some_iff.mp h
  have : m.1 = n := by simpa using List.find?_some h1
  have hm := List.mem_of_find?_eq_some h1
  rw [← h2, ← this]
  exact hm
theorem mLook_of {mk : List Mk1} {n p : Nat} (nd : (mk.map (·.1)).Nodup) (h : (n, p) ∈ mk) : mLook mk n = some p := by
  unfold mLook
  induction mk with
  | nil => cases h
  | cons m r ih =>
    rw [List.map_cons,
          List.nodup_cons] at nd
    rw [List.find?_cons]
    rcases (List.mem_cons.mp h) with e | e
    · rw [← e, decide_eq_true rfl]; rfl
    · have ne : m.1 ≠ n := fun z => nd.1 (z ▸ List.mem_map.mpr ⟨(n, p), e, rfl⟩)
      rw [decide_eq_false ne]
      exact ih nd.2 e
theorem putM_keys {mk : List Mk1} {n p : Nat} : (putM mk n p).map (·.1) = if (mk.any fun m => decide (m.1 = n)) = true then mk.map (·.1) else mk.map (·.1) ++ [n] := by
  unfold putM
  by_cases h : (mk.any fun m => decide (m.1 = n)) = true
  · rw [if_pos h, if_pos h, List.map_map]
    refine List.map_congr_left fun m _ => ?_
    show (if m.1 = n then (m.1, p) else m).1 = m.1
    split <;> rfl
  · rw [if_neg h, if_neg h, List.map_append]; rfl
theorem putM_nodup {mk : List Mk1} {n p : Nat} (nd : (mk.map (·.1)).Nodup) : ((putM mk n p).map (·.1)).Nodup := by
  rw [putM_keys]
  split
  · exact nd
  · rename_i h
    refine List.nodup_append.mpr ⟨nd, by simp, ?_⟩
    intro a ha b hb e
    rw [List.mem_singleton] at hb
    subst hb
    subst e
    obtain ⟨m, hm, e2⟩ := List.mem_map.mp ha
    exact h (List.any_eq_true.mpr ⟨m, hm, decide_eq_true e2⟩)
theorem putM_mem {mk : List Mk1} {n p : Nat} {m : Mk1} (h : m ∈ putM mk n p) : m = (n, p) ∨ m ∈ mk := by
  unfold putM at h
  split at h
  · obtain ⟨x, hx, e⟩ := List.mem_map.mp h
    split at e
    · rename_i z
      rw [← e, z]; exact .inl rfl
    · rw [← e]; exact .inr hx
  · rcases List.mem_append.mp h with e | e
    · exact .inr e
    · exact .inl (List.mem_singleton.mp e)
/-- rising letters -/
def Up (mk : List Mk1) : Prop := mk.Pairwise fun a b => a.1 ≤ b.1
theorem up_unique : ∀ {l m : List Mk1}, l.Perm m → (m.map (·.1)).Nodup → Up l → Up m → l = m
  | [], m, p, _, _, _ => (List.nil_perm.mp p).symm
  | x :: l, [], p, _, _, _ => absurd p.length_eq (by simp)
  | x :: l, y :: m, p, nd, u, v => by
    have hx : x ∈ y :: m := p.subset List.mem_cons_self
    have hy : y ∈ x :: l := p.symm.subset List.mem_cons_self
    rw [List.map_cons,
          List.nodup_cons] at nd
    have e : x = y := by
      rcases List.mem_cons.mp hx with e | e
      · exact e
      · rcases List.mem_cons.mp hy with e2 | e2
        · exact e2.symm
        · have h1 := (List.pairwise_cons.mp v).1 x e
          have h2 := (List.pairwise_cons.mp u).1 y e2
          exact absurd (List.mem_map.mpr ⟨x, e, Nat.le_antisymm h2 h1⟩) nd.1
    subst e
    rw [up_unique (List.Perm.cons_inv p) nd.2 (List.pairwise_cons.mp u).2 (List.pairwise_cons.mp v).2]
def ins1 (m : Mk1) : List Mk1 → List Mk1
  | [] => [m]
  | x :: r => if m.1 ≤ x.1 then m :: x :: r else x :: ins1 m r
def sortM : List Mk1 → List Mk1
  | [] => []
  | m :: r => ins1 m (sortM r)
theorem ins1_perm (m : Mk1) : ∀ l, (ins1 m l).Perm (m :: l)
  | [] => .refl _
  | x :: r => by
    unfold ins1
    split
    · exact .refl _
    · exact (List.Perm.cons x (ins1_perm m r)).trans (.swap m x r)
theorem sortM_perm : ∀ l, (sortM l).Perm l
  | [] => .refl _
  | m :: r => (ins1_perm m _).trans (.cons m (sortM_perm r))
theorem ins1_up (m : Mk1) : ∀ l, Up l → Up (ins1 m l)
  | [], _ => List.pairwise_singleton _ _
  | x :: r, u => by
    obtain ⟨u1, u2⟩ := List.pairwise_cons.mp u
    unfold ins1
    split
    · rename_i h
      exact List.pairwise_cons.mpr ⟨fun y hy => by
        rcases (List.mem_cons.mp hy) with e | e
        · rw [e]; exact h
        · exact Nat.le_trans h (u1 y e), u⟩
    · rename_i h
      refine List.pairwise_cons.mpr ⟨fun y hy => ?_, ins1_up m r u2⟩
      rcases List.mem_cons.mp ((ins1_perm m r).subset hy) with e | e
      · rw [e]; omega
      · exact u1 y e
theorem sortM_up : ∀ l, Up (sortM l)
  | [] => List.Pairwise.nil
  | m :: r => ins1_up m _ (sortM_up r)
theorem perm_map {α β : Type} [DecidableEq α] {f : α → β} : ∀ {ys : List β} {mk : List α}, ys.Perm (mk.map f) → ∃ ms : List α, ms.Perm mk ∧ ys = ms.map f
  | [], mk, p => by
    have e : mk.map f = [] := (List.nil_perm.mp p)
    rw [List.map_eq_nil_iff] at e
    exact ⟨[], by rw [e], rfl⟩
  | y :: r, mk, p => by
    obtain ⟨m, hm, rfl⟩ := List.mem_map.mp (p.subset List.mem_cons_self)
    have pe := List.perm_cons_erase hm
    have p2 : (f m :: r).Perm (f m :: (mk.erase m).map f) := p.trans (pe.map f)
    obtain ⟨ms, q, rfl⟩ := perm_map (List.Perm.cons_inv p2)
    exact ⟨m :: ms, (List.Perm.cons m q).trans pe.symm, rfl⟩
theorem rising_up : ∀ (ms : List Mk1) (a : Nat), risingS (sS [a]) (ms.map fun m => sS [m.1]) = true → (∀ m ∈ ms, a ≤ m.1) ∧ Up ms
  | [], a, _ => ⟨(fun _ h => nomatch h), List.Pairwise.nil⟩
  | m :: r, a, h => by
    obtain ⟨h1, h2⟩ := Bool.and_eq_true_iff.mp (show (!ltCps [m.1] [a] && risingS (sS [m.1]) (r.map fun m => sS [m.1])) = true from h)
    obtain ⟨i1, i2⟩ := rising_up r m.1 h2
    have le : a ≤ m.1 := by
      unfold ltCps at h1
      have : (m.1 < a) = False := by
        by_cases z : m.1 < a
        · rw [decide_eq_true z] at h1; cases h1
        · simp [z]
      have : ¬ m.1 < a := by simp [this]
      omega
    refine ⟨fun x hx => ?_, List.pairwise_cons.mpr ⟨i1, i2⟩⟩
    rcases List.mem_cons.mp hx with e | e
    · rw [e]; exact le
    · exact Nat.le_trans le (i1 x e)
/-- names that are sorted are sortM's -/
theorem names_sorted {mk : List Mk1} {ys : List Str} (nd : (mk.map (·.1)).Nodup) (p : ys.Perm (mk.map fun m => sS [m.1])) (s : sortedS ys = true) : ys = (sortM mk).map fun m => sS [m.1] := by
  obtain ⟨ms, hp, rfl⟩ := perm_map p
  have up : Up ms := by
    cases ms with
    | nil => exact List.Pairwise.nil
    | cons m r =>
      have := rising_up r m.1 s
      exact List.pairwise_cons.mpr this
  rw [up_unique (hp.trans (sortM_perm mk).symm) (((sortM_perm mk).map (·.1)).nodup_iff.mpr nd) up (sortM_up mk)]
theorem sortM_nodup {mk : List Mk1} (nd : (mk.map (·.1)).Nodup) : ((sortM mk).map (·.1)).Nodup := ((sortM_perm mk).map (·.1)).nodup_iff.mpr nd
/-! ## the session in the heap -/
structure SesA where
  dx : Addr
  qa : Addr
  la : Addr
  ma : Addr
  aa : Addr
def sesF (c : SesA) : List (Str × V) := [("own_queues", .ref c.qa), ("own_log", .ref c.la), ("own_marks", .ref c.ma), ("own_attempts", .ref c.aa)]
def rowA (a : Nat × Nat) : List FD := [.i a.1, .i a.2]
structure isSes (K : PySem.W.Frag) (H : Hp) (s : Addr) (c : SesA) (qs : List (List Nat)) (log : List Step) (mk : List Mk1) (at_ : List (Nat × Nat)) : Prop where
  o : H s = some (.ins (ga K "Session") c.dx (sesF c))
  q : H c.qa = some (.lst (qs.map vS))
  l : StL H c.la log
  m : H c.ma = some (.dK (mkK mk))
  a : Rows K H c.aa (at_.map rowA)
  nq : c.qa ≠ c.aa
  nl : c.la ≠ c.aa
section
variable {K : PySem.W.Frag} {H H' : Hp} {s : Addr} {c : SesA} {qs : List (List Nat)} {log : List Step} {mk : List Mk1} {at_ : List (Nat × Nat)}
theorem isSes.same (h : isSes K H s c qs log mk at_) (e : Same H H') : isSes K H' s c qs log mk at_ := ⟨e _ _ h.o, e _ _ h.q, e _ _ h.l, e _ _ h.m, h.a.same e, h.nq, h.nl⟩
/-- what a session's writes may touch -/
abbrev Fr (c : SesA) (s : Addr) (H H' : Hp) : Prop := But3 s c.ma c.aa H H'
theorem Rows.but {x y z : Addr} {a : Addr} {rs : List (List FD)} (h : Rows K H a rs) (b : But3 x y z H H') (ha : a ≠ x ∧ a ≠ y ∧ a ≠ z) {ox oy oz : HO} (hx : H x = some ox) (hy : H y = some oy) (hz : H z = some oz) (nx : ∀ l, ox ≠ .tup l) (ny : ∀ l, oy ≠ .tup l) (nz : ∀ l, oz ≠ .tup l) : Rows K H' a rs := by
  obtain ⟨ts, h1, h2⟩ := h
  refine ⟨ts, b _ _ h1 ha.1 ha.2.1 ha.2.2, paired_imp (fun t r e => ?_) h2⟩
  exact b _ _ e (ne_of e hx (fun z => nx _ z.symm)) (ne_of e hy (fun z => ny _ z.symm)) (ne_of e hz (fun z => nz _ z.symm))
end
/-- the whole of a session's past: queues behind each step -/
structure Past (qs : List (List Nat)) (log : List Step) (q0 q : List Nat) : Prop where
  len : qs.length = log.length + 1
  at_ : ∀ i, i ≤ log.length → ∃ r, runS q0 (log.take i) = some r ∧ qs[i]? = some r
  last : runS q0 log = some q
theorem Past.lastq {qs log q0 q} (p : Past qs log q0 q) : qs.getLast? = some q := by
  rw [List.getLast?_eq_getElem?, p.len]
  obtain ⟨r, h1, h2⟩ := p.at_ log.length (Nat.le_refl _)
  rw [List.take_length, p.last] at h1
  cases h1
  exact h2
theorem Past.first {qs log q0 q} (p : Past qs log q0 q) : qs[0]? = some q0 := by
  obtain ⟨r, h1, h2⟩ := p.at_ 0 (Nat.zero_le _)
  cases h1
  exact h2
theorem past0 (q : List Nat) : Past [q] [] q q := ⟨rfl, fun i hi => by
  have : i = 0 := Nat.le_zero.mp hi
  subst this
  exact ⟨q, rfl, rfl⟩, rfl⟩
theorem Past.snoc {qs log q0 q r} {s : Step} (p : Past qs log q0 q) (h : after q s = some r) : Past (qs ++ [r]) (log ++ [s]) q0 r := by
  have e : runS q0 (log ++ [s]) = some r := by rw [runS_snoc, p.last]; exact h
  refine ⟨by simp [p.len], fun i hi => ?_, e⟩
  by_cases hl : i ≤ log.length
  · obtain ⟨x, h1, h2⟩ := p.at_ i hl
    refine ⟨x, by rw [List.take_append_of_le_length hl]; exact h1, ?_⟩
    rw [List.getElem?_append_left (by rw [p.len]; omega)]
    exact h2
  · have hi2 : i = log.length + 1 := by rw [List.length_append] at hi; simp at hi; omega
    subst hi2
    refine ⟨r, by rw [List.take_of_length_le (by simp)]; exact e, ?_⟩
    rw [List.getElem?_append_right (by rw [p.len]; exact Nat.le_refl _), p.len, Nat.sub_self]
    rfl
theorem Past.cut {qs log q0 q} (p : Past qs log q0 q) (n : Nat) (hn : n ≤ log.length) : ∃ r, Past (qs.take (n + 1)) (log.take n) q0 r ∧ qs[n]? = some r := by
  obtain ⟨r, h1, h2⟩ := p.at_ n hn
  refine ⟨r, ⟨by rw [List.length_take, List.length_take, p.len]; omega, fun i hi => ?_, h1⟩, h2⟩
  rw [List.length_take] at hi
  obtain ⟨x, k1, k2⟩ := p.at_ i (by omega)
  refine ⟨x, by rw [List.take_take, Nat.min_eq_left (by omega)]; exact k1, ?_⟩
  rw [List.getElem?_take, if_pos (by omega)]
  exact k2
end Qe
namespace Qe
open PySem PySem.Spec PyProof.Rows L2 He
def traceR (q : List Nat) : List Step → List (List Nat)
  | [] => []
  | s :: t => match after q s with
    | some r => r :: traceR r t
    | none => []
theorem trace_snoc : ∀ {st : List Step} {q q' r : List Nat} {s : Step}, runS q st = some q' → after q' s = some r → traceR q (st ++ [s]) = traceR q st ++ [r]
  | [], q, q', r, s, h, h2 => by
    cases h
    show (match after q s with | some r => r :: traceR r [] | none => []) = [] ++ [r]
    rw [h2]; rfl
  | x :: t, q, q', r, s, h, h2 => by
    obtain ⟨q1, e1, e2⟩ := runS_split (a := [x]) h
    have e1' : after q x = some q1 := e1
    show (match after q x with | some r => r :: traceR r (t ++ [s]) | none => []) = (match after q x with | some r => r :: traceR r t | none => []) ++ [r]
    rw [e1']
    show q1 :: traceR q1 (t ++ [s]) = (q1 :: traceR q1 t) ++ [r]
    rw [trace_snoc e2 h2]
    rfl
theorem past_run : ∀ {st : List Step} {qs log q0 q r}, Past qs log q0 q → runS q st = some r → Past (qs ++ traceR q st) (log ++ st) q0 r
  | [], qs, log, q0, q, r, p, h => by
    cases h
    rw [List.append_nil, show traceR q [] = [] from rfl, List.append_nil]
    exact p
  | x :: t, qs, log, q0, q, r, p, h => by
    obtain ⟨q1, e1, e2⟩ := runS_split (a := [x]) h
    have e1' : after q x = some q1 := e1
    have := past_run (p.snoc e1') e2
    rw [show traceR q (x :: t) = q1 :: traceR q1 t from by show (match after q x with | some r => r :: traceR r t | none => []) = _; rw [e1']]
    rw [List.append_assoc, List.append_assoc] at this
    exact this
theorem trace_last : ∀ {st : List Step} {q r : List Nat} {qs : List (List Nat)}, qs.getLast? = some q → runS q st = some r → (qs ++ traceR q st).getLast? = some r
  | [], q, r, qs, h, e => by cases e; rw [show traceR q [] = [] from rfl, List.append_nil]; exact h
  | x :: t, q, r, qs, h, e => by
    obtain ⟨q1, e1, e2⟩ := runS_split (a := [x]) e
    have e1' : after q x = some q1 := e1
    have := trace_last (qs := qs ++ [q1]) (by simp) e2
    rw [show traceR q (x :: t) = q1 :: traceR q1 t from by show (match after q x with | some r => r :: traceR r t | none => []) = _; rw [e1']]
    rw [List.append_assoc _ _ _] at this
    exact this
/-- the queues stay short -/
def fits (q : List Nat) (st : List Step) : Prop := ∀ i r, runS q (st.take i) = some r → r.length ≤ 2100
theorem fits_of {q : List Nat} {st : List Step} (h : q.length + st.length ≤ 2100) : fits q st := fun i r e => by
  have := runS_len e
  rw [List.length_take] at this
  omega
/-- the session behind some steps -/
def SesTo (K : PySem.W.Frag) (H : Hp) (s : Addr) (c : SesA) (qs : List (List Nat)) (log : List Step) (mk : List Mk1) (at_ : List (Nat × Nat)) (H' : Hp) : Prop :=
  ∃ c' : SesA, c'.dx = c.dx ∧ c'.ma = c.ma ∧ c'.aa = c.aa ∧ isSes K H' s c' qs log mk at_ ∧ Fr c s H H'
theorem last_map {qs : List (List Nat)} {q : List Nat} (h : qs.getLast? = some q) : atI (qs.map vS) (-1) = some (vS q) := atI_neg1 (by rw [List.getLast?_map, h]; rfl)
end Qe
namespace Qe
theorem trace_len : ∀ {st : List Step} {q r : List Nat}, runS q st = some r → (traceR q st).length = st.length
  | [], _, _, _ => rfl
  | x :: t, q, r, e => by
    obtain ⟨q1, e1, e2⟩ := runS_split (a := [x]) e
    have e1' : after q x = some q1 := e1
    rw [show traceR q (x :: t) = q1 :: traceR q1 t from by show (match after q x with | some r => r :: traceR r t | none => []) = _; rw [e1']]
    rw [List.length_cons, List.length_cons, trace_len e2]
end Qe

namespace Qe
open PySem PySem.Spec PyProof.Rows L2 He
theorem dc_it {J : It} {n : Nat} {G : Hp → Prop} {Y : Nat → Hp → V → Hp → Prop} (w : Walk J n G Y) {g : TG} {tt : TT} {tk tv : TE} {vs : List Nat} {σ : L2.St} {H1 : Hp} {D : Addr} {Qd : Hp → Prop} (Pv : Nat → Hp → Prop) (h0 : Pv 0 (upd H1 D (.dK []))) (hG : ∀ i H, i ≤ n → Pv i H → G H)
    (hs : ∀ i x H H', i < n → Pv i H → Y i H x H' → g x (wipe σ vs) H' fun σ2 H2 =>
          wipe σ2 vs = wipe σ vs ∧ tt σ2 H2 fun b H3 =>
      if b = true then tk σ2 H3 fun y H4 => tv σ2 H4 fun z H5 => ∃ kvs k, y = kV k ∧ H5 D = some (.dK kvs) ∧ kvs.length < sizeLine ∧ Pv (i + 1) (upd H5 D (.dK (putK kvs k z))) else Pv (i + 1) H3) (hd : ∀ H, Pv n H → Qd H) :
    ∃ W : Nat → Nat → Hp →
          Prop, (∃ m, W 0 m (upd H1 D (.dK []))) ∧ ∀ i m H, W i m H →
      (J.stop i H ∧ Qd H) ∨ (J.go i H ∧ ∃ Nx : Hp → Prop, (∀ H', Nx H' → ∃ m', m' < m ∧ W (i + 1) m' H') ∧ ∀ x H', J.yld i H x H' → g x (wipe σ vs) H' fun σ2 H2 =>
            wipe σ2 vs = wipe σ vs ∧ tt σ2 H2 fun b H3 =>
        if b = true then tk σ2 H3 fun y H4 => tv σ2 H4 fun z H5 => ∃ kvs k, y = kV k ∧ H5 D = some (.dK kvs) ∧ kvs.length < sizeLine ∧ Nx (upd H5 D (.dK (putK kvs k z))) else Nx H3) :=
              by
  refine ⟨fun i m H =>
        m = n - i ∧ i ≤ n ∧ Pv i H, ⟨n, by simp, Nat.zero_le _, h0⟩, ?_⟩
  rintro i m H ⟨rfl, hi, p⟩
  have q := hG i H hi p
  by_cases hlt : i < n
  · refine .inr ⟨w.goes i H hlt q, Pv (i + 1), fun H' p' =>
          ⟨n - (i + 1), by omega, rfl, hlt, p'⟩, fun x H' y => hs i x H H' hlt p (w.yields i H x H' hlt q y)⟩
  · have e : i = n := by omega
    subst e
    exact .inl ⟨w.stops H q,
          hd H p⟩
theorem mkKeys (mk : List Mk1) : (mkK mk).map (·.1) = (mk.map fun m => sS [m.1]).map Sum.inr := by
  unfold mkK
  rw [List.map_map,
        List.map_map]
  rfl
theorem dget_mk {H : Hp} {a : Addr} {mk : List Mk1} {m : Mk1} (h : H a = some (.dK (mkK mk))) (nd : (mk.map (·.1)).Nodup) (hm : m ∈ mk) : DGet H a (vS [m.1]) (some (V.int (m.2 : Nat))) := by
  have q := DGet.k (k := kN m.1) h
  rw [valV_mk, mLook_of nd (p := m.2) hm] at q
  exact q
theorem putM_new {mk : List Mk1} {n p : Nat} (h : ∀ x ∈ mk, x.1 ≠ n) : putM mk n p = mk ++ [(n, p)] := by
  unfold putM
  rw [if_neg]
  intro z
  obtain ⟨x, hx, e⟩ := List.any_eq_true.mp z
  exact h x hx (of_decide_eq_true e)
theorem take_ne {mk : List Mk1} (nd : (mk.map (·.1)).Nodup) {i : Nat} {m : Mk1} (h : mk[i]? = some m) : ∀ x ∈ mk.take i, x.1 ≠ m.1 := by
  intro x hx e
  obtain ⟨j, hj⟩ :=
        List.mem_iff_getElem?.mp hx
  rw [List.getElem?_take] at hj
  split at hj
  · rename_i hlt
    have a1 : (mk.map (·.1))[j]? = some m.1 := by rw [List.getElem?_map, hj]; exact congrArg some e
    have a2 : (mk.map (·.1))[i]? = some m.1 := by rw [List.getElem?_map, h]; rfl
    obtain ⟨b1, b2⟩ := List.getElem?_eq_some_iff.mp a1
    obtain ⟨b3, b4⟩ := List.getElem?_eq_some_iff.mp a2
    exact List.pairwise_iff_getElem.mp nd j i b1 b3 hlt (b2.trans b4.symm)
  · cases hj
theorem putK_take {mk : List Mk1} (nd : (mk.map (·.1)).Nodup) {i : Nat} {m : Mk1} (h : mk[i]? = some m) : putK (mkK (mk.take i)) (kN m.1) (V.int (m.2 : Nat)) = mkK (mk.take (i + 1)) := by
  rw [putK_mk, putM_new (take_ne nd h), take_snoc h]
theorem mkK_len (mk : List Mk1) : (mkK mk).length = mk.length := List.length_map ..
end Qe
namespace Qe
open PySem PySem.Spec PyProof.Rows L2 He
theorem pe_fldK {X : Cx} {e : Expr} {f : Str} {pos : Pos} {ta : TE} {K : PySem.W.Frag} (hK : X.K = K) (he : PE X e ta) (hb : attributeBase e f X.env (eval e X.env) = eval e X.env) : PE X (.Attribute e f pos) (tFld K ta f) := by
  subst hK
  exact pe_fld he hb
end Qe
namespace Qe
open PySem PySem.Spec PyProof.Rows L2 He
section
variable {K : PySem.W.Frag} {H H' : Hp} {s : Addr} {c : SesA} {qs : List (List Nat)} {log : List Step} {mk : List Mk1} {at_ : List (Nat × Nat)}
theorem Rows.butx {x a : Addr} {rs : List (List FD)} (h : Rows K H a rs) (b : But x H H') (ha : a ≠ x) {ox : HO} (hx : H x = some ox) (nx : ∀ l, ox ≠ .tup l) : Rows K H' a rs := by
  obtain ⟨ts, h1, h2⟩ := h
  exact ⟨ts, b _ _ h1 ha, paired_imp (fun t r e => b _ _ e (ne_of e hx (fun z => nx _ z.symm))) h2⟩
theorem isSes.neq (h : isSes K H s c qs log mk at_) : c.ma ≠ s ∧ c.aa ≠ s ∧ c.qa ≠ s ∧ c.la ≠ s := by
  obtain ⟨ts, h1, _⟩ := h.a
  exact ⟨ne_of h.m h.o (by intro z; cases z), ne_of h1 h.o (by intro z; cases z), ne_of h.q h.o (by intro z; cases z), ne_of h.l h.o (by intro z; cases z)⟩
/-- new queues, new log: the rest as it was -/
theorem isSes.upd {qs' : List (List Nat)} {log' : List Step} {qa la : Addr} (h : isSes K H s c qs log mk at_) (b : But s H H') (ho : H' s = some (.ins (ga K "Session") c.dx (sesF ⟨c.dx, qa, la, c.ma, c.aa⟩))) (hq : H' qa = some (.lst (qs'.map vS))) (hl : StL H' la log') (nq : qa ≠ c.aa) (nl : la ≠ c.aa) :
    isSes K H' s ⟨c.dx, qa, la, c.ma, c.aa⟩ qs' log' mk at_ := by
  obtain ⟨n1, n2, _, _⟩ := h.neq
  exact ⟨ho, hq, hl, b _ _ h.m n1, h.a.butx b n2 h.o (fun l z => by cases z), nq, nl⟩
theorem But.but3 {x y z : Addr} (h : But x H H') : But3 x y z H H' := fun b o e n _ _ => h b o e n
end
end Qe
namespace Qe
open PySem PySem.Spec PyProof.Rows L2 He
theorem But3.free {x y z d : Addr} {H H' : Hp} {ox oy oz : HO} (f : But3 x y z H H') (hx : H' x = some ox) (hy : H' y = some oy) (hz : H' z = some oz) (hd : H' d = none) : H d = none := by
  cases e : H d with
  | none => rfl
  | some o =>
    have := f d o e (fun q => by rw [q, hx] at hd; cases hd) (fun q => by rw [q, hy] at hd; cases hd) (fun q => by rw [q, hz] at hd; cases hd)
    rw [hd] at this; cases this
theorem SesTo.free {K : PySem.W.Frag} {H H' : Hp} {s d : Addr} {c : SesA} {qs : List (List Nat)} {log : List Step} {mk : List Mk1} {at_ : List (Nat × Nat)} (h : SesTo K H s c qs log mk at_ H') (hd : H' d = none) : H d = none := by
  obtain ⟨c', e1, e2, e3, hS, fr⟩ := h
  obtain ⟨ts, ha, _⟩ := hS.a
  exact fr.free hS.o (e2 ▸ hS.m) (e3 ▸ ha) hd
theorem SesTo.same {K : PySem.W.Frag} {H H' H2 : Hp} {s : Addr} {c : SesA} {qs : List (List Nat)} {log : List Step} {mk : List Mk1} {at_ : List (Nat × Nat)} (h : SesTo K H s c qs log mk at_ H') (e : Same H' H2) : SesTo K H s c qs log mk at_ H2 := by
  obtain ⟨c', e1, e2, e3, hS, fr⟩ := h
  exact ⟨c', e1, e2, e3, hS.same e, fr.trans (But3.of e)⟩
end Qe
namespace Qe
open PySem PySem.Spec PyProof.Rows L2 He
theorem SesTo.refl {K : PySem.W.Frag} {H : Hp} {s : Addr} {c : SesA} {qs : List (List Nat)} {log : List Step} {mk : List Mk1} {at_ : List (Nat × Nat)} (h : isSes K H s c qs log mk at_) : SesTo K H s c qs log mk at_ H := ⟨c, rfl, rfl, rfl, h, .refl⟩
theorem SesTo.pre {K : PySem.W.Frag} {H H1 H2 : Hp} {s : Addr} {c : SesA} {qs : List (List Nat)} {log : List Step} {mk : List Mk1} {at_ : List (Nat × Nat)} (e : Same H H1) (h : SesTo K H1 s c qs log mk at_ H2) : SesTo K H s c qs log mk at_ H2 := by
  obtain ⟨c', e1, e2, e3, hS, fr⟩ := h
  exact ⟨c', e1, e2, e3, hS, (But3.of e).trans fr⟩
theorem ne_new {H : Hp} {a p : Addr} {o : HO} (h : H a = some o) (hp : H p = none) : p ≠ a := (ne_of_none h hp).symm
theorem isSes.aa {K : PySem.W.Frag} {H : Hp} {s : Addr} {c : SesA} {qs : List (List Nat)} {log : List Step} {mk : List Mk1} {at_ : List (Nat × Nat)} (h : isSes K H s c qs log mk at_) {p : Addr} (hp : H p = none) : p ≠ c.aa := by
  obtain ⟨ts, ha, _⟩ := h.a
  exact ne_new ha hp
end Qe
namespace Qe
open PySem PySem.Spec PyProof.Rows L2 He
theorem pg_tupK {X : Cx} {es : List Expr} {k : Nat} {t : TGs} {pos : Pos} {K : PySem.W.Frag} (n : Nat) (hK : X.K = K) (hc : X.calm = true) (h : PGs X es t)
    (hn : (assignEach es X.env).length = n := by rfl) (hst : (assignEach es X.env).findIdx? (·.1) = none := by rfl) : PG X (.Tuple es k pos) (gTup K n t) := by
  subst hK
  exact pg_tup hc h hn hst
end Qe
namespace Qe
open PySem PySem.Spec PyProof.Rows L2 He
theorem Bld.self {x : Addr} {H0 H1 : Hp} {o : HO} {ns : List (Addr × HO)} (b : Bld x H0 (L2.upd H1 x o) ns) : (L2.upd H1 x o) x = some o := upd_same
theorem filter_snoc {mk : List Mk1} {i : Nat} {m : Mk1} (f : Mk1 → Bool) (h : mk[i]? = some m) : (mk.take (i + 1)).filter f = if f m = true then (mk.take i).filter f ++ [m] else (mk.take i).filter f := by
  rw [take_snoc h, List.filter_append]
  by_cases e : f m = true
  · rw [if_pos e, List.filter_cons_of_pos e]; rfl
  · rw [if_neg e, List.filter_cons_of_neg e]; simp
theorem putK_filter {mk : List Mk1} (nd : (mk.map (·.1)).Nodup) {i : Nat} {m : Mk1} (f : Mk1 → Bool) (h : mk[i]? = some m) (e : f m = true) : putK (mkK ((mk.take i).filter f)) (kN m.1) (V.int (m.2 : Nat)) = mkK ((mk.take (i + 1)).filter f) := by
  rw [putK_mk, putM_new (fun x hx => take_ne nd h x (List.mem_filter.mp hx).1), filter_snoc f h, if_pos e]
theorem items_get {mk : List Mk1} {i : Nat} {x y : V} (hi : i < (mkK mk).length) (e1 : (mkK mk)[i]?.map (fun kv => kV kv.1) = some x) (e2 : (mkK mk)[i]?.map Prod.snd = some y) : ∃ m, mk[i]? = some m ∧ x = vS [m.1] ∧ y = V.int (m.2 : Nat) := by
  unfold mkK at e1 e2
  rw [List.getElem?_map] at e1 e2
  cases h : mk[i]? with
  | none => rw [h] at e1; cases e1
  | some m =>
    rw [h] at e1 e2
    exact ⟨m, rfl, (Option.some.inj e1).symm, (Option.some.inj e2).symm⟩
end Qe
namespace Qe
open PySem PySem.Spec PyProof.Rows L2 He
theorem made_none {H : Hp} {x dx q C : Addr} {fs : List (Str × V)} (nx : H x = none) (nd : H dx = none) (hq : (upd (upd H dx (.own x)) x (.ins C dx fs)) q = none) : H q = none ∧ x ≠ q := by
  have n : x ≠ q := ne_of_none upd_same hq
  refine ⟨?_, n⟩
  cases e : H q with
  | none => rfl
  | some o =>
    rw [upd_ne n.symm, upd_ne (ne_of_none e nd), e] at hq
    cases hq
theorem dget_any {H : Hp} {a : Addr} {mk : List Mk1} (n : Nat) (h : H a = some (.dK (mkK mk))) : DGet H a (vS [n]) ((mLook mk n).map fun p => V.int (p : Nat)) := by
  have q := DGet.k (k := kN n) h
  rw [valV_mk] at q
  exact q
theorem dput_mk {H : Hp} {a : Addr} {mk : List Mk1} (n p : Nat) (h : H a = some (.dK (mkK mk))) (hl : mk.length ≤ 20000) : DPut H a (vS [n]) (V.int (p : Nat)) (upd H a (.dK (mkK (putM mk n p)))) := by
  have q := DPut.k (k := kN n) (v := V.int (p : Nat)) h (by rw [mkK_len]; exact small20 hl)
  rw [putK_mk] at q
  exact q
/-- a def called with one keyword behind self -/
structure FxK (P : Program) (w : World) (K : PySem.W.Frag) (mg : Str → Option Value) (base : Heap) (CX : CXT) (k : Nat) (f : Addr) (kw : Str) (sp : Sp) : Prop where
  ex : ∃ (fd : FuncData) (ps : List Str), FnOk P w K mg base CX k f fd ps sp ∧ KBn K fd ps 1 [kw] (fun us ws => us ++ ws) (fun vs zs => vs ++ zs)
theorem pmethK {X : Cx} {CX : CXT} {k j : Nat} {f C : Addr} {kw m : Str} {sp : Sp} {E : XK} {apos pos kpos : Pos} {o e : Expr} {ta te : TE} {pl : Sem Bool} (c : FxK X.prog X.w X.K X.mg X.base CX k f kw sp) (cl : Cls X.K C) (hm : Meth X.K C m f) (hr : Room j X.A) (hk : k ≤ j) (hx : Passes CX X E) (he : PE X o ta)
    (hkw : PK X [⟨some kw, e, kpos⟩] (tCons te tNil))
    (hall : (backToKw pos (keywordEach [⟨some kw, e, kpos⟩] X.env)).all (·.1.isSome) = true := by rfl) (hks : (backToKw pos (keywordEach [⟨some kw, e, kpos⟩] X.env)).filterMap (·.1) = [kw] := by rfl)
    (hpl : ((backTo pos (starEach [] X.env)).any (·.1) || (backToKw pos (keywordEach [⟨some kw, e, kpos⟩] X.env)).any (·.1.isNone)) = false := by rfl)
    (ht : eval (.Call (.Attribute o m apos) [] [⟨some kw, e, kpos⟩] pos) X.env = (do
      let ov ← eval o X.env
      standAt apos.atName
      let (f, first) ←
            holding [ov] (getMethod ov m pl)
      callWith pos f first (backTo pos (starEach [] X.env)) (backToKw pos (keywordEach [⟨some kw, e, kpos⟩] X.env))) := by rfl) :
    PE X (.Call (.Attribute o m apos) [] [⟨some kw, e, kpos⟩] pos) (tMethK C m sp (fun vs zs => vs ++ zs) E ta 1 (tCons te tNil)) := by
  obtain ⟨fd, ps, F, b⟩ := c.ex
  exact pe_methK (pl := pl) he cl hm F (hr.mono hk) b hx hkw hall hks hpl ht
end Qe
namespace Qe
open PySem PySem.Spec PyProof.Rows L2 He
/-- cls(e, ..), cls a name of the def's own -/
def tMakeV (i : Nat) (C : Addr) (sp : Sp) (E : XK) (t : TA) : TE := fun σ H Q => σ[i]? = some (some (.ref C)) ∧ tMake C sp [] E t σ H Q
theorem pmakeV {X : Cx} {CX : CXT} {k j : Nat} {f C : Addr} {x : Str} {sp : Sp} {p pos : Pos} {e : Expr} {es : List Expr} {t : TA} {E : XK} (i : Nat) (c : Fx X.prog X.w X.K X.mg X.base CX k f sp) (M : Mk X.K C f) (hr : Room j X.A) (hk : k + 1 ≤ j) (hx : Passes CX X E) (ha : PA X (e :: es) t)
    (hN : X.N[i]? = some x := by rfl) (hv : Vis X.env.scope x := by first | exact Or.inl rfl | exact Or.inr (Or.inl rfl) | exact Or.inr (Or.inr rfl)) (hd : (x == ("__debug__" : Str)) = false := by decide) (hcd : (x == ("__classdict__" : Str)) = false := by decide)
    (he : starEach (e :: es) X.env = (false, eval e X.env) :: starEach es X.env :=
          by rfl) (hpl : (backTo pos (starEach es X.env)).any (·.1) = false := by rfl) :
    PE X (.Call (.Name x p) (e :: es) [] pos) (tMakeV i C sp E t) := by
  refine ⟨fun pins s σ H Q I h =>
        ?_⟩
  obtain ⟨hs, ht⟩ := h
  obtain ⟨fd, ps, F, kp, b⟩ :=
        c.ex
  refine wpAny_Call_Name_kw (thn ((pe_var (pos := p) hN hv hd hcd).run pins s σ H (fun v H1 => v = .ref C ∧ H1 = H) I ⟨.ref C, hs, rfl, rfl⟩) fun u s1 ⟨v, H1, I1, r1, q1⟩ => ?_)
  obtain ⟨rfl, rfl⟩ := q1
  cases r1
  refine PySem.W.callWith_K (h₀ := X.base) I.ok.mod.kin M.kp (thn (ha.run pos pins s1 σ _ _ I1 ht) fun us s2 ⟨vs, H2, I2, r, q⟩ => ⟨I2.kIn, ?_⟩) he hpl
  exact run_make M F (hr.mono hk) b .nil hx I2 r q
end Qe
namespace Qe
open PySem PySem.Spec PyProof.Rows L2 He
theorem pcmeth {X : Cx} {CX : CXT} {k j : Nat} {f C p : Addr} {m : Str} {sp : Sp} {E : XK} {apos pos : Pos} {o e : Expr} {es : List Expr} {ta : TE} {t : TA} {pl : Sem Bool} (c : Fx X.prog X.w X.K X.mg X.base CX k f sp) (cm : ClX.CRead X.K C (.type "type") ∧ ClX.CMet X.K C (.type "type") m p f) (hr : Room j X.A) (hk : k ≤ j) (hx : Passes CX X E) (he : PE X o ta) (ha : PA X (e :: es) t)
    (hst : starEach (e :: es) X.env = (false, eval e X.env) :: starEach es X.env :=
          by rfl) (hpl : (backTo pos (starEach es X.env)).any (·.1) = false := by rfl)
    (ht : eval (.Call (.Attribute o m apos)
          (e :: es) [] pos) X.env = (do
      let ov ← eval o X.env
      standAt apos.atName
      let (f, first) ←
            holding [ov] (getMethod ov m pl)
      callWith pos f first (backTo pos (starEach (e :: es) X.env)) (backToKw pos (keywordEach [] X.env))) :=
            by rfl) :
    PE X (.Call (.Attribute o m apos) (e :: es) [] pos) (ClX.tCMeth C sp E ta t) := by
  obtain ⟨fd, ps, F, kp, b⟩ :=
        c.ex
  exact ClX.pe_cmeth (pl := pl) he cm.1 cm.2 ((F.raw b .nil).imp fun vs H Q E h => by rw [List.append_nil]; exact h) (hr.mono hk) hx ha hst hpl ht
def logD (log : List Step) : List FD := log.map fun s => .s [s.1, s.2]
theorem logD_v (log : List Step) : log.map vT = (logD log).map FD.v := by unfold logD; rw [List.map_map]; rfl
theorem logD_ok {log : List Step} (h : ∀ s ∈ log, s.ok) : allOk (logD log) = true := by
  unfold allOk logD
  rw [List.all_map, List.all_eq_true]
  exact fun s hs => Step.chOk (h s hs)
theorem logD_inj {a b : List Step} : decide (logD a = logD b) = decide (a = b) := by
  refine decide_eq_decide.mpr ⟨fun h => ?_, fun h => by rw [h]⟩
  unfold logD at h
  refine List.map_inj_right (f := fun s : Step => FD.s [s.1, s.2]) (fun x y e => ?_) |>.mp h
  injection e with e
  injection e with e1 e
  injection e with e2 e
  exact Prod.ext e1 e2
theorem StL.fd {H : Hp} {a : Addr} {log : List Step} (h : StL H a log) : H a = some (.lst ((logD log).map FD.v)) := by rw [← logD_v]; exact h
theorem dhit_mk {mk2 : List Mk1} : ∀ {l : List Mk1}, (∀ m ∈ l, ∃ p, mLook mk2 m.1 = some p) → DHit (mkK mk2) (mkK l) (l.all fun m => decide (mLook mk2 m.1 = some m.2))
  | [], _ => .nil
  | m :: r, h => by
    obtain ⟨p, hp⟩ := h m List.mem_cons_self
    have e : valV (mkK mk2) (kN m.1) = some (V.int (p : Nat)) := by rw [valV_mk, hp]; rfl
    have q := DHit.cons (i := (m.2 : Nat)) e (dhit_mk (l := r) fun x hx => h x (List.mem_cons_of_mem _ hx))
    have d : decide (((m.2 : Nat) : Int) = ((p : Nat) : Int)) = decide (mLook mk2 m.1 = some m.2) := decide_eq_decide.mpr ⟨fun z => by rw [hp]; congr 1; omega, fun z => by rw [hp] at z; have := Option.some.inj z; omega⟩
    rw [d] at q
    exact q
theorem mLook_perm {a b : List Mk1} (nd : (b.map (·.1)).Nodup) (p : a.Perm b) (n : Nat) : mLook a n = mLook b n := by
  have nda : (a.map (·.1)).Nodup := (p.map (·.1)).nodup_iff.mpr nd
  cases h : mLook b n with
  | some x => exact mLook_of nda (p.symm.subset (mLook_mem h))
  | none =>
    cases g : mLook a n with
    | none => rfl
    | some y =>
      have := mLook_of nd (p.subset (mLook_mem g))
      rw [h] at this; cases this
end Qe

namespace Qe
open PySem PySem.Spec PyProof.Rows L2 He
/-! ### rules whose reading names K by itself -/
section
variable {X : Cx} {K : PySem.W.Frag}
theorem ps_fldK {o value : Expr} {f : Str} {pos pos' : Pos} {ta tv : TE} (hK : X.K = K) (ha : PE X o ta) (hv : PE X value tv) (hs : swapsWith value (some (.Attribute o f pos')) pos.line X.env = pure false) : PS X (.Assign [.Attribute o f pos'] value pos) (sFld K ta tv f) := by
  subst hK
  exact ps_fld ha hv hs
theorem pe_bmK {T id : String} {name : Str} {apos cpos : Pos} {o e : Expr} {es : List Expr} {to : TE} {t : TA} {r : V → List V → Hp → VK → Prop} (hK : X.K = K) (pa : PlainAttrs T) (slot : Slot T name id) (hty : typeOf (.builtin id) = pure (.type "method_descriptor")) (hm : MtR X id r) (ho : PE X o to) (ha : PA X (e :: es) t)
    (hbase : attributeBase o name X.env (eval o X.env) = eval o X.env :=
          by rfl)
    (hfew : ((backTo cpos (starEach (e :: es) X.env)).all (fun x =>
          !x.1) && (backToKw cpos (keywordEach [] X.env)).all (fun x => x.1.isSome)
      && decide ((e :: es).length + ([] : List Keyword).length + (if ([] : List Keyword).isEmpty then 0 else 1) < 30)) = true :=
            by rfl)
    (hline : (apos.endLine == cpos.line) = true := by rfl) (hs : starEach (e :: es) X.env = (false, eval e X.env) :: starEach es X.env :=
          by rfl) (hplain : (backTo cpos (starEach es X.env)).any (·.1) = false := by rfl) :
    PE X (.Call (.Attribute o name apos) (e :: es) [] cpos) (tBM K T r to t) := by
  subst hK
  exact pe_bm pa slot hty hm ho ha hbase hfew hline hs hplain
theorem call_len_seqK (hK : X.K = K) : CallR X (.builtin "len") (fun xs H Q => ∃ p ys, xs = [.ref p] ∧ (SqL K H p ys ∨ SqT K H p ys) ∧ Q (.int ys.length) H) := by subst hK; exact call_len_seq
theorem call_list_ofK (hK : X.K = K) : CallR X (.type "list") (fun xs H Q => ∃ p ys, xs = [.ref p] ∧ (SqL K H p ys ∨ SqT K H p ys) ∧ ∀ l, H l = none → Q (.ref l) (upd H l (.lst ys))) := by subst hK; exact call_list_of
theorem sl_listNK (hK : X.K = K) : SlR X (fun x lo hi H Q => ∃ a xs, x = .ref a ∧ SqL K H a xs ∧ NN lo ∧ NN hi ∧ ∀ p, H p = none → Q (.ref p) (upd H p (.lst (cutN xs lo hi)))) := by subst hK; exact sl_listN
theorem ix_listK (hK : X.K = K) : IxR X (rIxL K) := by subst hK; exact ix_list
theorem pi_enumK {e : Expr} {ta : TA} {p pos tpos : Pos} {elts : List Expr} {kk : Nat} (hK : X.K = K) (hg : Gl X "enumerate") (hm : X.mg "enumerate" = none) (ha : PA X [e] ta) (hs : starEach [e] X.env = [(false, eval e X.env)] := by rfl) :
    PI X (.Tuple elts kk tpos) (.Call (.Name "enumerate" p) [e] [] pos) (iEnum K ta) := by subst hK; exact pi_enum hg hm ha hs
end
/-! ### within a try -/
def tMethS (C : Addr) (m : Str) (sp : Sp) (E : L2.St → XK) (ta : TE) (t : TA) : TE := fun σ H Q => ta σ H fun x H1 => ∃ a dx fs, x = .ref a ∧ H1 a = some (.ins C dx fs) ∧ fs.lookup m = none ∧ t σ H1 fun vs H2 => sp (x :: vs) H2 Q (E σ)
theorem pmethS {X : Cx} {CX : CXT} {k j : Nat} {f C : Addr} {sp : Sp} {E : L2.St → XK} {m : Str} {pos apos : Pos} {e o : Expr} {es : List Expr} {ta : TE} {t : TA} {pl : Sem Bool} (c : Fx X.prog X.w X.K X.mg X.base CX k f sp) (cl : Cls X.K C) (hm : Meth X.K C m f)
    (hr : Room j X.A) (hk : k ≤ j) (hx : ∀ σ, PassesAt CX X σ (E σ)) (he : PE X o ta) (ha : PA X (e :: es) t)
    (hst : starEach (e :: es) X.env = (false, eval e X.env) :: starEach es X.env :=
          by rfl) (hpl : (backTo pos (starEach es X.env)).any (·.1) = false := by rfl)
    (ht : eval (.Call (.Attribute o m apos)
          (e :: es) [] pos) X.env = (do
      let ov ← eval o X.env
      standAt apos.atName
      let (f, first) ←
            holding [ov] (getMethod ov m pl)
      callWith pos f first (backTo pos (starEach (e :: es) X.env)) (backToKw pos (keywordEach [] X.env))) :=
            by rfl) :
    PE X (.Call (.Attribute o m apos) (e :: es) [] pos) (tMethS C m sp E ta t) := by
  obtain ⟨fd, ps, F, kp, hb⟩ := c.ex
  refine ⟨fun pins s σ H Q I h =>
        ?_⟩
  refine PySem.W.methodCall_KW (pl :=
        pl) (thn (he.run pins s σ H _ I h) fun u s1 ⟨x, H1, I1, rx, a, dx, fs, ex, ea, l, q⟩ => ?_) ht
  subst ex
  obtain rfl : u = Value.ref a :=
        rx
  refine getmeth_ok I1 ea cl hm l ?_
  refine PySem.W.callWith_K (first := [.ref a]) (h₀ :=
        X.base) I.ok.mod.kin hm.kp (thn (ha.run pos pins s1 σ H1 _ I1 q) fun us s2 ⟨vs, H2, I2, r, q2⟩ => ⟨I2.kIn, ?_⟩) hst hpl
  exact run_fnS (us := .ref a :: us) (vs := .ref a :: vs) F (hr.mono hk) hb (hx σ) I2 (.cons rfl r) q2
/-- try: body, finally: suite: the suite behind a body that ran through, and with the error set aside -/
def tFin (tb : WX → TS) (tf tfs : TS) (Wout : WX) : TS := fun D σ H => tb (wFin tfs Wout) { nx := fun σ1 H1 => tf D σ1 H1, rt := fun _ _ => False } σ H
theorem ps_fin {X : Cx} {body : List Stmt} {f₀ : Stmt} {fs : List Stmt} {pos : Pos} {tb : WX → TS} {tf tfs : TS} {Wout : WX} (hs : X.stack = X.env :: X.outer) (hf : X.env.frame = some X.env.locals) (hex : X.ex = []) (tk : Takes X Wout)
    (hb : ∀ (W : WX) (pn : List (Addr × Obj)) (xe : Value → Shared → Prop), Takes (X.tr pn xe) W →
          PassesOwn (model X.prog X.w) X.A X.env xe → PSs (X.tr pn xe) body (tb W))
    (hfin : PSs X.nox (f₀ :: fs) tf) (hsu : ∀ (a : Addr) (pn : List (Addr × Obj)), PSs (X.suite a pn) (f₀ :: fs) tfs) : PS X (.Try body [] [] (f₀ :: fs) pos) (tFin tb tf tfs Wout) := by
  refine ⟨fun pins s σ H D I h =>
        ?_⟩
  have ok := I.ok
  refine wpAny_Try_finally ?_
  refine wpAny_mono ((hb (wFin tfs Wout) (X.pn ++ pins) (fun x s₁ => wpAny (model X.prog X.w) X.A (noteFrame x X.env) (fun _ s₂ => FinallyRaised X.prog X.w X.A X.xe X.env (f₀ :: fs) (SP X pins D) x s₂) (FinallyRaised X.prog X.w X.A X.xe X.env (f₀ :: fs) (SP X pins D)) s₁)
    (fun u s' xx => ?_) PassesOwn.looking).run [] s σ H { nx := fun σ1 H1 => tf D σ1 H1, rt := fun _ _ => False } (I.toTry _) h) (fun g s1 z => ?_) (fun x s1 hx => hx)
  · exact
          fin_exc hs hf hex ok tk hsu xx
  · cases g with
    | ret u => obtain ⟨_, _, _, _, _, q⟩ := z; exact False.elim q
    | brk => obtain ⟨_, _, _, q⟩ := z; exact False.elim q
    | cont => obtain ⟨_, _, _, q⟩ := z; exact False.elim q
    | next =>
      obtain ⟨σ1, H1, J1, q1⟩ := z
      refine wpAny_execs_nil ?_
      refine wpAny_mono (hfin.run pins s1 σ1 H1 D ((J1.ofTry ok).wish _) q1) (fun g2 s2 q2 => ?_) fun _ _ e => False.elim e
      have q3 : SP X pins D g2 s2 := q2.unwish
      cases g2 <;> exact q3
end Qe
namespace Qe
open PySem PySem.Spec PyProof.Rows L2 He
theorem paired_snoc {α β : Type} {R : α → β → Prop} {a : α} {b : β} (h : R a b) : ∀ {l : List α} {m : List β}, Paired R l m → Paired R (l ++ [a]) (m ++ [b])
  | _, _, .nil => .cons h .nil
  | _, _, .cons p r => .cons p (paired_snoc h r)
/-- one more row -/
theorem Rows.snoc {K : PySem.W.Frag} {H H1 : Hp} {a t : Addr} {ts : List Addr} {rs : List (List FD)} {r : List FD} (h2 : Paired (fun t (r : List FD) => H t = some (.tup (r.map FD.v))) ts rs) (ha : H1 a = some (.lst (ts.map V.ref ++ [V.ref t]))) (ht : H1 t = some (.tup (r.map FD.v)))
    (f : ∀ b l, H b = some (.tup l) → H1 b = some (.tup l)) : Rows K H1 a (rs ++ [r]) :=
  ⟨ts ++ [t], by rw [List.map_append]; exact ha, paired_snoc (R := fun t (r : List FD) => H1 t = some (.tup (r.map FD.v))) ht (paired_imp (fun _ _ e => f _ _ e) h2)⟩
end Qe
namespace Qe
open PySem PySem.Spec PyProof.Rows L2 He
/-- a session with one more attempt -/
theorem ses_att {K : PySem.W.Frag} {H : Hp} {s t : Addr} {c : SesA} {qs : List (List Nat)} {log : List Step} {mk : List Mk1} {at_ : List (Nat × Nat)} {ts : List Addr} {i j : Nat} (h : isSes K H s c qs log mk at_) (ha : H c.aa = some (.lst (ts.map V.ref))) (h2 : Paired (fun t (r : List FD) => H t = some (.tup (r.map FD.v))) ts (at_.map rowA)) (ht : H t = none) :
    isSes K (upd (upd H t (.tup [V.int (i : Nat), V.int (j : Nat)])) c.aa (.lst (ts.map V.ref ++ [V.ref t]))) s c qs log mk (at_ ++ [(i, j)]) := by
  have nt : c.aa ≠ t := ne_of_none ha ht
  have f : ∀ b o, H b = some o → b ≠ c.aa → (upd (upd H t (.tup [V.int (i : Nat), V.int (j : Nat)])) c.aa (.lst (ts.map V.ref ++ [V.ref t]))) b = some o := fun b o e n => by rw [upd_ne n, upd_ne (ne_of_none e ht)]; exact e
  obtain ⟨n1, n2, n3, n4⟩ := h.neq
  refine ⟨f _ _ h.o n2.symm, f _ _ h.q h.nq, f _ _ h.l h.nl, f _ _ h.m (ne_of h.m ha (by intro z; cases z)), ?_, h.nq, h.nl⟩
  rw [List.map_append]
  exact Rows.snoc (H := H) h2 upd_same (by rw [upd_ne nt.symm]; exact upd_same) fun b l e => f b _ e (ne_of e ha (by intro z; cases z))
end Qe
namespace Qe
open PySem PySem.Spec PyProof.Rows L2 He
/-- a def that is called also while an exception is set aside -/
structure FxW (P : Program) (w : World) (K : PySem.W.Frag) (mg : Str → Option Value) (base : Heap) (n : Nat) (f : Addr) (sp : Sp) : Prop where
  ex : ∃ (fd : FuncData) (ps : List Str), FnOk P w K mg base CX0 n f fd ps sp ∧ L2.Binds K fd ps [] ∧ FnW P w K mg base n f fd ps sp
theorem p_with {X : Cx} {C fe fx : Addr} {n j : Nat} {spE spX : Sp} {ctx : Expr} {body : List Stmt} {pos : Pos} {tc : TE} {tb : WX → TS} {Wout : WX} (hs : X.stack = X.env :: X.outer) (hf : X.env.frame = some X.env.locals) (hex : X.ex = []) (tk : Takes X Wout) (W : WithC X.K C fe fx)
    (hc : PE X ctx tc) (cE : Fx X.prog X.w X.K X.mg X.base CX0 n fe spE) (cX : FxW X.prog X.w X.K X.mg X.base n fx spX) (hr : Room j X.A) (hk : n ≤ j)
    (hb : ∀ (W : WX) (pn : List (Addr × Obj)) (xe : Value → Shared → Prop), Takes (X.tr pn xe) W → PSs (X.tr pn xe) body (tb W)) :
    PS X (.With [⟨ctx, none⟩] body pos) (tWith C spE spX Wout tc tb) := by
  obtain ⟨fd, ps, F, kp, b⟩ := cE.ex
  obtain ⟨fd2, ps2, F2, b2, w2⟩ := cX.ex
  exact ps_with hs hf hex tk W hc F b F2 b2 w2 (hr.mono hk) hb
end Qe
namespace Qe
open PySem PySem.Spec PyProof.Rows L2 He
theorem ses_back {K : PySem.W.Frag} {H H3 H4 : Hp} {s : Addr} {c c' : SesA} {qs qs' : List (List Nat)} {log log' : List Step} {mk : List Mk1} {at_ : List (Nat × Nat)} (h : isSes K H s c qs log mk at_) (fr : Fr c s H H3) (h3 : isSes K H3 s c' qs' log' mk at_) (e1 : c'.dx = c.dx) (e2 : c'.ma = c.ma) (e3 : c'.aa = c.aa)
    (hs4 : H4 s = some (.ins (ga K "Session") c'.dx (sesF ⟨c'.dx, c.qa, c.la, c'.ma, c'.aa⟩))) (bt : But s H3 H4) : SesTo K H s c qs log mk at_ H4 := by
  obtain ⟨n1, n2, n3, n4⟩ := h.neq
  obtain ⟨m1, m2, m3, m4⟩ := h3.neq
  obtain ⟨u, ha, _⟩ := id h.a
  have q1 : c.qa ≠ c.ma := ne_of h.q h.m (by intro z; cases z)
  have q2 : c.la ≠ c.ma := ne_of h.l h.m (by intro z; cases z)
  refine ⟨⟨c'.dx, c.qa, c.la, c'.ma, c'.aa⟩, e1, e2, e3, ⟨hs4, bt _ _ (fr _ _ h.q n3 q1 h.nq) n3, bt _ _ (fr _ _ h.l n4 q2 h.nl) n4, bt _ _ h3.m m1, h3.a.butx bt m2 h3.o (fun l z => by cases z), ?_, ?_⟩, fr.trans bt.but3⟩
  · show c.qa ≠ c'.aa
    rw [e3]; exact h.nq
  · show c.la ≠ c'.aa
    rw [e3]; exact h.nl
end Qe

namespace Qe
open PySem PySem.Spec PyProof.Rows L2 He
local macro_rules | `(tactic| walk_at "lk") => `(tactic| first
  | assumption
  | exact upd_same
  | (refine (upd_ne (by assumption)).trans ?_; walk_at "lk"))
local macro_rules | `(tactic| walk_at "sd") => `(tactic| first
  | rfl
  | assumption
  | exact SqL.of (by assumption)
  | exact .inl (SqL.of (by assumption))
  | exact SqT.of (by assumption)
  | exact ⟨_, SqL.of (by assumption)⟩
  | exact .inr (SqT.of (by assumption))
  | exact .inl ⟨rfl, _, SqL.of (by assumption)⟩
  | exact upd_same
  | (refine (upd_ne (by assumption)).trans ?_; walk_at "lk")
  | exact ⟨_, rfl⟩
  | exact NN.none
  | exact NN.some (by omega)
  | exact lt1
  | exact lt2
  | exact lt3
  | exact lt4
  | exact sz0
  | exact sz1
  | exact sz2
  | exact sz3
  | exact sz4
  | exact small20 (by first | omega | (rw [List.length_map]; omega))
  | exact True.intro
  | omega
  | (dsimp only [List.length_cons, List.length_nil]; omega))
local macro_rules | `(tactic| walk_at "go") => `(tactic| first
  | ((with_reducible refine tSeq_i ?_); walk_at "go")
  | ((with_reducible refine gName_i ?_); walk_at "go")
  | ((with_reducible refine tNext_i ?_); walk_at "go")
  | ((with_reducible refine iteT ?_); walk_at "go")
  | ((with_reducible refine iteF ?_); walk_at "go")
  | (with_reducible refine (show tLockE _ _ _ _ from ?_))
  | (with_reducible refine (show tLock _ _ _ _ from ?_))
  | (with_reducible refine (show (∃ W : Nat → Nat → L2.St → Hp → Prop, _) from ?_))
  | (with_reducible refine (show C8.tCut _ _ _ _ _ from ?_))
  | (with_reducible refine (show tWhile _ _ _ _ _ from ?_))
  | (apply Exists.intro; walk_at "go")
  | (apply And.intro; (focus (walk_at "sd")); walk_at "go")
  | skip)

section
variable {P : Program} {w : World} {K : PySem.W.Frag}
      {mg : Str → Option Value} {base : Heap}

def sp_is_integer (K : PySem.W.Frag) : Sp := S1 fun a H Q _ => ∃ n : Int, a = .int n ∧ Q (.bl true) H
theorem ok_is_integer (T : Tx K mg) : Fx P w K mg base CX0 1 (A_is_integer K) (sp_is_integer K) := by
  obtain ⟨fd, F⟩ := T.D_is_integer
  refine fx_of F sc_is_integer (F.bindsN fun _ _ _ _ _ _ us hl => match us, hl with | [_], _ => rfl) S1.len fun cdv A outer s H vs Q E hr h => ?_
  obtain ⟨a0, rfl, h⟩ := h
  refine ⟨_, PSs.nox (pss_one (ps_ret (pe_and (pe_callB isI_int rfl T.f_isinstance boot_isinstance (pa_cons (pv 0) (pa_cons (pe_bltn (v := .ty "int") rfl T.f_int boot_int rfl) pa_nil))) (pe_one (pe_not (pe_callB isI_bool rfl T.f_isinstance boot_isinstance (pa_cons (pv 0) (pa_cons (pe_bltn (v := .ty "bool") rfl T.f_bool boot_bool rfl) pa_nil)))))))), ?_⟩
  obtain ⟨n, rfl, h⟩ := h
  walk_at "go"
  exact h
def sp_in_range (K : PySem.W.Frag) : Sp := S3 fun a b c H Q _ => ∃ x l m : Int, a = .int x ∧ b = .int l ∧ c = .int m ∧ Q (.bl (decide (l ≤ x ∧ x ≤ m))) H
theorem ok_in_range (T : Tx K mg) : Fx P w K mg base CX0 2 (A_in_range K) (sp_in_range K) := by
  obtain ⟨fd, F⟩ := T.D_in_range
  refine fx_of F sc_in_range (F.bindsN fun _ _ _ _ _ _ us hl => match us, hl with | [_, _, _], _ => rfl) S3.len fun cdv A outer s H vs Q E hr h => ?_
  obtain ⟨a0, a1, a2, rfl, h⟩ := h
  refine ⟨_, PSs.nox (pss_one (ps_ret (pe_and (pcall (ok_is_integer T) T.g_is_integer hr (by decide) rfl pass0 (pa_cons (pv 0) pa_nil)) (pe_one (pe_chain op_le op_le (pv 1) (pv 0) (pv 2)))))), ?_⟩
  obtain ⟨x, l, m, rfl, rfl, rfl, h⟩ := h
  walk_at "go"
  refine ite_d (fun c1 => ?_) fun c1 => ?_
  · walk_at "go"
    rw [decide_eq_decide.mpr (show (l ≤ x ∧ x ≤ m) ↔ x ≤ m from ⟨fun z => z.2, fun z => ⟨c1, z⟩⟩)] at h
    exact h
  · rw [decide_eq_false (fun z => c1 z.1)] at h
    exact h
def sp_is_word (K : PySem.W.Frag) : Sp := S2 fun a b H Q _ => ∃ (l : List Nat) (m : Int), a = vS l ∧ b = .int m ∧ l.length ≤ 20000 ∧ ∀ H', Same H H' → Q (.bl (decide ((l.length : Int) ≤ m) && l.all isIt)) H'
theorem ok_is_word (T : Tx K mg) : Fx P w K mg base CX0 1 (A_is_word K) (sp_is_word K) := by
  obtain ⟨fd, F⟩ := T.D_is_word
  refine fx_of F sc_is_word (F.bindsN fun _ _ _ _ _ _ us hl => match us, hl with | [_, _], _ => rfl) S2.len fun cdv A outer s H vs Q E hr h => ?_
  obtain ⟨a0, a1, rfl, h⟩ := h
  refine ⟨_, PSs.nox (pss_one (ps_ret (pe_and (pe_callB isS_str rfl T.f_isinstance boot_isinstance (pa_cons (pv 0) (pa_cons (pe_bltn (v := .ty "str") rfl T.f_str boot_str rfl) pa_nil))) (pe_and (pe_cmpR op_le (pe_callB call_lenW rfl T.f_len boot_len (pa_cons (pv 0) pa_nil)) (pv 1) (nomark _)) (pe_one (pe_callB (cr_all rfl) rfl T.f_all boot_all (pa_cons (pe_lc (own := [("item", 2)]) rfl sc_is_word.nd (pi_str (pv 0)) (blkOk_by (N := ["value", "most", "item"]) (sc := defScope s_is_word) (by decide +kernel)) (fun _ _ _ _ _ => by exact pg_name (i := 2) sc_is_word.nd rfl (.inl rfl)) (fun _ _ _ _ _ => by exact pts_nil) (fun _ _ _ _ _ => by exact (pe_cmpR op_inW (pv 2) (C8.pe_gc rfl (gSl [97, 98, 99, 100, 101, 102, 103, 104] T.s_ITEMS (by decide +kernel))) (by with_unfolding_all rfl)))) pa_nil))))))), ?_⟩
  obtain ⟨l, m, rfl, rfl, hl, h⟩ := h
  walk_at "go"
  refine ite_d (fun c1 => ?_) fun c1 => ?_
  · walk_at "go"
    intro D hD
    refine lc_it walk_str (fun i H' => Same H H' ∧ H' D = some (.lst ((l.take i).map fun c => V.bl (isIt c)))) ⟨Same.new hD, upd_same⟩ (fun _ _ _ _ => trivial) (fun i x H1 H2 hi p y => ?_) fun H1 p => ?_
    · obtain ⟨rfl, c, hc, rfl⟩ := y
      obtain ⟨sm, hH⟩ := p
      have hc' : l[i]? = some c := by rw [← Array.getElem?_toList] at hc; exact hc
      walk_at "go"
      refine ⟨small20 (by rw [List.length_map, List.length_take]; omega), sm.updN hD, ?_⟩
      rw [upd_same]
      exact congrArg (fun z => some (HO.lst z)) (take_map_succ _ hc')
    · obtain ⟨sm, hH⟩ := p
      have e : (l.take (sS l).cps.size).map (fun c => V.bl (isIt c)) = (l.map isIt).map V.bl := by
        rw [show (sS l).cps.size = l.length from rfl, List.take_of_length_le (Nat.le_refl _), List.map_map]; rfl
      rw [e] at hH
      refine ⟨_, _, rfl, SqL.of hH, ?_⟩
      rw [List.all_map]
      rw [decide_eq_true c1, Bool.true_and] at h
      exact h _ sm
  · rw [decide_eq_false c1, Bool.false_and] at h
    exact h _ (Same.refl _)
def sp_is_queue (K : PySem.W.Frag) : Sp := S1 fun a H Q _ => ∃ l : List Nat, a = vS l ∧ l.length ≤ 20000 ∧ ∀ H', Same H H' → Q (.bl (decide ((l.length : Int) ≤ 2100) && l.all isIt)) H'
theorem ok_is_queue (T : Tx K mg) : Fx P w K mg base CX0 2 (A_is_queue K) (sp_is_queue K) := by
  obtain ⟨fd, F⟩ := T.D_is_queue
  refine fx_of F sc_is_queue (F.bindsN fun _ _ _ _ _ _ us hl => match us, hl with | [_], _ => rfl) S1.len fun cdv A outer s H vs Q E hr h => ?_
  obtain ⟨a0, rfl, h⟩ := h
  refine ⟨_, PSs.nox (pss_one (ps_ret (pcall (ok_is_word T) T.g_is_word hr (by decide) rfl pass0 (pa_cons (pv 0) (pa_cons (C8.pe_gc rfl (gI (T.i_MAX_QUEUE))) pa_nil))))), ?_⟩
  obtain ⟨l, rfl, hl, h⟩ := h
  walk_at "go"
  exact h
def sp_check_queue (K : PySem.W.Frag) : Sp := S1 fun a H Q _ => ∃ l : List Nat, a = vS l ∧ isQ l ∧ ∀ H', Same H H' → Q .non H'
theorem ok_check_queue (T : Tx K mg) : Fx P w K mg base CX0 3 (A_check_queue K) (sp_check_queue K) := by
  obtain ⟨fd, F⟩ := T.D_check_queue
  refine fx_of F sc_check_queue (F.bindsN fun _ _ _ _ _ _ us hl => match us, hl with | [_], _ => rfl) S1.len fun cdv A outer s H vs Q E hr h => ?_
  obtain ⟨a0, rfl, h⟩ := h
  refine ⟨_, PSs.nox (pss_one (ps_if (pt_not (pt_val (pcall (ok_is_queue T) T.g_is_queue hr (by decide) rfl pass0 (pa_cons (pv 0) pa_nil)))) (pss_one (ps_never)) pss_nil)), ?_⟩
  obtain ⟨l, rfl, hl, h⟩ := h
  walk_at "go"
  refine ⟨by have := hl.1; omega, fun H1 s1 => ?_⟩
  rw [hl.b]
  walk_at "go"
  exact h H1 s1
def sp_is_step (K : PySem.W.Frag) : Sp := S1 fun a H Q _ => ∃ s : Step, a = vT s ∧ s.ok ∧ Q (.bl (!decide (s.1 = 63))) H
theorem ok_is_step (T : Tx K mg) : Fx P w K mg base CX0 1 (A_is_step K) (sp_is_step K) := by
  obtain ⟨fd, F⟩ := T.D_is_step
  refine fx_of F sc_is_step (F.bindsN fun _ _ _ _ _ _ us hl => match us, hl with | [_], _ => rfl) S1.len fun cdv A outer s H vs Q E hr h => ?_
  obtain ⟨a0, rfl, h⟩ := h
  refine ⟨_, PSs.nox (pss_one (ps_ret (pe_and (pe_callB isS_str rfl T.f_isinstance boot_isinstance (pa_cons (pv 0) (pa_cons (pe_bltn (v := .ty "str") rfl T.f_str boot_str rfl) pa_nil))) (pe_and (pe_cmpR op_eqI (pe_callB call_lenW rfl T.f_len boot_len (pa_cons (pv 0) pa_nil)) pe_int (nomark _)) (pe_and (pe_cmpR op_inW (pe_ix ix_strW (pv 0) pe_int (fun _ _ => rfl)) (pe_sC [43, 45] (by decide +kernel)) (by with_unfolding_all rfl)) (pe_one (pe_cmpR op_inW (pe_ix ix_strW (pv 0) pe_int (fun _ _ => rfl)) (C8.pe_gc rfl (gSl [97, 98, 99, 100, 101, 102, 103, 104] T.s_ITEMS (by decide +kernel))) (by with_unfolding_all rfl)))))))), ?_⟩
  obtain ⟨⟨g, c⟩, rfl, ⟨hg, hc⟩, h⟩ := h
  walk_at "go"
  refine ite_d (fun c1 => ?_) fun c1 => ?_
  · walk_at "go"
    have e : decide (c ∈ [97, 98, 99, 100, 101, 102, 103, 104]) = !decide (g = 63) := by
      have h2 : isIt c = true := hc
      unfold isIt itemsL at h2
      rw [h2]
      rcases List.mem_cons.mp c1 with r | r
      · rw [show g = 43 from r]; rfl
      · rw [show g = 45 from List.mem_singleton.mp r]; rfl
    rw [e]
    exact h
  · have e : g = 63 := by
      rcases hg with r | r | r
      · exact absurd (show g ∈ [43, 45] by rw [show g = 43 from r]; decide) c1
      · exact absurd (show g ∈ [43, 45] by rw [show g = 45 from r]; decide) c1
      · exact r
    rw [show decide (g = 63) = true from decide_eq_true e] at h
    exact h
def sp_is_look (K : PySem.W.Frag) : Sp := S1 fun a H Q _ => ∃ s : Step, a = vT s ∧ s.ok ∧ Q (.bl (decide (s.1 = 63))) H
theorem ok_is_look (T : Tx K mg) : Fx P w K mg base CX0 1 (A_is_look K) (sp_is_look K) := by
  obtain ⟨fd, F⟩ := T.D_is_look
  refine fx_of F sc_is_look (F.bindsN fun _ _ _ _ _ _ us hl => match us, hl with | [_], _ => rfl) S1.len fun cdv A outer s H vs Q E hr h => ?_
  obtain ⟨a0, rfl, h⟩ := h
  refine ⟨_, PSs.nox (pss_one (ps_ret (pe_and (pe_callB isS_str rfl T.f_isinstance boot_isinstance (pa_cons (pv 0) (pa_cons (pe_bltn (v := .ty "str") rfl T.f_str boot_str rfl) pa_nil))) (pe_and (pe_cmpR op_eqI (pe_callB call_lenW rfl T.f_len boot_len (pa_cons (pv 0) pa_nil)) pe_int (nomark _)) (pe_and (pe_cmpR op_eqW (pe_ix ix_strW (pv 0) pe_int (fun _ _ => rfl)) (pe_sC [63] (by decide +kernel)) (nomark _)) (pe_one (pe_cmpR op_inW (pe_ix ix_strW (pv 0) pe_int (fun _ _ => rfl)) (C8.pe_gc rfl (gSl [97, 98, 99, 100, 101, 102, 103, 104] T.s_ITEMS (by decide +kernel))) (by with_unfolding_all rfl)))))))), ?_⟩
  obtain ⟨⟨g, c⟩, rfl, ⟨hg, hc⟩, h⟩ := h
  walk_at "go"
  refine ite_d (fun c1 => ?_) fun c1 => ?_
  · walk_at "go"
    have h2 : isIt c = true := hc
    have e1 : decide (g = 63) = true := decide_eq_true (List.cons.inj c1).1
    unfold isIt itemsL at h2
    rw [h2]
    rw [show decide ((g, c).1 = 63) = true from e1] at h
    exact h
  · rw [show decide ((g, c).1 = 63) = false from decide_eq_false fun e => c1 (by rw [show g = 63 from e])] at h
    exact h
def sp_is_suitable (K : PySem.W.Frag) : Sp := S3 fun a b c H Q _ => ∃ (p w : List Nat) (n : Nat), a = vS p ∧ b = vS w ∧ c = .int n ∧ p.length ≤ 20000 ∧ Q (.bl (suitB p w n)) H
theorem ok_is_suitable (T : Tx K mg) : Fx P w K mg base CX0 1 (A_is_suitable K) (sp_is_suitable K) := by
  obtain ⟨fd, F⟩ := T.D_is_suitable
  refine fx_of F sc_is_suitable (F.bindsN fun _ _ _ _ _ _ us hl => match us, hl with | [_, _, _], _ => rfl) S3.len fun cdv A outer s H vs Q E hr h => ?_
  obtain ⟨a0, a1, a2, rfl, h⟩ := h
  refine ⟨_, PSs.nox (pss_one (ps_ret (pe_or (pe_cmpR op_ge (pv 2) (pe_callB call_lenW rfl T.f_len boot_len (pa_cons (pv 0) pa_nil)) (nomark _)) (pe_one (pe_m1 PySem.F.slot_str_startswith PySem.F.type_str_startswith mt_startsW (pv 1) (pe_slice sl_strW (pv 0) (po_some (pv 2)) po_none)))))), ?_⟩
  obtain ⟨p, w', n, rfl, rfl, rfl, hp, h⟩ := h
  walk_at "go"
  unfold suitB at h
  refine ite_d (fun c1 => ?_) fun c1 => ?_
  · rw [decide_eq_true (show p.length ≤ n by omega)] at h
    exact h
  · rw [decide_eq_false (show ¬ p.length ≤ n by omega), Bool.false_or] at h
    walk_at "go"
    exact h
def sp_least_suitable (K : PySem.W.Frag) : Sp := S3 fun a b c H Q _ => ∃ (p w : List Nat) (n : Nat), a = vS p ∧ b = vS w ∧ c = .int n ∧ p.length ≤ 20000 ∧ Q (.int (leastS p w n)) H
theorem ok_least_suitable (T : Tx K mg) : Fx P w K mg base CX0 2 (A_least_suitable K) (sp_least_suitable K) := by
  obtain ⟨fd, F⟩ := T.D_least_suitable
  refine fx_of F sc_least_suitable (F.bindsN fun _ _ _ _ _ _ us hl => match us, hl with | [_, _, _], _ => rfl) S3.len fun cdv A outer s H vs Q E hr h => ?_
  obtain ⟨a0, a1, a2, rfl, h⟩ := h
  refine ⟨_, PSs.nox (pss_cons (ps_set (i := 3) sc_least_suitable.nd rfl (.inl rfl) (pv 2))
    (pss_cons (ps_while PassesOwn.never (pt_not (pt_val (pcall (ok_is_suitable T) T.g_is_suitable hr (by decide) rfl pass0 (pa_cons (pv 0) (pa_cons (pv 1) (pa_cons (pv 3) pa_nil)))))) (pss_one (ps_aug (i := 3) sc_least_suitable.nd rfl (.inl rfl) pe_int ip_add)))
    (pss_one (ps_ret (pv 3))))), ?_⟩
  obtain ⟨p, w', n, rfl, rfl, rfl, hp, h⟩ := h
  walk_at "go"
  refine ⟨fun m σ' H' => ∃ k : Nat, m = p.length - k ∧ σ' = [some (vS p), some (vS w'), some (V.int n), some (V.int k)] ∧ H' = H ∧ leastS p w' k = leastS p w' n, ⟨_, n, rfl, rfl, rfl, rfl⟩, ?_⟩
  rintro m σ' H' ⟨k, rfl, rfl, rfl, e⟩
  walk_at "go"
  refine ite_nb (fun c => ?_) fun c => ?_
  · have hk : k < p.length := by
      refine Nat.lt_of_not_le fun z => ?_
      unfold suitB at c
      rw [decide_eq_true z] at c
      cases c
    refine ⟨fun σ' H1 => Hold (∃ m', m' < p.length - k ∧ ∃ k : Nat, m' = p.length - k ∧ σ' = [some (vS p), some (vS w'), some (V.int n), some (V.int k)] ∧ H1 = H' ∧ leastS p w' k = leastS p w' n), fun _ _ z => z.out, ?_⟩
    walk_at "go"
    refine .mk ⟨p.length - (k + 1), by omega, k + 1, rfl, rfl, rfl, ?_⟩
    rw [← e]
    conv => rhs; unfold leastS
    rw [dif_neg (by rw [c]; decide)]
  · walk_at "go"
    rw [← e] at h
    unfold leastS at h
    rw [dif_pos c] at h
    exact h
end
end Qe

namespace Qe
open PySem PySem.Spec PyProof.Rows L2 He
local macro_rules | `(tactic| walk_at "lk") => `(tactic| first
  | assumption
  | exact upd_same
  | (refine (upd_ne (by assumption)).trans ?_; walk_at "lk"))
local macro_rules | `(tactic| walk_at "sd") => `(tactic| first
  | rfl
  | assumption
  | exact SqL.of (by assumption)
  | exact .inl (SqL.of (by assumption))
  | exact SqT.of (by assumption)
  | exact ⟨_, SqL.of (by assumption)⟩
  | exact .inr (SqT.of (by assumption))
  | exact .inl ⟨rfl, _, SqL.of (by assumption)⟩
  | exact upd_same
  | (refine (upd_ne (by assumption)).trans ?_; walk_at "lk")
  | exact ⟨_, rfl⟩
  | exact NN.none
  | exact NN.some (by omega)
  | exact lt1
  | exact lt2
  | exact lt3
  | exact lt4
  | exact sz0
  | exact sz1
  | exact sz2
  | exact sz3
  | exact sz4
  | exact small20 (by first | omega | (rw [List.length_map]; omega))
  | exact True.intro
  | omega
  | (dsimp only [List.length_cons, List.length_nil]; omega))
local macro_rules | `(tactic| walk_at "go") => `(tactic| first
  | ((with_reducible refine tSeq_i ?_); walk_at "go")
  | ((with_reducible refine gName_i ?_); walk_at "go")
  | ((with_reducible refine tNext_i ?_); walk_at "go")
  | ((with_reducible refine iteT ?_); walk_at "go")
  | ((with_reducible refine iteF ?_); walk_at "go")
  | (with_reducible refine (show tLockE _ _ _ _ from ?_))
  | (with_reducible refine (show tLock _ _ _ _ from ?_))
  | (with_reducible refine (show (∃ W : Nat → Nat → L2.St → Hp → Prop, _) from ?_))
  | (with_reducible refine (show C8.tCut _ _ _ _ _ from ?_))
  | (with_reducible refine (show tWhile _ _ _ _ _ from ?_))
  | (apply Exists.intro; walk_at "go")
  | (apply And.intro; (focus (walk_at "sd")); walk_at "go")
  | skip)

section
variable {P : Program} {w : World} {K : PySem.W.Frag}
      {mg : Str → Option Value} {base : Heap}

def sp_first_unlooking (K : PySem.W.Frag) : Sp := S2 fun a b H Q _ => ∃ (p : Addr) (st : List Step) (m : Int), a = .ref p ∧ b = .int m ∧ StL H p st ∧ (st.length : Int) ≤ m ∧ (∀ s ∈ st, s.ok) ∧ ∀ H', Same H H' → Q .non H'
theorem ok_first_unlooking (T : Tx K mg) : Fx P w K mg base CX0 2 (A_first_unlooking K) (sp_first_unlooking K) := by
  obtain ⟨fd, F⟩ := T.D_first_unlooking
  refine fx_of F sc_first_unlooking (F.bindsN fun _ _ _ _ _ _ us hl => match us, hl with | [_, _], _ => rfl) S2.len fun cdv A outer s H vs Q E hr h => ?_
  obtain ⟨a0, a1, rfl, h⟩ := h
  refine ⟨_, PSs.nox (pss_cons (ps_if (PW.pt (pw_or (pt_not (pt_val (pe_callB isL_list rfl T.f_isinstance boot_isinstance (pa_cons (pv 0) (pa_cons (pe_bltn (v := .ty "list") rfl T.f_list boot_list rfl) pa_nil))))) (pw_or1 (pt_cmpR op_gt (pe_callB call_len_seq rfl T.f_len boot_len (pa_cons (pv 0) pa_nil)) (pv 1) (nomark _))))) (pss_one (ps_ret (pe_tup (pa_cons pe_non pa_nil)))) pss_nil)
    (pss_cons (ps_for PassesOwn.never rfl (pi_enum rfl T.f_enumerate (pa_cons (pv 0) pa_nil)) (pg_tup rfl (pgs_cons (pg_name (i := 2) sc_first_unlooking.nd rfl (.inl rfl)) (pgs_cons (pg_name (i := 3) sc_first_unlooking.nd rfl (.inl rfl)) pgs_nil))) (pss_one (ps_if (PW.pt (pw_and (pt_not (pt_val (pcall (ok_is_step T) T.g_is_step hr (by decide) rfl pass0 (pa_cons (pv 3) pa_nil)))) (pw_and1 (pt_not (pt_val (pcall (ok_is_look T) T.g_is_look hr (by decide) rfl pass0 (pa_cons (pv 3) pa_nil))))))) (pss_one (ps_ret (pe_tup (pa_cons (pv 2) pa_nil)))) pss_nil)))
    (pss_one (ps_ret pe_non)))), ?_⟩
  obtain ⟨p, st, m, rfl, rfl, hp, hm, hok, h⟩ := h
  have hlen : decide (m < ((st.map vT).length : Int)) = false := by rw [List.length_map]; exact decide_eq_false (by omega)
  walk_at "go"
  rw [hlen]
  walk_at "go"
  refine for_enumL (xs := st.map vT) (fun i σ' H' => Hold (Same H H' ∧ ∃ x y, σ' = [some (.ref p), some (.int m), x, y])) (.mk ⟨Same.refl _, _, _, rfl⟩) (fun i σ' H' _ q => SqL.of (q.out.1 _ _ hp)) (fun i x σ' H1 T H2 hx q hT hT2 s2 => ?_) fun σ' H1 q => ?_
  · obtain ⟨s1, x1, y1, rfl⟩ := q.out
    obtain ⟨s, hs, rfl⟩ := map_get hx
    have sok := hok s (List.mem_of_getElem? hs)
    walk_at "go"
    by_cases e : s.1 = 63
    · rw [decide_eq_true e]
      walk_at "go"
      rw [decide_eq_true e]
      walk_at "go"
      exact .mk ⟨s1.trans s2, _, _, rfl⟩
    · rw [decide_eq_false e]
      walk_at "go"
      exact .mk ⟨s1.trans s2, _, _, rfl⟩
  · exact h H1 q.out.1
def sp_check_looking (K : PySem.W.Frag) : Sp := S2 fun a b H Q _ => ∃ (p : Addr) (st : List Step) (m : Int), a = .ref p ∧ b = .int m ∧ StL H p st ∧ (st.length : Int) ≤ m ∧ (∀ s ∈ st, s.ok) ∧ ∀ H', Same H H' → Q .non H'
theorem ok_check_looking (T : Tx K mg) : Fx P w K mg base CX0 3 (A_check_looking K) (sp_check_looking K) := by
  obtain ⟨fd, F⟩ := T.D_check_looking
  refine fx_of F sc_check_looking (F.bindsN fun _ _ _ _ _ _ us hl => match us, hl with | [_, _], _ => rfl) S2.len fun cdv A outer s H vs Q E hr h => ?_
  obtain ⟨a0, a1, rfl, h⟩ := h
  refine ⟨_, PSs.nox (pss_cons (ps_set (i := 2) sc_check_looking.nd rfl (.inl rfl) (pcall (ok_first_unlooking T) T.g_first_unlooking hr (by decide) rfl pass0 (pa_cons (pv 0) (pa_cons (pv 1) pa_nil))))
    (pss_one (ps_if (pt_cmpR op_notN (pv 2) pe_non (nomark _)) (pss_one (ps_never)) pss_nil))), ?_⟩
  obtain ⟨p, st, m, rfl, rfl, hp, hm, hok, h⟩ := h
  walk_at "go"
  intro H1 s1
  walk_at "go"
  exact h H1 s1
def sp_after_look (K : PySem.W.Frag) : Sp := S2 fun a b H Q _ => ∃ (q : List Nat) (s : Step), a = vS q ∧ b = vT s ∧ q.length ≤ 10000 ∧ Q (vO (after q s)) H
theorem ok_after_look (T : Tx K mg) : Fx P w K mg base CX0 1 (A_after_look K) (sp_after_look K) := by
  obtain ⟨fd, F⟩ := T.D_after_look
  refine fx_of F sc_after_look (F.bindsN fun _ _ _ _ _ _ us hl => match us, hl with | [_, _], _ => rfl) S2.len fun cdv A outer s H vs Q E hr h => ?_
  obtain ⟨a0, a1, rfl, h⟩ := h
  refine ⟨_, PSs.nox (pss_cons (ps_if (pt_cmpR op_eqW (pe_ix ix_strW (pv 1) pe_int (fun _ _ => rfl)) (pe_sC [43] (by decide +kernel)) (nomark _)) (pss_one (ps_ret (pe_op op_addW (pv 0) (pe_ix ix_strW (pv 1) pe_int (fun _ _ => rfl))))) pss_nil)
    (pss_cons (ps_if (pt_cmpR op_neW (pe_slice sl_strW (pv 0) po_none (po_some pe_int)) (pe_ix ix_strW (pv 1) pe_int (fun _ _ => rfl)) (nomark _)) (pss_one (ps_ret pe_non)) pss_nil)
    (pss_one (ps_ret (pe_ifExp (pt_cmpR op_eqW (pe_ix ix_strW (pv 1) pe_int (fun _ _ => rfl)) (pe_sC [63] (by decide +kernel)) (nomark _)) (pv 0) (pe_slice sl_strW (pv 0) (po_some pe_int) po_none)))))), ?_⟩
  obtain ⟨q, ⟨g, c⟩, rfl, rfl, hq, h⟩ := h
  unfold after at h
  walk_at "go"
  refine ite_d (fun e1 => ?_) fun e1 => ?_
  · rw [if_pos (List.cons.inj e1).1] at h
    walk_at "go"
    exact h
  · rw [if_neg (fun z => e1 (by rw [z]))] at h
    walk_at "go"
    refine ite_n (fun e2 => ?_) fun e2 => ?_
    · rw [if_pos (show q.take 1 ≠ [c] from e2)] at h
      exact h
    · rw [if_neg (show ¬ q.take 1 ≠ [c] from fun z => z e2)] at h
      walk_at "go"
      refine ite_d (fun e3 => ?_) fun e3 => ?_
      · rw [if_pos (List.cons.inj e3).1] at h
        walk_at "go"
        exact h
      · rw [if_neg (fun z => e3 (by rw [z]))] at h
        walk_at "go"
        exact h
def sp_execute_looking (K : PySem.W.Frag) : Sp := S2 fun a b H Q _ => ∃ (q r : List Nat) (p : Addr) (st : List Step), a = vS q ∧ b = .ref p ∧ StL H p st ∧ q.length + st.length ≤ 10000 ∧ runS q st = some r ∧
  ∀ t H', H t = none → H' t = some (.tup [vS r, .non]) → Same H H' → Q (.ref t) H'
theorem ok_execute_looking (T : Tx K mg) : Fx P w K mg base CX0 2 (A_execute_looking K) (sp_execute_looking K) := by
  obtain ⟨fd, F⟩ := T.D_execute_looking
  refine fx_of F sc_execute_looking (F.bindsN fun _ _ _ _ _ _ us hl => match us, hl with | [_, _], _ => rfl) S2.len fun cdv A outer s H vs Q E hr h => ?_
  obtain ⟨a0, a1, rfl, h⟩ := h
  refine ⟨_, PSs.nox (pss_cons (ps_for PassesOwn.never rfl (pi_enum rfl T.f_enumerate (pa_cons (pv 1) pa_nil)) (pg_tup rfl (pgs_cons (pg_name (i := 2) sc_execute_looking.nd rfl (.inl rfl)) (pgs_cons (pg_name (i := 3) sc_execute_looking.nd rfl (.inl rfl)) pgs_nil))) (pss_cons (ps_set (i := 4) sc_execute_looking.nd rfl (.inl rfl) (pcall (ok_after_look T) T.g_after_look hr (by decide) rfl pass0 (pa_cons (pv 0) (pa_cons (pv 3) pa_nil))))
    (pss_cons (ps_if (pt_cmpR op_isN (pv 4) pe_non (nomark _)) (pss_one (ps_ret (pe_tup (pa_cons (pv 0) (pa_cons (pv 2) pa_nil))))) pss_nil)
    (pss_one (ps_set (i := 0) sc_execute_looking.nd rfl (.inl rfl) (pv 4))))))
    (pss_one (ps_ret (pe_tup (pa_cons (pv 0) (pa_cons pe_non pa_nil)))))), ?_⟩
  obtain ⟨q, r, p, st, rfl, rfl, hp, hl, hr2, h⟩ := h
  walk_at "go"
  refine for_enumL (xs := st.map vT) (fun i σ' H' => Hold (Same H H' ∧ ∃ qi x y z, runS q (st.take i) = some qi ∧ σ' = [some (vS qi), some (.ref p), x, y, z])) (.mk ⟨Same.refl _, _, _, _, _, rfl, rfl⟩) (fun i σ' H' _ q => SqL.of (q.out.1 _ _ hp)) (fun i x σ' H1 T H2 hx pv hT hT2 s2 => ?_) fun σ' H1 pv => ?_
  · obtain ⟨s1, qi, x1, y1, z1, hqi, rfl⟩ := pv.out
    obtain ⟨s, hs, rfl⟩ := map_get hx
    obtain ⟨qj, hqj⟩ := runS_take hr2 (i + 1)
    have hil : i < st.length := (List.getElem?_eq_some_iff.mp hs).1
    have hlen := runS_len hqi
    rw [List.length_take] at hlen
    have hq2 := hqj
    rw [take_snoc hs, runS_snoc, hqi] at hq2
    walk_at "go"
    rw [show after qi s = some qj from hq2]
    walk_at "go"
    exact .mk ⟨s1.trans s2, _, _, _, _, hqj, rfl⟩
  · obtain ⟨s1, qi, x1, y1, z1, hqi, rfl⟩ := pv.out
    rw [List.length_map, List.take_length, hr2] at hqi
    cases hqi
    walk_at "go"
    exact fun t ht => h t _ (s1.free ht) upd_same (s1.updN (s1.free ht))
def sp_run_looking (K : PySem.W.Frag) : Sp := S2 fun a b H Q _ => ∃ (q r : List Nat) (p : Addr) (st : List Step), a = vS q ∧ b = .ref p ∧ StL H p st ∧ isQ q ∧ st.length ≤ 400 ∧ (∀ s ∈ st, s.ok) ∧ runS q st = some r ∧ ∀ H', Same H H' → Q (vS r) H'
theorem ok_run_looking (T : Tx K mg) : Fx P w K mg base CX0 4 (A_run_looking K) (sp_run_looking K) := by
  obtain ⟨fd, F⟩ := T.D_run_looking
  refine fx_of F sc_run_looking (F.bindsN fun _ _ _ _ _ _ us hl => match us, hl with | [_, _], _ => rfl) S2.len fun cdv A outer s H vs Q E hr h => ?_
  obtain ⟨a0, a1, rfl, h⟩ := h
  refine ⟨_, PSs.nox (pss_cons (ps_expr (pcall (ok_check_queue T) T.g_check_queue hr (by decide) rfl pass0 (pa_cons (pv 0) pa_nil)))
    (pss_cons (ps_expr (pcall (ok_check_looking T) T.g_check_looking hr (by decide) rfl pass0 (pa_cons (pv 1) (pa_cons (C8.pe_gc rfl (gI (T.i_MAX_STEPS))) pa_nil))))
    (pss_cons (ps_asg (pcall (ok_execute_looking T) T.g_execute_looking hr (by decide) rfl pass0 (pa_cons (pv 0) (pa_cons (pv 1) pa_nil))) (pg_tup rfl (pgs_cons (pg_name (i := 2) sc_run_looking.nd rfl (.inl rfl)) (pgs_cons (pg_name (i := 3) sc_run_looking.nd rfl (.inl rfl)) pgs_nil))))
    (pss_cons (ps_if (pt_cmpR op_notN (pv 3) pe_non (nomark _)) (pss_one (ps_never)) pss_nil)
    (pss_one (ps_ret (pv 2))))))), ?_⟩
  obtain ⟨q, r, p, st, rfl, rfl, hp, hq, hl, hok, hr2, h⟩ := h
  have hq1 := hq.1
  walk_at "go"
  intro H1 s1
  have hp1 := s1 _ _ hp
  walk_at "go"
  intro H2 s2
  have hp2 := s2 _ _ hp1
  walk_at "go"
  intro t H3 ht ht3 s3
  walk_at "go"
  exact h _ ((s1.trans s2).trans s3)
end
end Qe

namespace Qe
open PySem PySem.Spec PyProof.Rows L2 He
local macro_rules | `(tactic| walk_at "lk") => `(tactic| first
  | assumption
  | exact upd_same
  | (refine (upd_ne (by assumption)).trans ?_; walk_at "lk"))
local macro_rules | `(tactic| walk_at "sd") => `(tactic| first
  | rfl
  | assumption
  | exact SqL.of (by assumption)
  | exact .inl (SqL.of (by assumption))
  | exact SqT.of (by assumption)
  | exact ⟨_, SqL.of (by assumption)⟩
  | exact .inr (SqT.of (by assumption))
  | exact .inl ⟨rfl, _, SqL.of (by assumption)⟩
  | exact upd_same
  | (refine (upd_ne (by assumption)).trans ?_; walk_at "lk")
  | exact ⟨_, rfl⟩
  | exact NN.none
  | exact NN.some (by omega)
  | exact lt1
  | exact lt2
  | exact lt3
  | exact lt4
  | exact sz0
  | exact sz1
  | exact sz2
  | exact sz3
  | exact sz4
  | exact small20 (by first | omega | (rw [List.length_map]; omega))
  | exact True.intro
  | omega
  | (dsimp only [List.length_cons, List.length_nil]; omega))
local macro_rules | `(tactic| walk_at "go") => `(tactic| first
  | ((with_reducible refine tSeq_i ?_); walk_at "go")
  | ((with_reducible refine gName_i ?_); walk_at "go")
  | ((with_reducible refine tNext_i ?_); walk_at "go")
  | ((with_reducible refine iteT ?_); walk_at "go")
  | ((with_reducible refine iteF ?_); walk_at "go")
  | (with_reducible refine (show tLockE _ _ _ _ from ?_))
  | (with_reducible refine (show tLock _ _ _ _ from ?_))
  | (with_reducible refine (show (∃ W : Nat → Nat → L2.St → Hp → Prop, _) from ?_))
  | (with_reducible refine (show C8.tCut _ _ _ _ _ from ?_))
  | (with_reducible refine (show tWhile _ _ _ _ _ from ?_))
  | (apply Exists.intro; walk_at "go")
  | (apply And.intro; (focus (walk_at "sd")); walk_at "go")
  | skip)

section
variable {P : Program} {w : World} {K : PySem.W.Frag}
      {mg : Str → Option Value} {base : Heap}

def sp_LookEffect_init (K : PySem.W.Frag) : Sp := S5 fun a b c d f H Q _ => ∃ (x dx : Addr) (e : Eff), a = .ref x ∧ b = vS e.p ∧ c = .int e.t ∧ d = vS e.w ∧ f = .int e.c ∧ e.ok ∧ H x = some (.ins (ga K "LookEffect") dx []) ∧
  ∀ H', H' x = some (.ins (ga K "LookEffect") dx (leF e)) → But x H H' → Q .non H'
theorem ok_LookEffect_init (T : Tx K mg) : Fx P w K mg base CX0 3 (A_LookEffect_init K) (sp_LookEffect_init K) := by
  obtain ⟨fd, F⟩ := T.D_LookEffect_init
  refine fx_of F sc_LookEffect_init (F.bindsN fun _ _ _ _ _ _ us hl => match us, hl with | [_, _, _, _, _], _ => rfl) S5.len fun cdv A outer s H vs Q E hr h => ?_
  obtain ⟨a0, a1, a2, a3, a4, rfl, h⟩ := h
  refine ⟨_, PSs.nox (pss_cons (ps_if (pt_not (pt_val (pcall (ok_is_word T) T.g_is_word hr (by decide) rfl pass0 (pa_cons (pv 1) (pa_cons (C8.pe_gc rfl (gI (T.i_MAX_ITEMS))) pa_nil))))) (pss_one (ps_never)) pss_nil)
    (pss_cons (ps_if (pt_not (pt_val (pcall (ok_in_range T) T.g_in_range hr (by decide) rfl pass0 (pa_cons (pv 2) (pa_cons (pe_callB (call_max2 rfl) rfl T.f_max boot_max (pa_cons (pe_op op_sub (pe_callB call_lenW rfl T.f_len boot_len (pa_cons (pv 1) pa_nil)) pe_int) (pa_cons pe_int pa_nil))) (pa_cons (pe_callB call_lenW rfl T.f_len boot_len (pa_cons (pv 1) pa_nil)) pa_nil)))))) (pss_one (ps_never)) pss_nil)
    (pss_cons (ps_if (pt_not (pt_val (pcall (ok_is_word T) T.g_is_word hr (by decide) rfl pass0 (pa_cons (pv 3) (pa_cons (C8.pe_gc rfl (gI (T.i_MAX_ITEMS))) pa_nil))))) (pss_one (ps_never)) pss_nil)
    (pss_cons (ps_if (PW.pt (pw_or (pt_not (pt_val (pcall (ok_in_range T) T.g_in_range hr (by decide) rfl pass0 (pa_cons (pv 4) (pa_cons pe_int (pa_cons (pe_callB call_lenW rfl T.f_len boot_len (pa_cons (pv 1) pa_nil)) pa_nil)))))) (pw_or1 (pt_not (pt_val (pcall (ok_is_suitable T) T.g_is_suitable hr (by decide) rfl pass0 (pa_cons (pv 1) (pa_cons (pv 3) (pa_cons (pv 4) pa_nil))))))))) (pss_one (ps_never)) pss_nil)
    (pss_cons (ps_fld (pv 0) (pv 1) rfl)
    (pss_cons (ps_fld (pv 0) (pv 2) rfl)
    (pss_cons (ps_fld (pv 0) (pv 3) rfl)
    (pss_one (ps_fld (pv 0) (pv 4) rfl))))))))), ?_⟩
  obtain ⟨x, dx, e, rfl, rfl, rfl, rfl, rfl, ok, hx, h⟩ := h
  have cl := T.c_LookEffect
  have n1 := T.n_LookEffect_own_prefix
  have n2 := T.n_LookEffect_own_taken
  have n3 := T.n_LookEffect_own_puts
  have n4 := T.n_LookEffect_own_core
  have ⟨p1, p2, w1, w2, t1, t2, k1, k2⟩ := ok
  have b1 : (decide ((e.p.length : Int) ≤ 2000) && e.p.all isIt) = true := by rw [p2, Bool.and_true]; exact decide_eq_true (by omega)
  have b2 : (decide ((e.w.length : Int) ≤ 2000) && e.w.all isIt) = true := by rw [w2, Bool.and_true]; exact decide_eq_true (by omega)
  have b3 : decide ((if (0 : Int) > (e.p.length : Int) - 1 then 0 else (e.p.length : Int) - 1) ≤ e.t ∧ (e.t : Int) ≤ e.p.length) = true := decide_eq_true ⟨by split <;> omega, by omega⟩
  have b4 : decide ((0 : Int) ≤ e.c ∧ (e.c : Int) ≤ e.p.length) = true := decide_eq_true ⟨by omega, by omega⟩
  walk_at "go"
  intro H1 s1
  rw [b1]
  have hx1 := s1 _ _ hx
  walk_at "go"
  rw [b3]
  walk_at "go"
  intro H2 s2
  rw [b2]
  have hx2 := s2 _ _ hx1
  walk_at "go"
  rw [b4]
  walk_at "go"
  rw [k2]
  walk_at "go"
  exact h _ upd_same ((((But.same (s1.trans s2)).upd).upd.upd).upd)
def sp_LookEffect_prefix (K : PySem.W.Frag) : Sp := S1 fun a H Q _ => ∃ (x : Addr) (e : Eff), a = .ref x ∧ isLE K H x e ∧ Q (vS e.p) H
theorem ok_LookEffect_prefix (T : Tx K mg) : Fx P w K mg base CX0 1 (A_LookEffect_prefix K) (sp_LookEffect_prefix K) := by
  obtain ⟨fd, F⟩ := T.D_LookEffect_prefix
  refine fx_of F sc_LookEffect_prefix (F.bindsN fun _ _ _ _ _ _ us hl => match us, hl with | [_], _ => rfl) S1.len fun cdv A outer s H vs Q E hr h => ?_
  obtain ⟨a0, rfl, h⟩ := h
  refine ⟨_, PSs.nox (pss_one (ps_ret (pe_fld (pv 0) rfl))), ?_⟩
  obtain ⟨x, e, rfl, ⟨dx, hx⟩, h⟩ := h
  have cl := T.c_LookEffect
  have n1 := T.n_LookEffect_own_prefix
  walk_at "go"
  exact h
def sp_LookEffect_taken (K : PySem.W.Frag) : Sp := S1 fun a H Q _ => ∃ (x : Addr) (e : Eff), a = .ref x ∧ isLE K H x e ∧ Q (V.int e.t) H
theorem ok_LookEffect_taken (T : Tx K mg) : Fx P w K mg base CX0 1 (A_LookEffect_taken K) (sp_LookEffect_taken K) := by
  obtain ⟨fd, F⟩ := T.D_LookEffect_taken
  refine fx_of F sc_LookEffect_taken (F.bindsN fun _ _ _ _ _ _ us hl => match us, hl with | [_], _ => rfl) S1.len fun cdv A outer s H vs Q E hr h => ?_
  obtain ⟨a0, rfl, h⟩ := h
  refine ⟨_, PSs.nox (pss_one (ps_ret (pe_fld (pv 0) rfl))), ?_⟩
  obtain ⟨x, e, rfl, ⟨dx, hx⟩, h⟩ := h
  have cl := T.c_LookEffect
  have n1 := T.n_LookEffect_own_taken
  walk_at "go"
  exact h
def sp_LookEffect_puts (K : PySem.W.Frag) : Sp := S1 fun a H Q _ => ∃ (x : Addr) (e : Eff), a = .ref x ∧ isLE K H x e ∧ Q (vS e.w) H
theorem ok_LookEffect_puts (T : Tx K mg) : Fx P w K mg base CX0 1 (A_LookEffect_puts K) (sp_LookEffect_puts K) := by
  obtain ⟨fd, F⟩ := T.D_LookEffect_puts
  refine fx_of F sc_LookEffect_puts (F.bindsN fun _ _ _ _ _ _ us hl => match us, hl with | [_], _ => rfl) S1.len fun cdv A outer s H vs Q E hr h => ?_
  obtain ⟨a0, rfl, h⟩ := h
  refine ⟨_, PSs.nox (pss_one (ps_ret (pe_fld (pv 0) rfl))), ?_⟩
  obtain ⟨x, e, rfl, ⟨dx, hx⟩, h⟩ := h
  have cl := T.c_LookEffect
  have n1 := T.n_LookEffect_own_puts
  walk_at "go"
  exact h
def sp_LookEffect_core (K : PySem.W.Frag) : Sp := S1 fun a H Q _ => ∃ (x : Addr) (e : Eff), a = .ref x ∧ isLE K H x e ∧ Q (V.int e.c) H
theorem ok_LookEffect_core (T : Tx K mg) : Fx P w K mg base CX0 1 (A_LookEffect_core K) (sp_LookEffect_core K) := by
  obtain ⟨fd, F⟩ := T.D_LookEffect_core
  refine fx_of F sc_LookEffect_core (F.bindsN fun _ _ _ _ _ _ us hl => match us, hl with | [_], _ => rfl) S1.len fun cdv A outer s H vs Q E hr h => ?_
  obtain ⟨a0, rfl, h⟩ := h
  refine ⟨_, PSs.nox (pss_one (ps_ret (pe_fld (pv 0) rfl))), ?_⟩
  obtain ⟨x, e, rfl, ⟨dx, hx⟩, h⟩ := h
  have cl := T.c_LookEffect
  have n1 := T.n_LookEffect_own_core
  walk_at "go"
  exact h
def sp_LookEffect_accepts (K : PySem.W.Frag) : Sp := S2 fun a b H Q _ => ∃ (x : Addr) (e : Eff) (q : List Nat), a = .ref x ∧ b = vS q ∧ isLE K H x e ∧ e.w.length ≤ 2000 ∧ isQ q ∧ ∀ H', Same H H' → Q (.bl (e.acc q)) H'
theorem ok_LookEffect_accepts (T : Tx K mg) : Fx P w K mg base CX0 4 (A_LookEffect_accepts K) (sp_LookEffect_accepts K) := by
  obtain ⟨fd, F⟩ := T.D_LookEffect_accepts
  refine fx_of F sc_LookEffect_accepts (F.bindsN fun _ _ _ _ _ _ us hl => match us, hl with | [_, _], _ => rfl) S2.len fun cdv A outer s H vs Q E hr h => ?_
  obtain ⟨a0, a1, rfl, h⟩ := h
  refine ⟨_, PSs.nox (pss_cons (ps_expr (pcall (ok_check_queue T) T.g_check_queue hr (by decide) rfl pass0 (pa_cons (pv 1) pa_nil)))
    (pss_one (ps_ret (pe_and (pe_cmpR op_ge (pe_callB call_lenW rfl T.f_len boot_len (pa_cons (pv 1) pa_nil)) (pe_fld (pv 0) rfl) (nomark _)) (pe_one (pe_m1 PySem.F.slot_str_startswith PySem.F.type_str_startswith mt_startsW (pe_op op_addW (pv 1) (pe_fld (pv 0) rfl)) (pe_fld (pv 0) rfl))))))), ?_⟩
  obtain ⟨x, e, q, rfl, rfl, hx, hw, hq, h⟩ := h
  have cl := T.c_LookEffect
  have n1 := T.n_LookEffect_own_prefix
  have n3 := T.n_LookEffect_own_puts
  have n4 := T.n_LookEffect_own_core
  have hq1 := hq.1
  walk_at "go"
  intro H1 s1
  obtain ⟨dx, hx1⟩ := hx.same s1
  unfold Eff.acc at h
  walk_at "go"
  refine ite_d (fun c1 => ?_) fun c1 => ?_
  · rw [decide_eq_true (show e.c ≤ q.length by omega), Bool.true_and] at h
    walk_at "go"
    exact h _ s1
  · rw [decide_eq_false (show ¬ e.c ≤ q.length by omega), Bool.false_and] at h
    exact h _ s1
def sp_LookEffect_apply (K : PySem.W.Frag) : Sp := S2 fun a b H Q _ => ∃ (x : Addr) (e : Eff) (q : List Nat), a = .ref x ∧ b = vS q ∧ isLE K H x e ∧ e.w.length ≤ 2000 ∧ isQ q ∧ e.acc q = true ∧ ∀ H', Same H H' → Q (vS ((q ++ e.w).drop e.t)) H'
theorem ok_LookEffect_apply (T : Tx K mg) : Fx P w K mg base CX0 5 (A_LookEffect_apply K) (sp_LookEffect_apply K) := by
  obtain ⟨fd, F⟩ := T.D_LookEffect_apply
  refine fx_of F sc_LookEffect_apply (F.bindsN fun _ _ _ _ _ _ us hl => match us, hl with | [_, _], _ => rfl) S2.len fun cdv A outer s H vs Q E hr h => ?_
  obtain ⟨a0, a1, rfl, h⟩ := h
  refine ⟨_, PSs.nox (pss_cons (ps_if (pt_not (pt_val (pmeth (ok_LookEffect_accepts T) T.c_LookEffect T.m_LookEffect_accepts hr (by decide) pass0 (pv 0) (pa_cons (pv 1) pa_nil)))) (pss_one (ps_never)) pss_nil)
    (pss_one (ps_ret (pe_slice sl_strW (pe_op op_addW (pv 1) (pe_fld (pv 0) rfl)) (po_some (pe_fld (pv 0) rfl)) po_none)))), ?_⟩
  obtain ⟨x, e, q, rfl, rfl, hx, hw, hq, hacc, h⟩ := h
  obtain ⟨dx0, hx0⟩ := id hx
  have cl := T.c_LookEffect
  have n2 := T.n_LookEffect_own_taken
  have n3 := T.n_LookEffect_own_puts
  have hq1 := hq.1
  walk_at "go"
  intro H1 s1
  rw [hacc]
  obtain ⟨dx, hx1⟩ := hx.same s1
  walk_at "go"
  refine ⟨by rw [List.length_append]; omega, NN.some (by omega), NN.none, ?_⟩
  exact h _ s1
def sp_look_parts (K : PySem.W.Frag) : Sp := S1 fun a H Q _ => ∃ (x : Addr) (e : Eff), a = .ref x ∧ isLE K H x e ∧ ∀ t H', H t = none → H' t = some (.tup (leT e)) → Same H H' → Q (.ref t) H'
theorem ok_look_parts (T : Tx K mg) : Fx P w K mg base CX0 3 (A_look_parts K) (sp_look_parts K) := by
  obtain ⟨fd, F⟩ := T.D_look_parts
  refine fx_of F sc_look_parts (F.bindsN fun _ _ _ _ _ _ us hl => match us, hl with | [_], _ => rfl) S1.len fun cdv A outer s H vs Q E hr h => ?_
  obtain ⟨a0, rfl, h⟩ := h
  refine ⟨_, PSs.nox (pss_one (ps_ret (pe_tup (pa_cons (pprop (ok_LookEffect_prefix T) T.c_LookEffect T.p_LookEffect_prefix hr (by decide) pass0 (pv 0) rfl) (pa_cons (pprop (ok_LookEffect_taken T) T.c_LookEffect T.p_LookEffect_taken hr (by decide) pass0 (pv 0) rfl) (pa_cons (pprop (ok_LookEffect_puts T) T.c_LookEffect T.p_LookEffect_puts hr (by decide) pass0 (pv 0) rfl) (pa_cons (pprop (ok_LookEffect_core T) T.c_LookEffect T.p_LookEffect_core hr (by decide) pass0 (pv 0) rfl) pa_nil))))))), ?_⟩
  obtain ⟨x, e, rfl, hx, h⟩ := h
  obtain ⟨dx, hx0⟩ := id hx
  walk_at "go"
  exact fun t ht => h t _ ht upd_same (Same.new ht)
def sp_LookEffect_eq (K : PySem.W.Frag) : Sp := S2 fun a b H Q _ => ∃ (x y : Addr) (e f : Eff), a = .ref x ∧ b = .ref y ∧ isLE K H x e ∧ isLE K H y f ∧ e.ok ∧ f.ok ∧ ∀ H', Same H H' → Q (.bl (decide (e = f))) H'
theorem ok_LookEffect_eq (T : Tx K mg) : Fx P w K mg base CX0 4 (A_LookEffect_eq K) (sp_LookEffect_eq K) := by
  obtain ⟨fd, F⟩ := T.D_LookEffect_eq
  refine fx_of F sc_LookEffect_eq (F.bindsN fun _ _ _ _ _ _ us hl => match us, hl with | [_, _], _ => rfl) S2.len fun cdv A outer s H vs Q E hr h => ?_
  obtain ⟨a0, a1, rfl, h⟩ := h
  refine ⟨_, PSs.nox (pss_one (ps_ret (pe_and (pe_callB (C8.call_isC T.is_LookEffect) rfl T.f_isinstance boot_isinstance (pa_cons (pv 1) (pa_cons (pe_glob (v := .ref (ga K "LookEffect")) rfl T.g_LookEffect rfl) pa_nil))) (pe_one (pe_cmpR (op_eqTF hr.units) (pcall (ok_look_parts T) T.g_look_parts hr (by decide) rfl pass0 (pa_cons (pv 0) pa_nil)) (pcall (ok_look_parts T) T.g_look_parts hr (by decide) rfl pass0 (pa_cons (pv 1) pa_nil)) (nomark _)))))), ?_⟩
  obtain ⟨x, y, e, f, rfl, rfl, hx, hy, oe, of, h⟩ := h
  obtain ⟨dx, hx0⟩ := id hx
  obtain ⟨dy, hy0⟩ := id hy
  walk_at "go"
  intro t1 H1 ht1 e1 s1
  have hy1 := hy.same s1
  walk_at "go"
  intro t2 H2 ht2 e2 s2
  have e1' := s2 _ _ e1
  have k : ∀ g : Eff, g.ok → allOk [.s g.p, .i g.t, .s g.w, .i g.c] = true := fun g og => by
    show (chOk g.p && (true && (chOk g.w && (true && true)))) = true
    rw [chOk_it og.p2, chOk_it og.w2]; rfl
  refine ⟨t1, t2, [.s e.p, .i e.t, .s e.w, .i e.c], [.s f.p, .i f.t, .s f.w, .i f.c], rfl, rfl, e1', e2, k e oe, k f of, ?_⟩
  have q := h H2 (s1.trans s2)
  rw [show decide (e = f) = decide ([FD.s e.p, .i e.t, .s e.w, .i e.c] = [.s f.p, .i f.t, .s f.w, .i f.c]) from decide_eq_decide.mpr ⟨fun z => by rw [z], fun z => by
    injection z with z1 z; injection z with z2 z; injection z with z3 z; injection z with z4 z
    injection z1 with z1; injection z2 with z2; injection z3 with z3; injection z4 with z4
    obtain ⟨e1, e2, e3, e4⟩ := e
    obtain ⟨f1, f2, f3, f4⟩ := f
    simp only at z1 z2 z3 z4
    have z2' : e3 = f3 := by omega
    have z4' : e4 = f4 := by omega
    rw [z1, z2', z3, z4']⟩] at q
  exact q
def sp_check_look (K : PySem.W.Frag) : Sp := S1 fun a H Q _ => ∃ (x : Addr) (e : Eff), a = .ref x ∧ isLE K H x e ∧ Q .non H
theorem ok_check_look (T : Tx K mg) : Fx P w K mg base CX0 1 (A_check_look K) (sp_check_look K) := by
  obtain ⟨fd, F⟩ := T.D_check_look
  refine fx_of F sc_check_look (F.bindsN fun _ _ _ _ _ _ us hl => match us, hl with | [_], _ => rfl) S1.len fun cdv A outer s H vs Q E hr h => ?_
  obtain ⟨a0, rfl, h⟩ := h
  refine ⟨_, PSs.nox (pss_one (ps_if (pt_not (pt_val (pe_callB (C8.call_isC T.is_LookEffect) rfl T.f_isinstance boot_isinstance (pa_cons (pv 0) (pa_cons (pe_glob (v := .ref (ga K "LookEffect")) rfl T.g_LookEffect rfl) pa_nil))))) (pss_one (ps_never)) pss_nil)), ?_⟩
  obtain ⟨x, e, rfl, ⟨dx, hx⟩, h⟩ := h
  walk_at "go"
  exact h
end
end Qe

namespace Qe
open PySem PySem.Spec PyProof.Rows L2 He
local macro_rules | `(tactic| walk_at "lk") => `(tactic| first
  | assumption
  | exact upd_same
  | (refine (upd_ne (by assumption)).trans ?_; walk_at "lk"))
local macro_rules | `(tactic| walk_at "sd") => `(tactic| first
  | rfl
  | assumption
  | exact SqL.of (by assumption)
  | exact .inl (SqL.of (by assumption))
  | exact SqT.of (by assumption)
  | exact ⟨_, SqL.of (by assumption)⟩
  | exact .inr (SqT.of (by assumption))
  | exact .inl ⟨rfl, _, SqL.of (by assumption)⟩
  | exact upd_same
  | (refine (upd_ne (by assumption)).trans ?_; walk_at "lk")
  | exact ⟨_, rfl⟩
  | exact NN.none
  | exact NN.some (by omega)
  | exact lt1
  | exact lt2
  | exact lt3
  | exact lt4
  | exact sz0
  | exact sz1
  | exact sz2
  | exact sz3
  | exact sz4
  | exact small20 (by first | omega | (rw [List.length_map]; omega))
  | exact True.intro
  | omega
  | (dsimp only [List.length_cons, List.length_nil]; omega))
local macro_rules | `(tactic| walk_at "go") => `(tactic| first
  | ((with_reducible refine tSeq_i ?_); walk_at "go")
  | ((with_reducible refine gName_i ?_); walk_at "go")
  | ((with_reducible refine tNext_i ?_); walk_at "go")
  | ((with_reducible refine iteT ?_); walk_at "go")
  | ((with_reducible refine iteF ?_); walk_at "go")
  | (with_reducible refine (show tLockE _ _ _ _ from ?_))
  | (with_reducible refine (show tLock _ _ _ _ from ?_))
  | (with_reducible refine (show (∃ W : Nat → Nat → L2.St → Hp → Prop, _) from ?_))
  | (with_reducible refine (show C8.tCut _ _ _ _ _ from ?_))
  | (with_reducible refine (show tWhile _ _ _ _ _ from ?_))
  | (apply Exists.intro; walk_at "go")
  | (apply And.intro; (focus (walk_at "sd")); walk_at "go")
  | skip)

section
variable {P : Program} {w : World} {K : PySem.W.Frag}
      {mg : Str → Option Value} {base : Heap}

def sp_Collector_init (K : PySem.W.Frag) : Sp := S1 fun a H Q _ => ∃ (x dx : Addr), a = .ref x ∧ H x = some (.ins (ga K "Collector") dx []) ∧ ∀ H' pa wa, isCol K H' x dx pa wa Col0 → H pa = none → H wa = none → But x H H' → Q .non H'
theorem ok_Collector_init (T : Tx K mg) : Fx P w K mg base CX0 1 (A_Collector_init K) (sp_Collector_init K) := by
  obtain ⟨fd, F⟩ := T.D_Collector_init
  refine fx_of F sc_Collector_init (F.bindsN fun _ _ _ _ _ _ us hl => match us, hl with | [_], _ => rfl) S1.len fun cdv A outer s H vs Q E hr h => ?_
  obtain ⟨a0, rfl, h⟩ := h
  refine ⟨_, PSs.nox (pss_cons (ps_fld (pv 0) (pe_lst pa_nil) rfl)
    (pss_cons (ps_fld (pv 0) (pe_lst pa_nil) rfl)
    (pss_cons (ps_fld (pv 0) pe_int rfl)
    (pss_one (ps_fld (pv 0) pe_int rfl))))), ?_⟩
  obtain ⟨x, dx, rfl, hx, h⟩ := h
  have cl := T.c_Collector
  have n1 := T.n_Collector_own_prefix
  have n2 := T.n_Collector_own_taken
  have n3 := T.n_Collector_own_puts
  have n4 := T.n_Collector_own_need
  walk_at "go"
  intro pa hpa
  have hpa1 := upd_same (H := H) (a := pa) (o := HO.lst [])
  have s1 := Same.new (o := HO.lst []) hpa
  generalize upd H pa (HO.lst []) = H1 at hpa1 s1 ⊢
  have hx1 := s1 _ _ hx
  have np : pa ≠ x := fun e => by rw [e] at hpa; rw [hpa] at hx; cases hx
  walk_at "go"
  have hx1' := upd_same (H := H1) (a := x) (o := .ins (ga K "Collector") dx (putF "own_prefix" (V.ref pa) []))
  have fr1 : But x H1 (upd H1 x (.ins (ga K "Collector") dx (putF "own_prefix" (V.ref pa) []))) := But.upd (fun _ _ e _ => e)
  intro wa hwa
  have hwa1 := upd_same (H := upd H1 x (.ins (ga K "Collector") dx (putF "own_prefix" (V.ref pa) []))) (a := wa) (o := HO.lst [])
  have s2 := Same.new (H := upd H1 x (.ins (ga K "Collector") dx (putF "own_prefix" (V.ref pa) []))) (o := HO.lst []) hwa
  have hpa2 := s2 _ _ (fr1 _ _ hpa1 np)
  have hx2 := s2 _ _ hx1'
  have fr2 : But x H (upd (upd H1 x (.ins (ga K "Collector") dx (putF "own_prefix" (V.ref pa) []))) wa (HO.lst [])) := fun b o e nb => s2 _ _ (fr1 _ _ (s1 _ _ e) nb)
  have hwa0 : H wa = none := by
    cases e : H wa with
    | none => rfl
    | some o =>
      by_cases z : wa = x
      · rw [z, hx1'] at hwa; cases hwa
      · exact nomatch (fr1 _ _ (s1 _ _ e) z).symm.trans hwa
  have nw : wa ≠ x := fun e => by rw [e] at hwa0; rw [hwa0] at hx; cases hx
  have npw : pa ≠ wa := fun e => by
    have q := fr1 _ _ hpa1 np
    rw [e] at q
    rw [← e] at hwa
    rw [← e] at q
    rw [hwa] at q; cases q
  walk_at "go"
  generalize upd (upd H1 x (.ins (ga K "Collector") dx (putF "own_prefix" (V.ref pa) []))) wa (HO.lst []) = H2 at hwa1 hpa2 hx2 fr2 ⊢
  walk_at "go"
  refine h _ pa wa ⟨upd_same, ?_, ?_, npw⟩ hpa hwa0 ?_
  · rw [upd_ne np, upd_ne np, upd_ne np]; exact hpa2
  · rw [upd_ne nw, upd_ne nw, upd_ne nw]; exact hwa1
  · intro b o e nb
    rw [upd_ne nb, upd_ne nb, upd_ne nb]
    exact fr2 _ _ e nb
def sp_Collector_add (K : PySem.W.Frag) : Sp := S2 fun a b H Q _ => ∃ (x dx pa wa : Addr) (k k' : Col) (s : Step), a = .ref x ∧ b = vT s ∧ isCol K H x dx pa wa k ∧ k.p.length ≤ 5000 ∧ k.w.length ≤ 5000 ∧ k.inv ∧ k.add s = some k' ∧
  ∀ H', isCol K H' x dx pa wa k' → But3 x pa wa H H' → Q (.bl true) H'
theorem ok_Collector_add (T : Tx K mg) : Fx P w K mg base CX0 1 (A_Collector_add K) (sp_Collector_add K) := by
  obtain ⟨fd, F⟩ := T.D_Collector_add
  refine fx_of F sc_Collector_add (F.bindsN fun _ _ _ _ _ _ us hl => match us, hl with | [_, _], _ => rfl) S2.len fun cdv A outer s H vs Q E hr h => ?_
  obtain ⟨a0, a1, rfl, h⟩ := h
  refine ⟨_, PSs.nox (pss_cons (ps_if (pt_cmpR op_eqW (pe_ix ix_strW (pv 1) pe_int (fun _ _ => rfl)) (pe_sC [43] (by decide +kernel)) (nomark _)) (pss_cons (ps_expr (pe_bm PySem.F.plainAttrs_list PySem.F.slot_list_append PySem.F.type_list_append mt_append (pe_fld (pv 0) rfl) (pa_cons (pe_ix ix_strW (pv 1) pe_int (fun _ _ => rfl)) pa_nil)))
    (pss_one (ps_ret pe_bl))) pss_nil)
    (C8.pss_cut (ps_if (pt_cmpR op_eqI (pe_fld (pv 0) rfl) (pe_callB call_len_seq rfl T.f_len boot_len (pa_cons (pe_fld (pv 0) rfl) pa_nil)) (nomark _)) (pss_one (ps_expr (pe_bm PySem.F.plainAttrs_list PySem.F.slot_list_append PySem.F.type_list_append mt_append (pe_fld (pv 0) rfl) (pa_cons (pe_ix ix_strW (pv 1) pe_int (fun _ _ => rfl)) pa_nil)))) pss_nil)
    (pss_cons (ps_if (pt_cmpR op_neW (pe_ix ix_list (pe_fld (pv 0) rfl) (pe_fld (pv 0) rfl) (fun _ _ => rfl)) (pe_ix ix_strW (pv 1) pe_int (fun _ _ => rfl)) (nomark _)) (pss_one (ps_ret pe_bl)) pss_nil)
    (pss_cons (ps_fld (pv 0) (pe_callB (call_max2 rfl) rfl T.f_max boot_max (pa_cons (pe_fld (pv 0) rfl) (pa_cons (pe_op op_sub (pe_op op_add (pe_fld (pv 0) rfl) pe_int) (pe_callB call_len_seq rfl T.f_len boot_len (pa_cons (pe_fld (pv 0) rfl) pa_nil))) pa_nil))) rfl)
    (C8.pss_cut (ps_if (pt_cmpR op_eqW (pe_ix ix_strW (pv 1) pe_int (fun _ _ => rfl)) (pe_sC [45] (by decide +kernel)) (nomark _)) (pss_one (ps_fldaug (pv 0) pe_int in_add)) pss_nil)
    (pss_one (ps_ret pe_bl))))))), ?_⟩
  obtain ⟨x, dx, pa, wa, k, k', s, rfl, rfl, hk, hp, hw, iv, ha, h⟩ := h
  have ⟨ho, hpp, hww, npw⟩ := hk
  have npx : pa ≠ x := ne_of hpp ho (by intro z; cases z)
  have nwx : wa ≠ x := ne_of hww ho (by intro z; cases z)
  have cl := T.c_Collector
  have n1 := T.n_Collector_own_prefix
  have n2 := T.n_Collector_own_taken
  have n3 := T.n_Collector_own_puts
  have n4 := T.n_Collector_own_need
  walk_at "go"
  refine ite_d (fun c => ?_) fun c => ?_
  · have g : s.1 = 43 := (List.cons.inj c).1
    rw [Col.add_put g] at ha
    cases ha
    walk_at "go"
    refine h _ ⟨by rw [upd_ne nwx.symm]; exact ho, by rw [upd_ne npw]; exact hpp, ?_, npw⟩ fun b o e _ _ nb => by rw [upd_ne nb]; exact e
    rw [upd_same, List.map_append]
    rfl
  · have g : s.1 ≠ 43 := fun z => c (by rw [z])
    obtain ⟨hg, rfl⟩ := Col.add_take g ha
    have lp := (Col.pre_len iv s.2).1
    walk_at "go"
    have en : (if ((k.t : Int) + 1 - ((k.w.map v1).length : Int)) > k.n then ((k.t : Int) + 1 - ((k.w.map v1).length : Int)) else (k.n : Int)) = ((max k.n (k.t + 1 - k.w.length) : Nat) : Int) := by
      rw [List.length_map]; split <;> omega
    refine ⟨fun σ' H1 => Hold (σ' = [some (V.ref x), some (vT s)] ∧ isCol K H1 x dx pa wa ⟨k.pre s.2, k.w, k.t, k.n⟩ ∧ But3 x pa wa H H1), ?_, ?_⟩
    · walk_at "go"
      refine ite_d (fun e => ?_) fun e => ?_
      · have e' : k.t = k.p.length := by rw [List.length_map] at e; omega
        walk_at "go"
        refine .mk ⟨rfl, ⟨by rw [upd_ne npx.symm]; exact ho, ?_, by rw [upd_ne npw.symm]; exact hww, npw⟩, fun b o q _ nb _ => by rw [upd_ne nb]; exact q⟩
        rw [upd_same]
        show _ = some (HO.lst ((k.pre s.2).map v1))
        unfold Col.pre
        rw [if_pos e', List.map_append]
        rfl
      · have e' : k.t ≠ k.p.length := by rw [List.length_map] at e; omega
        walk_at "go"
        refine .mk ⟨rfl, ⟨ho, ?_, hww, npw⟩, fun b o q _ _ _ => q⟩
        show _ = some (HO.lst ((k.pre s.2).map v1))
        unfold Col.pre
        rw [if_neg e']
        exact hpp
    · intro σ' H1 hh
      obtain ⟨rfl, hc1, fr⟩ := hh.out
      have ho1 : H1 x = some (.ins (ga K "Collector") dx [("own_prefix", .ref pa), ("own_puts", .ref wa), ("own_taken", .int k.t), ("own_need", .int k.n)]) := hc1.o
      have hp1 : H1 pa = some (.lst ((k.pre s.2).map v1)) := hc1.p
      have hw1 : H1 wa = some (.lst (k.w.map v1)) := hc1.w
      have hg1 : ((k.pre s.2).map v1)[k.t]? = some (vS [s.2]) := by rw [List.getElem?_map, hg]; rfl
      clear hc1 hh
      walk_at "go"
      refine ⟨atI_nat hg1, ?_⟩
      walk_at "go"
      refine ite_n (fun z => absurd rfl z) fun _ => ?_
      walk_at "go"
      refine ⟨fun σ' H2 => Hold (isCol K H2 x dx pa wa ⟨k.pre s.2, k.w, if s.1 = 45 then k.t + 1 else k.t, max k.n (k.t + 1 - k.w.length)⟩ ∧ But3 x pa wa H H2), ?_, fun σ' H2 hh => h H2 hh.out.1 hh.out.2⟩
      walk_at "go"
      refine ite_d (fun e => ?_) fun e => ?_
      · walk_at "go"
        refine .mk ⟨⟨upd_same.trans ?_, by rw [upd_ne npx, upd_ne npx]; exact hp1, by rw [upd_ne nwx, upd_ne nwx]; exact hw1, npw⟩, fun b o q nb nb2 nb3 => by rw [upd_ne nb, upd_ne nb]; exact fr b o q nb nb2 nb3⟩
        rw [if_pos (show s.1 = 45 from (List.cons.inj e).1), ← en]
        rfl
      · walk_at "go"
        refine .mk ⟨⟨upd_same.trans ?_, by rw [upd_ne npx]; exact hp1, by rw [upd_ne nwx]; exact hw1, npw⟩, fun b o q nb nb2 nb3 => by rw [upd_ne nb]; exact fr b o q nb nb2 nb3⟩
        rw [if_neg (show ¬ s.1 = 45 from fun z => e (by rw [z])), ← en]
        rfl
end
end Qe

namespace Qe
open PySem PySem.Spec PyProof.Rows L2 He
local macro_rules | `(tactic| walk_at "lk") => `(tactic| first
  | assumption
  | exact upd_same
  | (refine (upd_ne (by assumption)).trans ?_; walk_at "lk"))
local macro_rules | `(tactic| walk_at "sd") => `(tactic| first
  | rfl
  | assumption
  | exact SqL.of (by assumption)
  | exact .inl (SqL.of (by assumption))
  | exact SqT.of (by assumption)
  | exact ⟨_, SqL.of (by assumption)⟩
  | exact .inr (SqT.of (by assumption))
  | exact .inl ⟨rfl, _, SqL.of (by assumption)⟩
  | exact upd_same
  | (refine (upd_ne (by assumption)).trans ?_; walk_at "lk")
  | exact ⟨_, rfl⟩
  | exact NN.none
  | exact NN.some (by omega)
  | exact lt1
  | exact lt2
  | exact lt3
  | exact lt4
  | exact sz0
  | exact sz1
  | exact sz2
  | exact sz3
  | exact sz4
  | exact small20 (by first | omega | (rw [List.length_map]; omega))
  | exact True.intro
  | omega
  | (dsimp only [List.length_cons, List.length_nil]; omega))
local macro_rules | `(tactic| walk_at "go") => `(tactic| first
  | ((with_reducible refine tSeq_i ?_); walk_at "go")
  | ((with_reducible refine gName_i ?_); walk_at "go")
  | ((with_reducible refine tNext_i ?_); walk_at "go")
  | ((with_reducible refine iteT ?_); walk_at "go")
  | ((with_reducible refine iteF ?_); walk_at "go")
  | (with_reducible refine (show tLockE _ _ _ _ from ?_))
  | (with_reducible refine (show tLock _ _ _ _ from ?_))
  | (with_reducible refine (show (∃ W : Nat → Nat → L2.St → Hp → Prop, _) from ?_))
  | (with_reducible refine (show C8.tCut _ _ _ _ _ from ?_))
  | (with_reducible refine (show tWhile _ _ _ _ _ from ?_))
  | (apply Exists.intro; walk_at "go")
  | (apply And.intro; (focus (walk_at "sd")); walk_at "go")
  | skip)

section
variable {P : Program} {w : World} {K : PySem.W.Frag}
      {mg : Str → Option Value} {base : Heap}

/-- an exception with one field, new -/
def xdOut (C fl : Str) (v : V) (K : PySem.W.Frag) (H : Hp) (E : XK) : Prop := ∀ d H', H d = none → H' d = some (.xd [(fl, v)]) → Same H H' → E (.ref (ga K C)) (some d) H'
def sp_Collector_effect (K : PySem.W.Frag) : Sp := S1 fun a H Q E => ∃ (x dx pa wa : Addr) (k : Col), a = .ref x ∧ isCol K H x dx pa wa k ∧ k.p.length ≤ 5000 ∧ k.w.length ≤ 5000 ∧ k.inv ∧
  ((k.p.length ≤ 2000 ∧ k.w.length ≤ 2000) → ∀ b H', H b = none → isLE K H' b (effOf k) → Same H H' → Q (.ref b) H') ∧ (¬(k.p.length ≤ 2000 ∧ k.w.length ≤ 2000) → xdOut "LimitExceeded" "limit" (.int 2000) K H E)
theorem ok_Collector_effect (T : Tx K mg) : Fx P w K mg base (CX P w) 5 (A_Collector_effect K) (sp_Collector_effect K) := by
  obtain ⟨fd, F⟩ := T.D_Collector_effect
  refine fx_of F sc_Collector_effect (F.bindsN fun _ _ _ _ _ _ us hl => match us, hl with | [_], _ => rfl) S1.len fun cdv A outer s H vs Q E hr h => ?_
  obtain ⟨a0, rfl, h⟩ := h
  refine ⟨_, (pss_cons (ps_par (i := 1) (j := 2) rfl sc_Collector_effect.nd rfl rfl (by decide) rfl rfl (pa_cons (pe_join0 (pe_sC [] (by decide +kernel)) (pe_fld (pv 0) rfl)) (pa_cons (pe_join0 (pe_sC [] (by decide +kernel)) (pe_fld (pv 0) rfl)) pa_nil)) (by rfl))
    (pss_cons (ps_if (PW.pt (pw_or (pt_cmpR op_gt (pe_callB call_lenW rfl T.f_len boot_len (pa_cons (pv 1) pa_nil)) (C8.pe_gc rfl (gI (T.i_MAX_ITEMS))) (nomark _)) (pw_or1 (pt_cmpR op_gt (pe_callB call_lenW rfl T.f_len boot_len (pa_cons (pv 2) pa_nil)) (C8.pe_gc rfl (gI (T.i_MAX_ITEMS))) (nomark _))))) (pss_one (ps_raise_LimitExceeded rfl T.g_LimitExceeded T.x_LimitExceeded T.ini_LimitExceeded hr (takes_of rfl rfl rfl rfl) (pa_cons (C8.pe_gc rfl (gI (T.i_MAX_ITEMS))) pa_nil))) pss_nil)
    (pss_one (ps_ret (pmake (ok_LookEffect_init T) T.k_LookEffect T.g_LookEffect hr (by decide) rfl pass0 (pa_cons (pv 1) (pa_cons (pe_fld (pv 0) rfl) (pa_cons (pv 2) (pa_cons (pcall (ok_least_suitable T) T.g_least_suitable hr (by decide) rfl pass0 (pa_cons (pv 1) (pa_cons (pv 2) (pa_cons (pe_fld (pv 0) rfl) pa_nil)))) pa_nil))))))))), ?_⟩
  obtain ⟨x, dx, pa, wa, k, rfl, ⟨ho, hpp, hww, npw⟩, hp, hw, iv, h, hx⟩ := h
  rw [mapv1] at hpp hww
  have cl := T.c_Collector
  have n1 := T.n_Collector_own_prefix
  have n2 := T.n_Collector_own_taken
  have n3 := T.n_Collector_own_puts
  have n4 := T.n_Collector_own_need
  walk_at "go"
  refine ⟨by rw [sumS]; omega, ?_⟩
  walk_at "go"
  refine ⟨by rw [sumS]; omega, ?_⟩
  rw [flS, flS]
  walk_at "go"
  refine ite_d (fun c => ?_) fun c => ?_
  · walk_at "go"
    exact fun d hd => hx (fun z => by omega) d _ hd upd_same (Same.new hd)
  · walk_at "go"
    refine ite_d (fun c2 => ?_) fun c2 => ?_
    · walk_at "go"
      exact fun d hd => hx (fun z => by omega) d _ hd upd_same (Same.new hd)
    · walk_at "go"
      intro y dy hy hdy ney
      have cc : k.p.length ≤ 2000 ∧ k.w.length ≤ 2000 := ⟨by omega, by omega⟩
      exact ⟨_, _, _, _, _, rfl, y, dy, effOf k, rfl, rfl, rfl, rfl, rfl, effOf_ok iv cc.1 cc.2, upd_same, fun H' e bt => ⟨rfl, h cc y H' hy ⟨_, e⟩ (Same.made hy hdy bt)⟩⟩
def sp_conflict (K : PySem.W.Frag) : Sp := S1 fun a H Q _ => ∃ (p : Addr) (st : List Step) (k : Col), a = .ref p ∧ StL H p st ∧ st.length ≤ 400 ∧ (∀ s ∈ st, s.ok) ∧ colR Col0 st = some k ∧ ∀ H', Same H H' → Q .non H'
theorem ok_conflict (T : Tx K mg) : Fx P w K mg base CX0 4 (A_conflict K) (sp_conflict K) := by
  obtain ⟨fd, F⟩ := T.D_conflict
  refine fx_of F sc_conflict (F.bindsN fun _ _ _ _ _ _ us hl => match us, hl with | [_], _ => rfl) S1.len fun cdv A outer s H vs Q E hr h => ?_
  obtain ⟨a0, rfl, h⟩ := h
  refine ⟨_, PSs.nox (pss_cons (ps_expr (pcall (ok_check_looking T) T.g_check_looking hr (by decide) rfl pass0 (pa_cons (pv 0) (pa_cons (C8.pe_gc rfl (gI (T.i_MAX_STEPS))) pa_nil))))
    (pss_cons (ps_set (i := 1) sc_conflict.nd rfl (.inl rfl) (pmake0 (ok_Collector_init T) T.k_Collector T.g_Collector hr (by decide) rfl pass0))
    (pss_cons (ps_for PassesOwn.never rfl (pi_enum rfl T.f_enumerate (pa_cons (pv 0) pa_nil)) (pg_tup rfl (pgs_cons (pg_name (i := 2) sc_conflict.nd rfl (.inl rfl)) (pgs_cons (pg_name (i := 3) sc_conflict.nd rfl (.inl rfl)) pgs_nil))) (pss_one (ps_if (pt_not (pt_val (pmeth (ok_Collector_add T) T.c_Collector T.m_Collector_add hr (by decide) pass0 (pv 1) (pa_cons (pv 3) pa_nil)))) (pss_one (ps_ret (pv 2))) pss_nil)))
    (pss_one (ps_ret pe_non))))), ?_⟩
  obtain ⟨p, st, k, rfl, hp, hl, hok, hk, h⟩ := h
  walk_at "go"
  intro H1 s1
  have hp1 := s1 _ _ hp
  walk_at "go"
  intro x dx nx ndx nex
  refine ⟨_, rfl, x, dx, rfl, upd_same, fun H2 pa wa hc npa nwa bt => ?_⟩
  have mk : ∀ H', But3 x pa wa H2 H' → Same H1 H' := fun H' b3 => made_col nx ndx npa nwa bt b3
  have hp2 := mk _ .refl _ _ hp1
  walk_at "go"
  refine for_enumL (xs := st.map vT) (fun i σ' H' => Hold (∃ k' x1 y1, colR Col0 (st.take i) = some k' ∧ isCol K H' x dx pa wa k' ∧ But3 x pa wa H2 H' ∧ σ' = [some (.ref p), some (.ref x), x1, y1])) (.mk ⟨Col0, _, _, rfl, hc, .refl, rfl⟩)
    (fun i σ' H' _ q => ?_) (fun i y σ' H3 U H4 hx pv hU hU2 s3 => ?_) fun σ' H3 pv => ?_
  · obtain ⟨k', x1, y1, e1, e2, e3, _⟩ := q.out
    exact SqL.of (mk _ e3 _ _ hp1)
  · obtain ⟨k', x1, y1, e1, e2, e3, rfl⟩ := pv.out
    obtain ⟨s, hs, rfl⟩ := map_get hx
    obtain ⟨k2, hk2⟩ := colR_take hk (i + 1)
    have hl1 := colR_len e1
    rw [List.length_take] at hl1
    have hz : Col0.w.length = 0 ∧ Col0.p.length = 0 := ⟨rfl, rfl⟩
    have iv := colR_inv Col0.inv (fun z hz => hok z (List.mem_of_mem_take hz)) e1
    rw [take_snoc hs, colR_snoc, e1] at hk2
    have e2' := e2.same s3
    have cl := T.c_Collector
    obtain ⟨ho, _, _, _⟩ := id e2'
    walk_at "go"
    intro H5 c5 b5
    walk_at "go"
    exact .mk ⟨k2, _, _, by rw [take_snoc hs, colR_snoc, e1]; exact hk2, c5, e3.trans ((But3.of s3).trans b5), rfl⟩
  · obtain ⟨k', x1, y1, e1, e2, e3, rfl⟩ := pv.out
    exact h _ (s1.trans (mk _ e3))
end
end Qe

namespace Qe
open PySem PySem.Spec PyProof.Rows L2 He
local macro_rules | `(tactic| walk_at "lk") => `(tactic| first
  | assumption
  | exact upd_same
  | (refine (upd_ne (by assumption)).trans ?_; walk_at "lk"))
local macro_rules | `(tactic| walk_at "sd") => `(tactic| first
  | rfl
  | assumption
  | exact SqL.of (by assumption)
  | exact .inl (SqL.of (by assumption))
  | exact SqT.of (by assumption)
  | exact ⟨_, SqL.of (by assumption)⟩
  | exact .inr (SqT.of (by assumption))
  | exact .inl ⟨rfl, _, SqL.of (by assumption)⟩
  | exact upd_same
  | (refine (upd_ne (by assumption)).trans ?_; walk_at "lk")
  | exact ⟨_, rfl⟩
  | exact NN.none
  | exact NN.some (by omega)
  | exact lt1
  | exact lt2
  | exact lt3
  | exact lt4
  | exact sz0
  | exact sz1
  | exact sz2
  | exact sz3
  | exact sz4
  | exact small20 (by first | omega | (rw [List.length_map]; omega))
  | exact True.intro
  | omega
  | (dsimp only [List.length_cons, List.length_nil]; omega))
local macro_rules | `(tactic| walk_at "go") => `(tactic| first
  | ((with_reducible refine tSeq_i ?_); walk_at "go")
  | ((with_reducible refine gName_i ?_); walk_at "go")
  | ((with_reducible refine tNext_i ?_); walk_at "go")
  | ((with_reducible refine iteT ?_); walk_at "go")
  | ((with_reducible refine iteF ?_); walk_at "go")
  | (with_reducible refine (show tLockE _ _ _ _ from ?_))
  | (with_reducible refine (show tLock _ _ _ _ from ?_))
  | (with_reducible refine (show (∃ W : Nat → Nat → L2.St → Hp → Prop, _) from ?_))
  | (with_reducible refine (show C8.tCut _ _ _ _ _ from ?_))
  | (with_reducible refine (show tWhile _ _ _ _ _ from ?_))
  | (apply Exists.intro; walk_at "go")
  | (apply And.intro; (focus (walk_at "sd")); walk_at "go")
  | skip)

section
variable {P : Program} {w : World} {K : PySem.W.Frag}
      {mg : Str → Option Value} {base : Heap}

def sp_collected (K : PySem.W.Frag) : Sp := S1 fun a H Q E => ∃ (p : Addr) (st : List Step) (k : Col), a = .ref p ∧ StL H p st ∧ st.length ≤ 4000 ∧ (∀ s ∈ st, s.ok) ∧ colR Col0 st = some k ∧
  ((k.p.length ≤ 2000 ∧ k.w.length ≤ 2000) → ∀ b H', H b = none → isLE K H' b (effOf k) → Same H H' → Q (.ref b) H') ∧ (¬(k.p.length ≤ 2000 ∧ k.w.length ≤ 2000) → xdOut "LimitExceeded" "limit" (.int 2000) K H E)
theorem ok_collected (T : Tx K mg) : Fx P w K mg base (CX P w) 6 (A_collected K) (sp_collected K) := by
  obtain ⟨fd, F⟩ := T.D_collected
  refine fx_of F sc_collected (F.bindsN fun _ _ _ _ _ _ us hl => match us, hl with | [_], _ => rfl) S1.len fun cdv A outer s H vs Q E hr h => ?_
  obtain ⟨a0, rfl, h⟩ := h
  refine ⟨_, (pss_cons (ps_set (i := 1) sc_collected.nd rfl (.inl rfl) (pmake0 (ok_Collector_init T) T.k_Collector T.g_Collector hr (by decide) rfl pass0))
    (pss_cons (ps_for (passes_of rfl) rfl (pi_list (pv 0)) (pg_name (i := 2) sc_collected.nd rfl (.inl rfl)) (pss_one (ps_expr (pmeth (ok_Collector_add T) T.c_Collector T.m_Collector_add hr (by decide) pass0 (pv 1) (pa_cons (pv 2) pa_nil)))))
    (pss_one (ps_ret (pmeth0 (ok_Collector_effect T) T.c_Collector T.m_Collector_effect hr (by decide) (passes_call (takes_of rfl rfl rfl rfl) fun _ _ _ _ z => z) (pv 1)))))), ?_⟩
  obtain ⟨p, st, k, rfl, hp1, hl, hok, hk, h, hE⟩ := h
  have hlk := colR_len hk
  have hz : Col0.w.length = 0 ∧ Col0.p.length = 0 := ⟨rfl, rfl⟩
  have ivk := colR_inv Col0.inv hok hk
  walk_at "go"
  intro x dx nx ndx nex
  refine ⟨_, rfl, x, dx, rfl, upd_same, fun H2 pa wa hc npa nwa bt => ?_⟩
  have mk : ∀ H', But3 x pa wa H2 H' → Same H H' := fun H' b3 => made_col nx ndx npa nwa bt b3
  have hp2 := mk _ .refl _ _ hp1
  walk_at "go"
  refine for_list (xs := st.map vT) (fun i σ' H' => Hold (∃ k' x1, colR Col0 (st.take i) = some k' ∧ isCol K H' x dx pa wa k' ∧ But3 x pa wa H2 H' ∧ σ' = [some (.ref p), some (.ref x), x1])) (.mk ⟨Col0, _, rfl, hc, .refl, rfl⟩)
    (fun i σ' H' _ q => ?_) (fun i y σ' H4 hx pv => ?_) fun σ' H3 pv => ?_
  · obtain ⟨k', x1, e1, e2, e3, _⟩ := q.out
    exact SqL.of (mk _ e3 _ _ hp1)
  · obtain ⟨k', x1, e1, e2', e3, rfl⟩ := pv.out
    obtain ⟨s, hs, rfl⟩ := map_get hx
    obtain ⟨k2, hk2⟩ := colR_take hk (i + 1)
    have hl1 := colR_len e1
    rw [List.length_take] at hl1
    have iv := colR_inv Col0.inv (fun z hz => hok z (List.mem_of_mem_take hz)) e1
    have hk3 := hk2
    rw [take_snoc hs, colR_snoc, e1] at hk2
    have cl := T.c_Collector
    obtain ⟨ho, _, _, _⟩ := id e2'
    walk_at "go"
    intro H5 c5 b5
    walk_at "go"
    exact .mk ⟨k2, _, hk3, c5, e3.trans b5, rfl⟩
  · obtain ⟨k', x1, e1, e2, e3, rfl⟩ := pv.out
    rw [List.length_map, List.take_length, hk] at e1
    cases e1
    have sm := mk _ e3
    have ho := e2.o
    walk_at "go"
    refine ⟨fun c b H' hb le s2 => ?_, fun c d H' hd e s2 => hE c d H' (sm.free hd) e (sm.trans s2)⟩
    exact h c b H' (sm.free hb) le (sm.trans s2)
def sp_look_effect_of (K : PySem.W.Frag) : Sp := S1 fun a H Q _ => ∃ (p : Addr) (st : List Step) (k : Col), a = .ref p ∧ StL H p st ∧ st.length ≤ 400 ∧ (∀ s ∈ st, s.ok) ∧ colR Col0 st = some k ∧
  ∀ b H', H b = none → isLE K H' b (effOf k) → Same H H' → Q (.ref b) H'
theorem ok_look_effect_of (T : Tx K mg) : Fx P w K mg base CX0 7 (A_look_effect_of K) (sp_look_effect_of K) := by
  obtain ⟨fd, F⟩ := T.D_look_effect_of
  refine fx_of F sc_look_effect_of (F.bindsN fun _ _ _ _ _ _ us hl => match us, hl with | [_], _ => rfl) S1.len fun cdv A outer s H vs Q E hr h => ?_
  obtain ⟨a0, rfl, h⟩ := h
  refine ⟨_, PSs.nox (pss_one (ps_ret (pe_ifExp (pt_cmpR op_isN (pcall (ok_conflict T) T.g_conflict hr (by decide) rfl pass0 (pa_cons (pv 0) pa_nil)) pe_non (nomark _)) (pcall (ok_collected T) T.g_collected hr (by decide) rfl passN (pa_cons (pv 0) pa_nil)) pe_non))), ?_⟩
  obtain ⟨p, st, k, rfl, hp1, hl, hok, hk, h⟩ := h
  have hlk := colR_len hk
  have hz : Col0.w.length = 0 ∧ Col0.p.length = 0 := ⟨rfl, rfl⟩
  walk_at "go"
  intro H1 s1
  have hp2 := s1 _ _ hp1
  walk_at "go"
  refine ⟨fun _ b H' hb le s2 => h b H' (s1.free hb) le (s1.trans s2), fun c => absurd ⟨by omega, by omega⟩ c⟩
def lowL : List Nat := [97, 98, 99, 100, 101, 102, 103, 104, 105, 106, 107, 108, 109, 110, 111, 112, 113, 114, 115, 116, 117, 118, 119, 120, 121, 122]
def isLow (c : Nat) : Bool := decide (c ∈ lowL)
def nameB (l : List Nat) : Bool := decide (1 ≤ l.length ∧ l.length ≤ 8) && l.all isLow
def sp_is_name (K : PySem.W.Frag) : Sp := S1 fun a H Q _ => ∃ (l : List Nat), a = vS l ∧ l.length ≤ 20000 ∧ ∀ H', Same H H' → Q (.bl (nameB l)) H'
theorem ok_is_name (T : Tx K mg) : Fx P w K mg base CX0 1 (A_is_name K) (sp_is_name K) := by
  obtain ⟨fd, F⟩ := T.D_is_name
  refine fx_of F sc_is_name (F.bindsN fun _ _ _ _ _ _ us hl => match us, hl with | [_], _ => rfl) S1.len fun cdv A outer s H vs Q E hr h => ?_
  obtain ⟨a0, rfl, h⟩ := h
  refine ⟨_, PSs.nox (pss_one (ps_ret (pe_and (pe_callB isS_str rfl T.f_isinstance boot_isinstance (pa_cons (pv 0) (pa_cons (pe_bltn (v := .ty "str") rfl T.f_str boot_str rfl) pa_nil))) (pe_and (pe_chain op_le op_le pe_int (pe_callB call_lenW rfl T.f_len boot_len (pa_cons (pv 0) pa_nil)) (C8.pe_gc rfl (gI (T.i_MAX_NAME)))) (pe_one (pe_callB (cr_all rfl) rfl T.f_all boot_all (pa_cons (pe_lc (own := [("letter", 1)]) rfl sc_is_name.nd (pi_str (pv 0)) (blkOk_by (N := ["value", "letter"]) (sc := defScope s_is_name) (by decide +kernel)) (fun _ _ _ _ _ => by exact pg_name (i := 1) sc_is_name.nd rfl (.inl rfl)) (fun _ _ _ _ _ => by exact pts_nil) (fun _ _ _ _ _ => by exact (pe_cmpR op_inW (pv 1) (C8.pe_gc rfl (gSl [97, 98, 99, 100, 101, 102, 103, 104, 105, 106, 107, 108, 109, 110, 111, 112, 113, 114, 115, 116, 117, 118, 119, 120, 121, 122] T.s_LETTERS (by decide +kernel))) (by with_unfolding_all rfl)))) pa_nil))))))), ?_⟩
  obtain ⟨l, rfl, hl, h⟩ := h
  unfold nameB at h
  walk_at "go"
  refine ite_d (fun c0 => ?_) fun c0 => ?_
  · walk_at "go"
    refine ite_d (fun c1 => ?_) fun c1 => ?_
    · walk_at "go"
      intro D hD
      refine lc_it walk_str (fun i H' => Hold (Same H H' ∧ H' D = some (.lst ((l.take i).map fun c => V.bl (isLow c))))) (.mk ⟨Same.new hD, upd_same⟩) (fun _ _ _ _ => trivial) (fun i x H1 H2 hi p y => ?_) fun H1 p => ?_
      · obtain ⟨rfl, c, hc, rfl⟩ := y
        obtain ⟨sm, hH⟩ := p.out
        have hc' : l[i]? = some c := by rw [← Array.getElem?_toList] at hc; exact hc
        walk_at "go"
        refine ⟨small20 (by rw [List.length_map, List.length_take]; omega), .mk ⟨sm.updN hD, ?_⟩⟩
        rw [upd_same]
        exact congrArg (fun z => some (HO.lst z)) (take_map_succ _ hc')
      · obtain ⟨sm, hH⟩ := p.out
        have e : (l.take (sS l).cps.size).map (fun c => V.bl (isLow c)) = (l.map isLow).map V.bl := by
          rw [show (sS l).cps.size = l.length from rfl, List.take_of_length_le (Nat.le_refl _), List.map_map]; rfl
        rw [e] at hH
        refine ⟨_, _, rfl, SqL.of hH, ?_⟩
        rw [List.all_map]
        rw [decide_eq_true (show 1 ≤ l.length ∧ l.length ≤ 8 by omega), Bool.true_and] at h
        exact h _ sm
    · rw [decide_eq_false (show ¬ (1 ≤ l.length ∧ l.length ≤ 8) by omega), Bool.false_and] at h
      exact h _ (Same.refl _)
  · rw [decide_eq_false (show ¬ (1 ≤ l.length ∧ l.length ≤ 8) by omega), Bool.false_and] at h
    walk_at "go"
    exact h _ (Same.refl _)
end
end Qe

namespace Qe
open PySem PySem.Spec PyProof.Rows L2 He
local macro_rules | `(tactic| walk_at "lk") => `(tactic| first
  | assumption
  | exact upd_same
  | (refine (upd_ne (by assumption)).trans ?_; walk_at "lk"))
local macro_rules | `(tactic| walk_at "sd") => `(tactic| first
  | rfl
  | assumption
  | exact SqL.of (by assumption)
  | exact .inl (SqL.of (by assumption))
  | exact SqT.of (by assumption)
  | exact ⟨_, SqL.of (by assumption)⟩
  | exact .inr (SqT.of (by assumption))
  | exact .inl ⟨rfl, _, SqL.of (by assumption)⟩
  | exact upd_same
  | (refine (upd_ne (by assumption)).trans ?_; walk_at "lk")
  | exact ⟨_, rfl⟩
  | exact NN.none
  | exact NN.some (by omega)
  | exact lt1
  | exact lt2
  | exact lt3
  | exact lt4
  | exact sz0
  | exact sz1
  | exact sz2
  | exact sz3
  | exact sz4
  | exact small20 (by first | omega | (rw [List.length_map]; omega))
  | exact True.intro
  | omega
  | (dsimp only [List.length_cons, List.length_nil]; omega))
local macro_rules | `(tactic| walk_at "go") => `(tactic| first
  | ((with_reducible refine tSeq_i ?_); walk_at "go")
  | ((with_reducible refine gName_i ?_); walk_at "go")
  | ((with_reducible refine tNext_i ?_); walk_at "go")
  | ((with_reducible refine iteT ?_); walk_at "go")
  | ((with_reducible refine iteF ?_); walk_at "go")
  | (with_reducible refine (show tLockE _ _ _ _ from ?_))
  | (with_reducible refine (show tLock _ _ _ _ from ?_))
  | (with_reducible refine (show (∃ W : Nat → Nat → L2.St → Hp → Prop, _) from ?_))
  | (with_reducible refine (show C8.tCut _ _ _ _ _ from ?_))
  | (with_reducible refine (show tWhile _ _ _ _ _ from ?_))
  | (apply Exists.intro; walk_at "go")
  | (apply And.intro; (focus (walk_at "sd")); walk_at "go")
  | skip)

section
variable {P : Program} {w : World} {K : PySem.W.Frag}
      {mg : Str → Option Value} {base : Heap}

def sp_compose_looks (K : PySem.W.Frag) : Sp := S2 fun a b H Q _ => ∃ (x y : Addr) (e f : Eff), a = .ref x ∧ b = .ref y ∧ isLE K H x e ∧ isLE K H y f ∧ e.ok ∧ f.ok ∧ (e.comp f).ok ∧ e.p.drop e.t <+: f.p ++ e.p.drop e.t ∧
  ∀ z H', H z = none → isLE K H' z (e.comp f) → Same H H' → Q (.ref z) H'
theorem ok_compose_looks (T : Tx K mg) : Fx P w K mg base CX0 5 (A_compose_looks K) (sp_compose_looks K) := by
  obtain ⟨fd, F⟩ := T.D_compose_looks
  refine fx_of F sc_compose_looks (F.bindsN fun _ _ _ _ _ _ us hl => match us, hl with | [_, _], _ => rfl) S2.len fun cdv A outer s H vs Q E hr h => ?_
  obtain ⟨a0, a1, rfl, h⟩ := h
  refine ⟨_, PSs.nox (pss_cons (ps_expr (pcall (ok_check_look T) T.g_check_look hr (by decide) rfl pass0 (pa_cons (pv 0) pa_nil)))
    (pss_cons (ps_expr (pcall (ok_check_look T) T.g_check_look hr (by decide) rfl pass0 (pa_cons (pv 1) pa_nil)))
    (pss_cons (ps_asg (pcall (ok_look_parts T) T.g_look_parts hr (by decide) rfl pass0 (pa_cons (pv 0) pa_nil)) (pg_tup rfl (pgs_cons (pg_name (i := 2) sc_compose_looks.nd rfl (.inl rfl)) (pgs_cons (pg_name (i := 3) sc_compose_looks.nd rfl (.inl rfl)) (pgs_cons (pg_name (i := 4) sc_compose_looks.nd rfl (.inl rfl)) (pgs_cons (pg_name (i := 5) sc_compose_looks.nd rfl (.inl rfl)) pgs_nil))))))
    (pss_cons (ps_asg (pcall (ok_look_parts T) T.g_look_parts hr (by decide) rfl pass0 (pa_cons (pv 1) pa_nil)) (pg_tup rfl (pgs_cons (pg_name (i := 6) sc_compose_looks.nd rfl (.inl rfl)) (pgs_cons (pg_name (i := 7) sc_compose_looks.nd rfl (.inl rfl)) (pgs_cons (pg_name (i := 8) sc_compose_looks.nd rfl (.inl rfl)) (pgs_cons (pg_name (i := 9) sc_compose_looks.nd rfl (.inl rfl)) pgs_nil))))))
    (pss_cons (ps_if (pt_not (pt_val (pe_m1 PySem.F.slot_str_startswith PySem.F.type_str_startswith mt_startsW (pe_op op_addW (pv 6) (pe_slice sl_strW (pv 2) (po_some (pv 3)) po_none)) (pe_slice sl_strW (pv 2) (po_some (pv 3)) po_none)))) (pss_one (ps_ret pe_non)) pss_nil)
    (pss_cons (ps_set (i := 10) sc_compose_looks.nd rfl (.inl rfl) (pe_ifExp (pt_cmpR op_eqW (pv 6) (pe_sC [] (by decide +kernel)) (nomark _)) (pv 2) (pe_op op_addW (pe_slice sl_strW (pv 2) po_none (po_some (pv 3))) (pv 6))))
    (pss_cons (ps_set (i := 11) sc_compose_looks.nd rfl (.inl rfl) (pe_callB (call_max2 rfl) rfl T.f_max boot_max (pa_cons (pv 5) (pa_cons (pe_op op_sub (pe_op op_add (pv 9) (pv 3)) (pe_callB call_lenW rfl T.f_len boot_len (pa_cons (pv 4) pa_nil))) pa_nil))))
    (pss_cons (ps_if (pt_cmpR op_gt (pe_callB (call_max2 rfl) rfl T.f_max boot_max (pa_cons (pe_callB call_lenW rfl T.f_len boot_len (pa_cons (pv 10) pa_nil)) (pa_cons (pe_callB call_lenW rfl T.f_len boot_len (pa_cons (pe_op op_addW (pv 4) (pv 8)) pa_nil)) pa_nil))) (C8.pe_gc rfl (gI (T.i_MAX_ITEMS))) (nomark _)) (pss_one (ps_never)) pss_nil)
    (pss_cons (ps_set (i := 4) sc_compose_looks.nd rfl (.inl rfl) (pe_op op_addW (pv 4) (pv 8)))
    (pss_one (ps_ret (pmake (ok_LookEffect_init T) T.k_LookEffect T.g_LookEffect hr (by decide) rfl pass0 (pa_cons (pv 10) (pa_cons (pe_op op_add (pv 3) (pv 7)) (pa_cons (pv 4) (pa_cons (pcall (ok_least_suitable T) T.g_least_suitable hr (by decide) rfl pass0 (pa_cons (pv 10) (pa_cons (pv 4) (pa_cons (pv 11) pa_nil)))) pa_nil)))))))))))))))), ?_⟩
  obtain ⟨x, y, e, f, rfl, rfl, hx, hy, oe, of, og, hpre, h⟩ := h
  have ⟨ep1, ep2, ew1, ew2, et1, et2, ec1, ec2⟩ := oe
  have ⟨fp1, fp2, fw1, fw2, ft1, ft2, fc1, fc2⟩ := of
  have ⟨gp1, gp2, gw1, gw2, gt1, gt2, gc1, gc2⟩ := og
  walk_at "go"
  intro t1 H1 ht1 e1 s1
  have hy1 := hy.same s1
  walk_at "go"
  intro t2 H2 ht2 e2 s2
  walk_at "go"
  refine ⟨by show f.p.length + (e.p.drop e.t).length ≤ 20000; rw [List.length_drop]; omega, ?_⟩
  walk_at "go"
  rw [show decide (cutN e.p (some (e.t : Int)) none <+: f.p ++ cutN e.p (some (e.t : Int)) none) = true from decide_eq_true hpre]
  walk_at "go"
  have en : (if ((f.c : Int) + e.t - (e.w.length : Int)) > e.c then ((f.c : Int) + e.t - (e.w.length : Int)) else (e.c : Int)) = ((max e.c (f.c + e.t - e.w.length) : Nat) : Int) := by split <;> omega
  refine ite_d (fun c => ?_) fun c => ?_
  · have gp : (e.comp f).p = e.p := if_pos c
    rw [gp] at gp1
    have gw1' : (e.w ++ f.w).length ≤ 2000 := gw1
    have gc : (e.comp f).c = leastS (e.p) (e.w ++ f.w) (max e.c (f.c + e.t - e.w.length)) := by rw [← gp]; rfl
    walk_at "go"
    refine ite_d (fun z => absurd z (by show ¬ (if ((e.w ++ f.w).length : Int) > ((e.p).length : Int) then ((e.w ++ f.w).length : Int) else ((e.p).length : Int)) > 2000; split <;> omega)) fun _ => ?_
    walk_at "go"
    refine ⟨congrArg V.int en, ?_⟩
    walk_at "go"
    intro z dz hz hdz nez
    have sm : Same H H2 := s1.trans s2
    exact ⟨_, _, _, _, _, rfl, z, dz, e.comp f, rfl, congrArg vS gp.symm, rfl, rfl, congrArg (fun n : Nat => V.int n) gc.symm, og, upd_same, fun H' e4 bt => ⟨rfl, h z H' (sm.free hz) ⟨_, e4⟩ (sm.trans (Same.made hz hdz bt))⟩⟩
  · have gp : (e.comp f).p = e.p.take e.t ++ f.p := if_neg c
    rw [gp] at gp1
    have gw1' : (e.w ++ f.w).length ≤ 2000 := gw1
    have gc : (e.comp f).c = leastS (e.p.take e.t ++ f.p) (e.w ++ f.w) (max e.c (f.c + e.t - e.w.length)) := by rw [← gp]; rfl
    walk_at "go"
    refine ⟨by show (e.p.take e.t).length + f.p.length ≤ 20000; rw [List.length_take]; omega, ?_⟩
    rw [show cutN e.p none (some (e.t : Int)) = e.p.take e.t from rfl]
    walk_at "go"
    refine ite_d (fun z => absurd z (by show ¬ (if ((e.w ++ f.w).length : Int) > ((e.p.take e.t ++ f.p).length : Int) then ((e.w ++ f.w).length : Int) else ((e.p.take e.t ++ f.p).length : Int)) > 2000; split <;> omega)) fun _ => ?_
    walk_at "go"
    refine ⟨congrArg V.int en, ?_⟩
    walk_at "go"
    intro z dz hz hdz nez
    have sm : Same H H2 := s1.trans s2
    exact ⟨_, _, _, _, _, rfl, z, dz, e.comp f, rfl, congrArg vS gp.symm, rfl, rfl, congrArg (fun n : Nat => V.int n) gc.symm, og, upd_same, fun H' e4 bt => ⟨rfl, h z H' (sm.free hz) ⟨_, e4⟩ (sm.trans (Same.made hz hdz bt))⟩⟩
end
end Qe

namespace Qe
open PySem PySem.Spec PyProof.Rows L2 He
local macro_rules | `(tactic| walk_at "lk") => `(tactic| first
  | assumption
  | exact upd_same
  | (refine (upd_ne (by assumption)).trans ?_; walk_at "lk"))
local macro_rules | `(tactic| walk_at "sd") => `(tactic| first
  | rfl
  | assumption
  | exact SqL.of (by assumption)
  | exact .inl (SqL.of (by assumption))
  | exact SqT.of (by assumption)
  | exact ⟨_, SqL.of (by assumption)⟩
  | exact .inr (SqT.of (by assumption))
  | exact .inl ⟨rfl, _, SqL.of (by assumption)⟩
  | exact upd_same
  | (refine (upd_ne (by assumption)).trans ?_; walk_at "lk")
  | exact ⟨_, rfl⟩
  | exact NN.none
  | exact NN.some (by omega)
  | exact lt1
  | exact lt2
  | exact lt3
  | exact lt4
  | exact sz0
  | exact sz1
  | exact sz2
  | exact sz3
  | exact sz4
  | exact small20 (by first | omega | (rw [List.length_map]; omega))
  | exact True.intro
  | omega
  | (dsimp only [List.length_cons, List.length_nil]; omega))
local macro_rules | `(tactic| walk_at "go") => `(tactic| first
  | ((with_reducible refine tSeq_i ?_); walk_at "go")
  | ((with_reducible refine gName_i ?_); walk_at "go")
  | ((with_reducible refine tNext_i ?_); walk_at "go")
  | ((with_reducible refine iteT ?_); walk_at "go")
  | ((with_reducible refine iteF ?_); walk_at "go")
  | (with_reducible refine (show tLockE _ _ _ _ from ?_))
  | (with_reducible refine (show tLock _ _ _ _ from ?_))
  | (with_reducible refine (show (∃ W : Nat → Nat → L2.St → Hp → Prop, _) from ?_))
  | (with_reducible refine (show C8.tCut _ _ _ _ _ from ?_))
  | (with_reducible refine (show tWhile _ _ _ _ _ from ?_))
  | (apply Exists.intro; walk_at "go")
  | (apply And.intro; (focus (walk_at "sd")); walk_at "go")
  | skip)

section
variable {P : Program} {w : World} {K : PySem.W.Frag}
      {mg : Str → Option Value} {base : Heap}

def keF (s qa la : Addr) : List (Str × V) := [("held", .ref s), ("queues", .ref qa), ("steps", .ref la)]
def sp_Kept_init (K : PySem.W.Frag) : Sp := S2 fun a b H Q _ => ∃ (x dx s : Addr) (c : SesA), a = .ref x ∧ b = .ref s ∧ H x = some (.ins (ga K "Kept") dx []) ∧ H s = some (.ins (ga K "Session") c.dx (sesF c)) ∧
  ∀ H', H' x = some (.ins (ga K "Kept") dx (keF s c.qa c.la)) → But x H H' → Q .non H'
theorem ok_Kept_init (T : Tx K mg) : Fx P w K mg base CX0 1 (A_Kept_init K) (sp_Kept_init K) := by
  obtain ⟨fd, F⟩ := T.D_Kept_init
  refine fx_of F sc_Kept_init (F.bindsN fun _ _ _ _ _ _ us hl => match us, hl with | [_, _], _ => rfl) S2.len fun cdv A outer s H vs Q E hr h => ?_
  obtain ⟨a0, a1, rfl, h⟩ := h
  refine ⟨_, PSs.nox (pss_cons (ps_fld (pv 0) (pv 1) rfl)
    (pss_cons (ps_fld (pv 0) (pe_fld (pv 1) rfl) rfl)
    (pss_one (ps_fld (pv 0) (pe_fld (pv 1) rfl) rfl)))), ?_⟩
  obtain ⟨x, dx, s, c, rfl, rfl, hx, hs, h⟩ := h
  have ns : s ≠ x := ne_of hs hx (by intro z; injection z with _ _ z3; exact List.cons_ne_nil _ _ z3)
  have cl := T.c_Kept
  have n1 := T.n_Kept_held
  have n2 := T.n_Kept_queues
  have n3 := T.n_Kept_steps
  have cl2 := T.c_Session
  have m1 := T.n_Session_own_queues
  have m2 := T.n_Session_own_log
  walk_at "go"
  exact h _ upd_same (((But.same (Same.refl _)).upd.upd).upd)
def sp_Kept_enter (K : PySem.W.Frag) : Sp := S1 fun a H Q _ => Q a H
theorem ok_Kept_enter (T : Tx K mg) : Fx P w K mg base CX0 1 (A_Kept_enter K) (sp_Kept_enter K) := by
  obtain ⟨fd, F⟩ := T.D_Kept_enter
  refine fx_of F sc_Kept_enter (F.bindsN fun _ _ _ _ _ _ us hl => match us, hl with | [_], _ => rfl) S1.len fun cdv A outer s H vs Q E hr h => ?_
  obtain ⟨a0, rfl, h⟩ := h
  refine ⟨_, PSs.nox (pss_one (ps_ret (pv 0))), ?_⟩
  walk_at "go"
  exact h
def sp_Kept_exit (K : PySem.W.Frag) : Sp := S4 fun a b d e H Q _ => ∃ (x dx s qa la : Addr) (c : SesA), a = .ref x ∧ H x = some (.ins (ga K "Kept") dx (keF s qa la)) ∧ H s = some (.ins (ga K "Session") c.dx (sesF c)) ∧
  ∀ H', H' s = some (.ins (ga K "Session") c.dx (sesF ⟨c.dx, qa, la, c.ma, c.aa⟩)) → But s H H' → Q .non H'
theorem ok_Kept_exit (T : Tx K mg) : Fx P w K mg base CX0 1 (A_Kept_exit K) (sp_Kept_exit K) := by
  obtain ⟨fd, F⟩ := T.D_Kept_exit
  refine fx_of F sc_Kept_exit (F.bindsN fun _ _ _ _ _ _ us hl => match us, hl with | [_, _, _, _], _ => rfl) S4.len fun cdv A outer s H vs Q E hr h => ?_
  obtain ⟨a0, a1, a2, a3, rfl, h⟩ := h
  refine ⟨_, PSs.nox (pss_cons (ps_fld (pe_fld (pv 0) rfl) (pe_fld (pv 0) rfl) rfl)
    (pss_one (ps_fld (pe_fld (pv 0) rfl) (pe_fld (pv 0) rfl) rfl))), ?_⟩
  obtain ⟨x, dx, s, qa, la, c, rfl, hx, hs, h⟩ := h
  have ns : x ≠ s := ne_of hx hs (by
    intro z
    injection z with _ _ z3
    have z4 : 3 = 4 := congrArg List.length z3
    exact absurd z4 (by decide))
  have cl := T.c_Kept
  have n1 := T.n_Kept_held
  have n2 := T.n_Kept_queues
  have n3 := T.n_Kept_steps
  have cl2 := T.c_Session
  have m1 := T.n_Session_own_queues
  have m2 := T.n_Session_own_log
  walk_at "go"
  exact h _ upd_same ((But.same (Same.refl _)).upd.upd)
def sp_Session_init (K : PySem.W.Frag) : Sp := S2 fun a b H Q _ => ∃ (x dx : Addr) (q : List Nat), a = .ref x ∧ b = vS q ∧ isQ q ∧ H x = some (.ins (ga K "Session") dx []) ∧
  ∀ H' c, isSes K H' x c [q] [] [] [] → c.dx = dx → H c.ma = none → H c.aa = none → But x H H' → Q .non H'
theorem ok_Session_init (T : Tx K mg) : Fx P w K mg base CX0 4 (A_Session_init K) (sp_Session_init K) := by
  obtain ⟨fd, F⟩ := T.D_Session_init
  refine fx_of F sc_Session_init (F.bindsN fun _ _ _ _ _ _ us hl => match us, hl with | [_, _], _ => rfl) S2.len fun cdv A outer s H vs Q E hr h => ?_
  obtain ⟨a0, a1, rfl, h⟩ := h
  refine ⟨_, PSs.nox (pss_cons (ps_expr (pcall (ok_check_queue T) T.g_check_queue hr (by decide) rfl pass0 (pa_cons (pv 1) pa_nil)))
    (pss_cons (ps_fld (pv 0) (pe_lst (pa_cons (pv 1) pa_nil)) rfl)
    (pss_cons (ps_fld (pv 0) (pe_lst pa_nil) rfl)
    (pss_cons (ps_fld (pv 0) pe_dnewK rfl)
    (pss_one (ps_fld (pv 0) (pe_lst pa_nil) rfl)))))), ?_⟩
  obtain ⟨x, dx, q, rfl, rfl, hq, hx, h⟩ := h
  have cl := T.c_Session
  have n1 := T.n_Session_own_queues
  have n2 := T.n_Session_own_log
  have n3 := T.n_Session_own_marks
  have n4 := T.n_Session_own_attempts
  walk_at "go"
  intro H0 s0
  have hx0 := s0 _ _ hx
  walk_at "go"
  have b0 : Bld x H H0 [] := Bld.refl s0
  intro p1 hp1
  have m1 := ne_of_none hx0 hp1
  walk_at "go"
  intro p2 hp2
  have m2 := ne_of_none upd_same hp2
  walk_at "go"
  intro p3 hp3
  have m3 := ne_of_none upd_same hp3
  walk_at "go"
  intro p4 hp4
  have m4 := ne_of_none upd_same hp4
  walk_at "go"
  have b1 := (b0.new (o := .lst [vS q]) hx0 hp1).put (o := .ins (ga K "Session") dx (putF "own_queues" (V.ref p1) []))
  have b2 := (b1.new (o := .lst []) upd_same hp2).put (o := .ins (ga K "Session") dx (putF "own_log" (V.ref p2) (putF "own_queues" (V.ref p1) [])))
  have b3 := (b2.new (o := .dK []) upd_same hp3).put (o := .ins (ga K "Session") dx (putF "own_marks" (V.ref p3) (putF "own_log" (V.ref p2) (putF "own_queues" (V.ref p1) []))))
  have b4 := (b3.new (o := .lst []) upd_same hp4).put (o := .ins (ga K "Session") dx (putF "own_attempts" (V.ref p4) (putF "own_marks" (V.ref p3) (putF "own_log" (V.ref p2) (putF "own_queues" (V.ref p1) [])))))
  have k4 := b4.at_ _ (.head _)
  have k3 := b4.at_ _ (.tail _ (.head _))
  have k2 := b4.at_ _ (.tail _ (.tail _ (.head _)))
  have k1 := b4.at_ _ (.tail _ (.tail _ (.tail _ (.head _))))
  have q14 : p1 ≠ p4 := ne_of_none (b3.at_ _ (.tail _ (.tail _ (.head _)))).1 hp4
  have q24 : p2 ≠ p4 := ne_of_none (b3.at_ _ (.tail _ (.head _))).1 hp4
  exact h _ ⟨dx, p1, p2, p3, p4⟩ ⟨upd_same, k1.1, k2.1, k3.1, ⟨[], k4.1, .nil⟩, q14, q24⟩ rfl k3.2.1 k4.2.1 b4.but
def sp_Session_queue (K : PySem.W.Frag) : Sp := S1 fun a H Q _ => ∃ (s : Addr) (c : SesA) (qs : List (List Nat)) (q : List Nat), a = .ref s ∧ H s = some (.ins (ga K "Session") c.dx (sesF c)) ∧ H c.qa = some (.lst (qs.map vS)) ∧ qs.getLast? = some q ∧ Q (vS q) H
theorem ok_Session_queue (T : Tx K mg) : Fx P w K mg base CX0 1 (A_Session_queue K) (sp_Session_queue K) := by
  obtain ⟨fd, F⟩ := T.D_Session_queue
  refine fx_of F sc_Session_queue (F.bindsN fun _ _ _ _ _ _ us hl => match us, hl with | [_], _ => rfl) S1.len fun cdv A outer s H vs Q E hr h => ?_
  obtain ⟨a0, rfl, h⟩ := h
  refine ⟨_, PSs.nox (pss_one (ps_ret (pe_ix ix_list (pe_fld (pv 0) rfl) (pe_un un_neg pe_int) (fun _ _ => rfl)))), ?_⟩
  obtain ⟨s, c, qs, q, rfl, hs, hq, hl, h⟩ := h
  have cl := T.c_Session
  have n1 := T.n_Session_own_queues
  walk_at "go"
  refine ⟨last_map hl, ?_⟩
  exact h
def sp_Session_capacity (K : PySem.W.Frag) : Sp := S1 fun a H Q _ => Q (.int 2100) H
theorem ok_Session_capacity (T : Tx K mg) : Fx P w K mg base CX0 1 (A_Session_capacity K) (sp_Session_capacity K) := by
  obtain ⟨fd, F⟩ := T.D_Session_capacity
  refine fx_of F sc_Session_capacity (F.bindsN fun _ _ _ _ _ _ us hl => match us, hl with | [_], _ => rfl) S1.len fun cdv A outer s H vs Q E hr h => ?_
  obtain ⟨a0, rfl, h⟩ := h
  refine ⟨_, PSs.nox (pss_one (ps_ret (C8.pe_gc rfl (gI (T.i_MAX_QUEUE))))), ?_⟩
  walk_at "go"
  exact h
def sp_Session_log (K : PySem.W.Frag) : Sp := S1 fun a H Q _ => ∃ (s : Addr) (c : SesA) (log : List Step), a = .ref s ∧ H s = some (.ins (ga K "Session") c.dx (sesF c)) ∧ StL H c.la log ∧ ∀ p H', H p = none → StL H' p log → Same H H' → Q (.ref p) H'
theorem ok_Session_log (T : Tx K mg) : Fx P w K mg base CX0 1 (A_Session_log K) (sp_Session_log K) := by
  obtain ⟨fd, F⟩ := T.D_Session_log
  refine fx_of F sc_Session_log (F.bindsN fun _ _ _ _ _ _ us hl => match us, hl with | [_], _ => rfl) S1.len fun cdv A outer s H vs Q E hr h => ?_
  obtain ⟨a0, rfl, h⟩ := h
  refine ⟨_, PSs.nox (pss_one (ps_ret (pe_callTy call_list_of rfl T.f_list boot_list (pa_cons (pe_fld (pv 0) rfl) pa_nil)))), ?_⟩
  obtain ⟨s, c, log, rfl, hs, hl, h⟩ := h
  have cl := T.c_Session
  have n1 := T.n_Session_own_log
  walk_at "go"
  exact fun p hp => h p _ hp upd_same (Same.new hp)
def sp_Session_attempts (K : PySem.W.Frag) : Sp := S1 fun a H Q _ => ∃ (s : Addr) (c : SesA) (rs : List (List FD)), a = .ref s ∧ H s = some (.ins (ga K "Session") c.dx (sesF c)) ∧ Rows K H c.aa rs ∧ ∀ p H', H p = none → Rows K H' p rs → Same H H' → Q (.ref p) H'
theorem ok_Session_attempts (T : Tx K mg) : Fx P w K mg base CX0 1 (A_Session_attempts K) (sp_Session_attempts K) := by
  obtain ⟨fd, F⟩ := T.D_Session_attempts
  refine fx_of F sc_Session_attempts (F.bindsN fun _ _ _ _ _ _ us hl => match us, hl with | [_], _ => rfl) S1.len fun cdv A outer s H vs Q E hr h => ?_
  obtain ⟨a0, rfl, h⟩ := h
  refine ⟨_, PSs.nox (pss_one (ps_ret (pe_callTy call_list_of rfl T.f_list boot_list (pa_cons (pe_fld (pv 0) rfl) pa_nil)))), ?_⟩
  obtain ⟨s, c, rs, rfl, hs, ⟨ts, h1, h2⟩, h⟩ := h
  have cl := T.c_Session
  have n1 := T.n_Session_own_attempts
  walk_at "go"
  exact fun p hp => h p _ hp ⟨ts, upd_same, paired_imp (fun _ _ e => Same.new hp _ _ e) h2⟩ (Same.new hp)
def sp_Session_len (K : PySem.W.Frag) : Sp := S1 fun a H Q _ => ∃ (s : Addr) (c : SesA) (log : List Step), a = .ref s ∧ H s = some (.ins (ga K "Session") c.dx (sesF c)) ∧ StL H c.la log ∧ Q (.int log.length) H
theorem ok_Session_len (T : Tx K mg) : Fx P w K mg base CX0 1 (A_Session_len K) (sp_Session_len K) := by
  obtain ⟨fd, F⟩ := T.D_Session_len
  refine fx_of F sc_Session_len (F.bindsN fun _ _ _ _ _ _ us hl => match us, hl with | [_], _ => rfl) S1.len fun cdv A outer s H vs Q E hr h => ?_
  obtain ⟨a0, rfl, h⟩ := h
  refine ⟨_, PSs.nox (pss_one (ps_ret (pe_callB call_len_seq rfl T.f_len boot_len (pa_cons (pe_fld (pv 0) rfl) pa_nil)))), ?_⟩
  obtain ⟨s, c, log, rfl, hs, hl, h⟩ := h
  have cl := T.c_Session
  have n1 := T.n_Session_own_log
  walk_at "go"
  rw [List.length_map]
  exact h
def sp_Session_stepped (K : PySem.W.Frag) : Sp := S4 fun a b d e H Q E => ∃ (s dx : Addr) (fs : List (Str × V)) (q : List Nat) (st : Step) (n : Int), a = .ref s ∧ H s = some (.ins (ga K "Session") dx fs) ∧ b = vS q ∧ d = vT st ∧ e = .int n ∧ q.length ≤ 2100 ∧
  (∀ r, after q st = some r → r.length ≤ 2100 ∧ Q (vS r) H) ∧ (after q st = none → xdOut "StepFailed" "position" (.int n) K H E)
theorem ok_Session_stepped (T : Tx K mg) : Fx P w K mg base (CX P w) 3 (A_Session_stepped K) (sp_Session_stepped K) := by
  obtain ⟨fd, F⟩ := T.D_Session_stepped
  refine fx_of F sc_Session_stepped (F.bindsN fun _ _ _ _ _ _ us hl => match us, hl with | [_, _, _, _], _ => rfl) S4.len fun cdv A outer s H vs Q E hr h => ?_
  obtain ⟨a0, a1, a2, a3, rfl, h⟩ := h
  refine ⟨_, (pss_cons (ps_set (i := 4) sc_Session_stepped.nd rfl (.inl rfl) (pcall (ok_after_look T) T.g_after_look hr (by decide) rfl pass0 (pa_cons (pv 1) (pa_cons (pv 2) pa_nil))))
    (pss_cons (ps_if (pt_cmpR op_isN (pv 4) pe_non (nomark _)) (pss_one (ps_raise_StepFailed rfl T.g_StepFailed T.x_StepFailed T.ini_StepFailed hr (takes_of rfl rfl rfl rfl) (pa_cons (pv 3) pa_nil))) pss_nil)
    (pss_cons (ps_if (pt_cmpR op_gt (pe_callB call_lenW rfl T.f_len boot_len (pa_cons (pv 4) pa_nil)) (pe_callB (call_max2 rfl) rfl T.f_max boot_max (pa_cons (pe_callB call_lenW rfl T.f_len boot_len (pa_cons (pv 1) pa_nil)) (pa_cons (pprop (ok_Session_capacity T) T.c_Session T.p_Session_capacity hr (by decide) pass0 (pv 0) rfl) pa_nil))) (nomark _)) (pss_one (ps_raise_LimitExceeded rfl T.g_LimitExceeded T.x_LimitExceeded T.ini_LimitExceeded hr (takes_of rfl rfl rfl rfl) (pa_cons (pprop (ok_Session_capacity T) T.c_Session T.p_Session_capacity hr (by decide) pass0 (pv 0) rfl) pa_nil))) pss_nil)
    (pss_one (ps_ret (pv 4)))))), ?_⟩
  obtain ⟨s, dx, fs, q, st, n, rfl, hs, rfl, rfl, rfl, hq, h, hE⟩ := h
  have cl := T.c_Session
  walk_at "go"
  cases e : after q st with
  | none =>
    walk_at "go"
    exact fun d hd => hE e d _ hd upd_same (Same.new hd)
  | some r =>
    obtain ⟨h1, h2⟩ := h r e
    walk_at "go"
    refine ite_d (fun z => absurd z (by split <;> omega)) fun _ => ?_
    walk_at "go"
    exact h2
end
end Qe

namespace Qe
open PySem PySem.Spec PyProof.Rows L2 He
local macro_rules | `(tactic| walk_at "lk") => `(tactic| first
  | assumption
  | exact upd_same
  | (refine (upd_ne (by assumption)).trans ?_; walk_at "lk"))
local macro_rules | `(tactic| walk_at "sd") => `(tactic| first
  | rfl
  | assumption
  | exact SqL.of (by assumption)
  | exact .inl (SqL.of (by assumption))
  | exact SqT.of (by assumption)
  | exact ⟨_, SqL.of (by assumption)⟩
  | exact .inr (SqT.of (by assumption))
  | exact .inl ⟨rfl, _, SqL.of (by assumption)⟩
  | exact upd_same
  | (refine (upd_ne (by assumption)).trans ?_; walk_at "lk")
  | exact ⟨_, rfl⟩
  | exact NN.none
  | exact NN.some (by omega)
  | exact lt1
  | exact lt2
  | exact lt3
  | exact lt4
  | exact sz0
  | exact sz1
  | exact sz2
  | exact sz3
  | exact sz4
  | exact small20 (by first | omega | (rw [List.length_map]; omega))
  | exact True.intro
  | omega
  | (dsimp only [List.length_cons, List.length_nil]; omega))
local macro_rules | `(tactic| walk_at "go") => `(tactic| first
  | ((with_reducible refine tSeq_i ?_); walk_at "go")
  | ((with_reducible refine gName_i ?_); walk_at "go")
  | ((with_reducible refine tNext_i ?_); walk_at "go")
  | ((with_reducible refine iteT ?_); walk_at "go")
  | ((with_reducible refine iteF ?_); walk_at "go")
  | (with_reducible refine (show tLockE _ _ _ _ from ?_))
  | (with_reducible refine (show tLock _ _ _ _ from ?_))
  | (with_reducible refine (show (∃ W : Nat → Nat → L2.St → Hp → Prop, _) from ?_))
  | (with_reducible refine (show C8.tCut _ _ _ _ _ from ?_))
  | (with_reducible refine (show tWhile _ _ _ _ _ from ?_))
  | (apply Exists.intro; walk_at "go")
  | (apply And.intro; (focus (walk_at "sd")); walk_at "go")
  | skip)

section
variable {P : Program} {w : World} {K : PySem.W.Frag}
      {mg : Str → Option Value} {base : Heap}

def sp_Session_marks (K : PySem.W.Frag) : Sp := S1 fun a H Q _ => ∃ (s : Addr) (c : SesA) (mk : List Mk1), a = .ref s ∧ H s = some (.ins (ga K "Session") c.dx (sesF c)) ∧ H c.ma = some (.dK (mkK mk)) ∧ (mk.map (·.1)).Nodup ∧ mk.length < 64 ∧
  ∀ p H', H p = none → H' p = some (.dK (mkK (sortM mk))) → Same H H' → Q (.ref p) H'
theorem ok_Session_marks (T : Tx K mg) : Fx P w K mg base CX0 1 (A_Session_marks K) (sp_Session_marks K) := by
  obtain ⟨fd, F⟩ := T.D_Session_marks
  refine fx_of F sc_Session_marks (F.bindsN fun _ _ _ _ _ _ us hl => match us, hl with | [_], _ => rfl) S1.len fun cdv A outer s H vs Q E hr h => ?_
  obtain ⟨a0, rfl, h⟩ := h
  refine ⟨_, PSs.nox (pss_one (ps_ret (pe_dc (own := [("name", 1)]) rfl sc_Session_marks.nd (pi_list (pe_callB (call_sortedD rfl) rfl T.f_sorted boot_sorted (pa_cons (pe_fld (pv 0) rfl) pa_nil))) (blkOk_by (N := ["self", "name"]) (sc := defScope s_Session_marks) (by decide +kernel)) (fun _ _ _ _ _ => by exact pg_name (i := 1) sc_Session_marks.nd rfl (.inl rfl)) (fun _ _ _ _ _ => by exact pts_nil) (fun _ _ _ _ _ => by exact (pv 1)) (fun _ _ _ _ _ => by exact (pe_dget (hu_of hr) (by exact (pe_fldK (K := K) rfl (pv 0) rfl)) (by exact (pv 1)) (fun _ _ => rfl)))))), ?_⟩
  obtain ⟨s, c, mk, rfl, hs, hm, nd, hl, h⟩ := h
  have cl := T.c_Session
  have n3 := T.n_Session_own_marks
  have hrd : Rd H c.ma (.dK (mkK mk)) := .inl hm
  walk_at "go"
  refine ⟨mkKeys mk, by rw [List.length_map]; exact hl, fun ys p perm srt hp => ?_⟩
  have e := names_sorted nd perm srt
  subst e
  have hp1 := upd_same (H := H) (a := p) (o := HO.lst (((sortM mk).map fun m => sS [m.1]).map V.str))
  have s1 := Same.new (o := HO.lst (((sortM mk).map fun m => sS [m.1]).map V.str)) hp
  generalize upd H p (HO.lst (((sortM mk).map fun m => sS [m.1]).map V.str)) = H1 at hp1 s1 ⊢
  rw [List.map_map] at hp1
  walk_at "go"
  intro D hD
  have nd2 := sortM_nodup nd
  refine dc_it (walk_list (xs := (sortM mk).map ((V.str) ∘ fun m => sS [m.1]))) (fun i H' => Hold (Same H1 H' ∧ H' D = some (.dK (mkK ((sortM mk).take i))))) (.mk ⟨Same.new hD, upd_same⟩) (fun i H' _ q => SqL.of (q.out.1 _ _ hp1)) (fun i x H2 H3 hi pv y => ?_) fun H2 pv => ?_
  · obtain ⟨rfl, hx⟩ := y
    obtain ⟨s2, hD2⟩ := pv.out
    obtain ⟨m, hm2, rfl⟩ := map_get hx
    have hs2 := s2 _ _ (s1 _ _ hs)
    have dg := dget_mk (s2 _ _ (s1 _ _ hm)) nd ((sortM_perm mk).subset (List.mem_of_getElem? hm2))
    walk_at "go"
    refine ⟨show _ = kV (kN m.1) from rfl, hD2, by rw [mkK_len, List.length_take]; have := (sortM_perm mk).length_eq; exact small20 (by omega), .mk ⟨s2.updN hD, ?_⟩⟩
    rw [upd_same]
    exact congrArg (fun z => some (HO.dK z)) (putK_take nd2 hm2)
  · obtain ⟨s2, hD2⟩ := pv.out
    rw [List.length_map, List.take_length] at hD2
    exact h D _ (s1.free hD) hD2 (s1.trans s2)
def sp_Session_execute_all (K : PySem.W.Frag) : Sp := S2 fun a b H Q E => ∃ (s : Addr) (c : SesA) (qs : List (List Nat)) (log : List Step) (mk : List Mk1) (at_ : List (Nat × Nat)) (q : List Nat) (p : Addr) (st : List Step), a = .ref s ∧ b = .ref p ∧
  isSes K H s c qs log mk at_ ∧ StL H p st ∧ p ≠ c.aa ∧ qs.getLast? = some q ∧ qs.length + st.length ≤ 10000 ∧ log.length + st.length ≤ 10000 ∧ fits q st ∧
  (∀ r, runS q st = some r → ∀ H', SesTo K H s c (qs ++ traceR q st) (log ++ st) mk at_ H' → Q .non H') ∧
  (∀ i qi s0, runS q (st.take i) = some qi → st[i]? = some s0 → after qi s0 = none → ∀ d H', H d = none → H' d = some (.xd [("position", .int (i : Nat))]) → SesTo K H s c (qs ++ traceR q (st.take i)) (log ++ st.take i) mk at_ H' → E (.ref (ga K "StepFailed")) (some d) H')
theorem ok_Session_execute_all (T : Tx K mg) : Fx P w K mg base (CX P w) 4 (A_Session_execute_all K) (sp_Session_execute_all K) := by
  obtain ⟨fd, F⟩ := T.D_Session_execute_all
  refine fx_of F sc_Session_execute_all (F.bindsN fun _ _ _ _ _ _ us hl => match us, hl with | [_, _], _ => rfl) S2.len fun cdv A outer s H vs Q E hr h => ?_
  obtain ⟨a0, a1, rfl, h⟩ := h
  refine ⟨_, (pss_one (ps_for (passes_of rfl) rfl (pi_enum rfl T.f_enumerate (pa_cons (pv 1) pa_nil)) (pg_tup rfl (pgs_cons (pg_name (i := 2) sc_Session_execute_all.nd rfl (.inl rfl)) (pgs_cons (pg_name (i := 3) sc_Session_execute_all.nd rfl (.inl rfl)) pgs_nil))) (pss_cons (ps_fld (pv 0) (pe_op op_cat (pe_fld (pv 0) rfl) (pe_lst (pa_cons (pmeth (ok_Session_stepped T) T.c_Session T.m_Session_stepped hr (by decide) (passes_call (takes_of rfl rfl rfl rfl) fun _ _ _ _ z => z) (pv 0) (pa_cons (pprop (ok_Session_queue T) T.c_Session T.p_Session_queue hr (by decide) pass0 (pv 0) rfl) (pa_cons (pv 3) (pa_cons (pv 2) pa_nil)))) pa_nil))) rfl)
    (pss_one (ps_fld (pv 0) (pe_op op_cat (pe_fld (pv 0) rfl) (pe_lst (pa_cons (pv 3) pa_nil))) rfl))))), ?_⟩
  obtain ⟨s, c, qs, log, mk, at_, q, p, st, rfl, rfl, hS, hp, npa, hlast, hl1, hl2, hf, h, hE⟩ := h
  have cl := T.c_Session
  have n1 := T.n_Session_own_queues
  have n2 := T.n_Session_own_log
  have nps : p ≠ s := ne_of hp hS.o (by intro z; cases z)
  have npm : p ≠ c.ma := ne_of hp hS.m (by intro z; cases z)
  walk_at "go"
  refine for_enumL (xs := st.map vT) (fun i σ' H' => Hold (∃ qi x1 y1, runS q (st.take i) = some qi ∧ SesTo K H s c (qs ++ traceR q (st.take i)) (log ++ st.take i) mk at_ H' ∧ σ' = [some (.ref s), some (.ref p), x1, y1]))
    (.mk ⟨q, _, _, rfl, ⟨c, rfl, rfl, rfl, by rw [show traceR q (st.take 0) = [] from rfl, List.append_nil, show st.take 0 = [] from rfl, List.append_nil]; exact hS, .refl⟩, rfl⟩)
    (fun i σ' H' _ z => ?_) (fun i x σ' H1 U H2 hx pv hU hU2 s2 => ?_) fun σ' H1 pv => ?_
  · obtain ⟨_, _, _, _, ⟨c', _, _, _, _, fr⟩, _⟩ := z.out
    exact SqL.of (fr _ _ hp nps npm npa)
  · obtain ⟨qi, x1, y1, hqi, ⟨c', e1, e2, e3, hS1, fr⟩, rfl⟩ := pv.out
    obtain ⟨s0, hs0, rfl⟩ := map_get hx
    have hil : i < st.length := (List.getElem?_eq_some_iff.mp hs0).1
    have hSx := hS1.same s2
    have ho := hSx.o
    have hq := hSx.q
    have hl := hSx.l
    have tl := trace_last hlast hqi
    have qil := hf i qi hqi
    walk_at "go"
    have hr3 : ∀ r, after qi s0 = some r → runS q (st.take (i + 1)) = some r := fun r hr' => by rw [take_snoc hs0, runS_snoc, hqi]; exact hr'
    refine ⟨fun r hr' => ⟨hf (i + 1) r (hr3 r hr'), ?_⟩, fun hn d H' hd he sm => ?_⟩
    · have lq : ((qs ++ traceR q (st.take i)).map vS).length + [vS r].length ≤ sizeLine := by
        have := trace_len hqi
        rw [List.length_map, List.length_append, this, List.length_take]
        show _ + 1 ≤ sizeLine
        exact Nat.le_trans (show qs.length + min i st.length + 1 ≤ 20000 by omega) (by decide)
      have ll : ((log ++ st.take i).map vT).length + [vT s0].length ≤ sizeLine := by
        rw [List.length_map, List.length_append, List.length_take]
        show _ + 1 ≤ sizeLine
        exact Nat.le_trans (show log.length + min i st.length + 1 ≤ 20000 by omega) (by decide)
      have b0 : Bld s H2 H2 [] := Bld.refl (Same.refl _)
      walk_at "go"
      intro p1 hp1
      have b1 := b0.new (o := .lst [vS r]) ho hp1
      have k1 := (b1.at_ _ (.head _)).1
      have m1 := ne_of_none ho hp1
      have m2 := ne_of_none hq hp1
      walk_at "go"
      intro p2 hp2
      have b2 := b1.new (o := .lst ((qs ++ traceR q (st.take i)).map vS ++ [vS r])) (by walk_at "lk") hp2
      have m3 : s ≠ p2 := ne_of_none (by walk_at "lk") hp2
      have m4 : c'.la ≠ s := ne_of hl ho (by intro z; cases z)
      have m5 : c'.la ≠ p1 := ne_of_none hl hp1
      have m6 : c'.la ≠ p2 := ne_of_none (by walk_at "lk") hp2
      have b3 := b2.put (o := .ins (ga K "Session") c'.dx (putF "own_queues" (V.ref p2) (sesF c')))
      have hl3 := b3.but _ _ hl m4
      walk_at "go"
      intro p3 hp3
      have b4 := b3.new (o := .lst [vT s0]) upd_same hp3
      have m7 : s ≠ p3 := ne_of_none upd_same hp3
      have m8 : c'.la ≠ p3 := ne_of_none hl3 hp3
      walk_at "go"
      intro p4 hp4
      have b5 := b4.new (o := .lst ((log ++ st.take i).map vT ++ [vT s0])) (by walk_at "lk") hp4
      have m9 : s ≠ p4 := ne_of_none (by walk_at "lk") hp4
      have b6 := b5.put (o := .ins (ga K "Session") c'.dx (putF "own_log" (V.ref p4) (putF "own_queues" (V.ref p2) (sesF c'))))
      walk_at "go"
      have kq := (b6.at_ _ (.tail _ (.tail _ (.head _)))).1
      have kl := (b6.at_ _ (.head _)).1
      have eq1 : (qs ++ traceR q (st.take i)).map vS ++ [vS r] = (qs ++ traceR q (st.take (i + 1))).map vS := by
        rw [take_snoc hs0, trace_snoc hqi hr', ← List.append_assoc, List.map_append (l₂ := [r])]; rfl
      have el1 : (log ++ st.take i).map vT ++ [vT s0] = (log ++ st.take (i + 1)).map vT := by
        rw [take_snoc hs0, ← List.append_assoc, List.map_append (l₂ := [s0])]; rfl
      have hS6 := hSx.upd (qs' := qs ++ traceR q (st.take (i + 1))) (log' := log ++ st.take (i + 1)) (qa := p2) (la := p4) b6.but upd_same (eq1 ▸ kq) (el1 ▸ kl) (hSx.aa (b6.at_ _ (.tail _ (.tail _ (.head _)))).2.1) (hSx.aa (b6.at_ _ (.head _)).2.1)
      exact .mk ⟨r, _, _, hr3 r hr', ⟨⟨c'.dx, p2, p4, c'.ma, c'.aa⟩, e1, e2, e3, hS6, fr.trans ((But3.of s2).trans b6.but.but3)⟩, rfl⟩
    · have hto : SesTo K H s c (qs ++ traceR q (st.take i)) (log ++ st.take i) mk at_ H2 := ⟨c', e1, e2, e3, hSx, fr.trans (But3.of s2)⟩
      exact hE i qi s0 hqi hs0 hn d H' (hto.free hd) he (hto.same sm)
  · obtain ⟨qi, x1, y1, hqi, hto, rfl⟩ := pv.out
    rw [List.length_map, List.take_length] at hqi hto
    exact h qi hqi _ hto
end
end Qe

namespace Qe
open PySem PySem.Spec PyProof.Rows L2 He
local macro_rules | `(tactic| walk_at "lk") => `(tactic| first
  | assumption
  | exact upd_same
  | (refine (upd_ne (by assumption)).trans ?_; walk_at "lk"))
local macro_rules | `(tactic| walk_at "sd") => `(tactic| first
  | rfl
  | assumption
  | exact SqL.of (by assumption)
  | exact .inl (SqL.of (by assumption))
  | exact SqT.of (by assumption)
  | exact ⟨_, SqL.of (by assumption)⟩
  | exact .inr (SqT.of (by assumption))
  | exact .inl ⟨rfl, _, SqL.of (by assumption)⟩
  | exact upd_same
  | (refine (upd_ne (by assumption)).trans ?_; walk_at "lk")
  | exact ⟨_, rfl⟩
  | exact NN.none
  | exact NN.some (by omega)
  | exact lt1
  | exact lt2
  | exact lt3
  | exact lt4
  | exact sz0
  | exact sz1
  | exact sz2
  | exact sz3
  | exact sz4
  | exact small20 (by first | omega | (rw [List.length_map]; omega))
  | exact True.intro
  | omega
  | (dsimp only [List.length_cons, List.length_nil]; omega))
local macro_rules | `(tactic| walk_at "go") => `(tactic| first
  | ((with_reducible refine tSeq_i ?_); walk_at "go")
  | ((with_reducible refine gName_i ?_); walk_at "go")
  | ((with_reducible refine tNext_i ?_); walk_at "go")
  | ((with_reducible refine iteT ?_); walk_at "go")
  | ((with_reducible refine iteF ?_); walk_at "go")
  | (with_reducible refine (show tLockE _ _ _ _ from ?_))
  | (with_reducible refine (show tLock _ _ _ _ from ?_))
  | (with_reducible refine (show (∃ W : Nat → Nat → L2.St → Hp → Prop, _) from ?_))
  | (with_reducible refine (show C8.tCut _ _ _ _ _ from ?_))
  | (with_reducible refine (show tWhile _ _ _ _ _ from ?_))
  | (apply Exists.intro; walk_at "go")
  | (apply And.intro; (focus (walk_at "sd")); walk_at "go")
  | skip)

section
variable {P : Program} {w : World} {K : PySem.W.Frag}
      {mg : Str → Option Value} {base : Heap}

def sp_Session_do (K : PySem.W.Frag) : Sp := S2 fun a b H Q E => ∃ (s : Addr) (c : SesA) (qs : List (List Nat)) (log : List Step) (mk : List Mk1) (at_ : List (Nat × Nat)) (q : List Nat) (st : Step), a = .ref s ∧ b = vT st ∧ st.ok ∧
  isSes K H s c qs log mk at_ ∧ qs.getLast? = some q ∧ qs.length ≤ 5000 ∧ log.length ≤ 5000 ∧ fits q [st] ∧
  (∀ r, after q st = some r → ∀ H', SesTo K H s c (qs ++ [r]) (log ++ [st]) mk at_ H' → Q (vS r) H') ∧
  (after q st = none → ∀ d H', H d = none → H' d = some (.xd [("position", .int 0)]) → SesTo K H s c qs log mk at_ H' → E (.ref (ga K "StepFailed")) (some d) H')
theorem ok_Session_do (T : Tx K mg) : Fx P w K mg base (CX P w) 5 (A_Session_do K) (sp_Session_do K) := by
  obtain ⟨fd, F⟩ := T.D_Session_do
  refine fx_of F sc_Session_do (F.bindsN fun _ _ _ _ _ _ us hl => match us, hl with | [_, _], _ => rfl) S2.len fun cdv A outer s H vs Q E hr h => ?_
  obtain ⟨a0, a1, rfl, h⟩ := h
  refine ⟨_, (pss_cons (ps_if (pt_cmpR op_notN (pcall (ok_first_unlooking T) T.g_first_unlooking hr (by decide) rfl pass0 (pa_cons (pe_lst (pa_cons (pv 1) pa_nil)) (pa_cons pe_int pa_nil))) pe_non (nomark _)) (pss_one (ps_never)) pss_nil)
    (pss_cons (ps_expr (pmeth (ok_Session_execute_all T) T.c_Session T.m_Session_execute_all hr (by decide) (passes_call (takes_of rfl rfl rfl rfl) fun _ _ _ _ z => z) (pv 0) (pa_cons (pe_lst (pa_cons (pv 1) pa_nil)) pa_nil)))
    (pss_one (ps_ret (pprop (ok_Session_queue T) T.c_Session T.p_Session_queue hr (by decide) pass0 (pv 0) rfl))))), ?_⟩
  obtain ⟨s, c, qs, log, mk, at_, q, st, rfl, rfl, hok, hS, hlast, hl1, hl2, hf, h, hE⟩ := h
  have cl := T.c_Session
  have ok1 : ∀ s ∈ [st], s.ok := fun x hx => by rw [List.mem_singleton.mp hx]; exact hok
  have one : (([st].length : Nat) : Int) ≤ 1 := Int.le_refl 1
  have q1 : qs.length + [st].length ≤ 10000 := by show qs.length + 1 ≤ 10000; omega
  have q2 : log.length + [st].length ≤ 10000 := by show log.length + 1 ≤ 10000; omega
  walk_at "go"
  intro p1 hp1
  have k1 : StL (upd H p1 (.lst [vT st])) p1 [st] := upd_same
  have s1 : Same H (upd H p1 (.lst [vT st])) := Same.new hp1
  generalize upd H p1 (HO.lst [vT st]) = H1 at k1 s1 ⊢
  walk_at "go"
  intro H2 s2
  have s12 := s1.trans s2
  have ho2 := (hS.same s12).o
  walk_at "go"
  intro p2 hp2
  have k2 : StL (upd H2 p2 (.lst [vT st])) p2 [st] := upd_same
  have s3 : Same H (upd H2 p2 (.lst [vT st])) := s12.trans (Same.new hp2)
  have naa := (hS.same s12).aa hp2
  generalize upd H2 p2 (HO.lst [vT st]) = H3 at k2 s3 ⊢
  have hS3 := hS.same s3
  have ho3 := hS3.o
  walk_at "go"
  refine ⟨fun r hr H' to => ?_, fun i qi s0 h1 h2 h3 d H' hd he to => ?_⟩
  · have hr' : after q st = some r := hr
    have e1 : traceR q [st] = [r] := by
      show (match after q st with | some r => r :: traceR r [] | none => []) = _
      rw [hr']; rfl
    rw [e1] at to
    obtain ⟨c', e1, e2, e3, hS4, fr⟩ := id to
    have ho4 := hS4.o
    have hq4 := hS4.q
    have ll : (qs ++ [r]).getLast? = some r := by simp
    walk_at "go"
    exact h r hr' H' (to.pre s3)
  · have hi : i = 0 := by
      have := (List.getElem?_eq_some_iff.mp h2).1
      rw [List.length_singleton] at this
      omega
    subst hi
    cases h1
    cases h2
    rw [show traceR q (List.take 0 [st]) = [] from rfl, List.append_nil, show List.take 0 [st] = [] from rfl, List.append_nil] at to
    exact hE h3 d H' (s3.free hd) he (to.pre s3)
/-- the session cut back to n steps; its marks dict is new -/
def SesCut (K : PySem.W.Frag) (H : Hp) (s : Addr) (c : SesA) (qs : List (List Nat)) (log : List Step) (mk : List Mk1) (at_ : List (Nat × Nat)) (H' : Hp) : Prop :=
  ∃ c' : SesA, c'.dx = c.dx ∧ c'.aa = c.aa ∧ H c'.ma = none ∧ isSes K H' s c' qs log mk at_ ∧ But s H H'
def sp_Session_shorten (K : PySem.W.Frag) : Sp := S2 fun a b H Q _ => ∃ (s : Addr) (c : SesA) (qs : List (List Nat)) (log : List Step) (mk : List Mk1) (at_ : List (Nat × Nat)) (n : Nat) (r : List Nat), a = .ref s ∧ b = .int n ∧
  isSes K H s c qs log mk at_ ∧ (qs.take (n + 1)).getLast? = some r ∧ (mk.map (·.1)).Nodup ∧ mk.length ≤ 64 ∧
  ∀ H', SesCut K H s c (qs.take (n + 1)) (log.take n) (mk.filter fun m => decide (m.2 ≤ n)) at_ H' → Q (vS r) H'
theorem ok_Session_shorten (T : Tx K mg) : Fx P w K mg base CX0 3 (A_Session_shorten K) (sp_Session_shorten K) := by
  obtain ⟨fd, F⟩ := T.D_Session_shorten
  refine fx_of F sc_Session_shorten (F.bindsN fun _ _ _ _ _ _ us hl => match us, hl with | [_, _], _ => rfl) S2.len fun cdv A outer s H vs Q E hr h => ?_
  obtain ⟨a0, a1, rfl, h⟩ := h
  refine ⟨_, PSs.nox (pss_cons (ps_fld (pv 0) (pe_slice sl_listN (pe_fld (pv 0) rfl) po_none (po_some (pe_op op_add (pv 1) pe_int))) rfl)
    (pss_cons (ps_fld (pv 0) (pe_slice sl_listN (pe_fld (pv 0) rfl) po_none (po_some (pv 1))) rfl)
    (pss_cons (ps_fld (pv 0) (pe_lock (pe_dc (own := [("name", 2), ("place", 3)]) rfl sc_Session_shorten.nd (pi_items (pe_fld (pv 0) rfl)) (blkOk_by (N := ["self", "length", "name", "place"]) (sc := defScope s_Session_shorten) (by decide +kernel)) (fun _ _ _ _ _ => by exact pg_tupK (K := K) 2 rfl rfl (pgs_cons (pg_name (i := 2) sc_Session_shorten.nd rfl (.inl rfl)) (pgs_cons (pg_name (i := 3) sc_Session_shorten.nd rfl (.inl rfl)) pgs_nil))) (fun _ _ _ _ _ => by exact pts_one (pt_cmpR op_le (pv 3) (pv 1) (nomark _))) (fun _ _ _ _ _ => by exact (pv 2)) (fun _ _ _ _ _ => by exact (pv 3)))) rfl)
    (pss_one (ps_ret (pprop (ok_Session_queue T) T.c_Session T.p_Session_queue hr (by decide) pass0 (pv 0) rfl)))))), ?_⟩
  obtain ⟨s, c, qs, log, mk, at_, n, r, rfl, rfl, hS, hlast, nd, hml, h⟩ := h
  have cl := T.c_Session
  have n1 := T.n_Session_own_queues
  have n2 := T.n_Session_own_log
  have n3 := T.n_Session_own_marks
  have ho := hS.o
  have hq := hS.q
  have hl := hS.l
  have hm := hS.m
  obtain ⟨z1, z2, z3, z4⟩ := hS.neq
  have b0 : Bld s H H [] := Bld.refl (Same.refl _)
  walk_at "go"
  intro p1 hp1
  have b1 := b0.new (o := .lst (cutN (qs.map vS) none (some ((n : Int) + 1)))) ho hp1
  have m1 := ne_of_none ho hp1
  have b2 := b1.put (o := .ins (ga K "Session") c.dx (putF "own_queues" (V.ref p1) (sesF c)))
  have hl2 := b2.but _ _ hl z4
  walk_at "go"
  intro p2 hp2
  have b3 := b2.new (o := .lst (cutN (log.map vT) none (some (n : Int)))) upd_same hp2
  have m2 : s ≠ p2 := ne_of_none upd_same hp2
  have b4 := b3.put (o := .ins (ga K "Session") c.dx (putF "own_log" (V.ref p2) (putF "own_queues" (V.ref p1) (sesF c))))
  have hm4 := b4.but _ _ hm z1
  walk_at "go"
  have hs4 := b4.self
  have kp1 := (b4.at_ _ (.tail _ (.head _))).1
  have kp2 := (b4.at_ _ (.head _)).1
  have np1 : p1 ≠ c.ma := (ne_of_none hm hp1).symm
  have np2 : p2 ≠ c.ma := fun e => by
    have := (b4.at_ _ (.head _)).2.1
    rw [show (p2, HO.lst (cutN (log.map vT) none (some (n : Int)))).1 = c.ma from e, hm] at this
    cases this
  have hp20 : H p2 = none := (b4.at_ _ (.head _)).2.1
  have np1s := (b4.at_ _ (.tail _ (.head _))).2.2
  have np2s := (b4.at_ _ (.head _)).2.2
  have z1' := z1.symm
  generalize upd (upd (upd (upd H p1 _) s _) p2 _) s _ = H4 at b4 hm4 hs4 kp1 kp2 ⊢
  intro od
  have hs5 : (upd H4 c.ma (.frz od (.dK (mkK mk)))) s = some (.ins (ga K "Session") c.dx (putF "own_log" (V.ref p2) (putF "own_queues" (V.ref p1) (sesF c)))) := by walk_at "lk"
  have kp15 : (upd H4 c.ma (.frz od (.dK (mkK mk)))) p1 = _ := (upd_ne np1).trans kp1
  have kp25 : (upd H4 c.ma (.frz od (.dK (mkK mk)))) p2 = _ := (upd_ne np2).trans kp2
  have f5 : ∀ b o, H4 b = some o → b ≠ c.ma → (upd H4 c.ma (.frz od (.dK (mkK mk)))) b = some o := fun b o e nb => by rw [upd_ne nb]; exact e
  have hm5 : (upd H4 c.ma (.frz od (.dK (mkK mk)))) c.ma = some (.frz od (.dK (mkK mk))) := upd_same
  generalize upd H4 c.ma (.frz od (.dK (mkK mk))) = H5 at hs5 kp15 kp25 f5 hm5 ⊢
  walk_at "go"
  intro D hD
  refine dc_it (walk_items (kvs := mkK mk)) (fun i H' => Hold (Same H5 H' ∧ H' D = some (.dK (mkK ((mk.take i).filter fun m => decide (m.2 ≤ n)))))) (.mk ⟨Same.new hD, upd_same⟩) (fun i H' _ q => q.out.1 _ _ hm5) (fun i x H2 H3 hi pv y => ?_) fun H2 pv => ?_
  · obtain ⟨U, x1, y1, rfl, hU, rfl, e1, e2⟩ := y
    obtain ⟨m, hmi, rfl, rfl⟩ := items_get hi e1 e2
    obtain ⟨s2, hD2⟩ := pv.out
    have hU3 : (upd H2 U (.tup [vS [m.1], V.int (m.2 : Nat)])) U = some (.tup [vS [m.1], V.int (m.2 : Nat)]) := upd_same
    have s3 := s2.trans (Same.new (o := .tup [vS [m.1], V.int (m.2 : Nat)]) hU)
    have hD3 : (upd H2 U (.tup [vS [m.1], V.int (m.2 : Nat)])) D = _ := (upd_ne (ne_of_none hD2 hU)).trans hD2
    generalize upd H2 U (.tup [vS [m.1], V.int (m.2 : Nat)]) = H3 at hU3 s3 hD3 ⊢
    walk_at "go"
    refine ite_d (fun e => ?_) fun e => ?_
    · have e' : decide (m.2 ≤ n) = true := decide_eq_true (by omega)
      walk_at "go"
      refine ⟨show _ = kV (kN m.1) from rfl, hD3, by
        rw [mkK_len]
        have l1 := List.length_filter_le (fun m : Mk1 => decide (m.2 ≤ n)) (mk.take i)
        have l2 : (mk.take i).length ≤ mk.length := by rw [List.length_take]; omega
        exact small20 (by omega), .mk ⟨s3.updN hD, ?_⟩⟩
      rw [upd_same]
      exact congrArg (fun z => some (HO.dK z)) (putK_filter nd (fun m : Mk1 => decide (m.2 ≤ n)) hmi e')
    · have e' : ¬ decide (m.2 ≤ n) = true := fun z => e (by have := of_decide_eq_true z; omega)
      refine .mk ⟨s3, ?_⟩
      rw [filter_snoc _ hmi, if_neg e']
      exact hD3
  · obtain ⟨s2, hD2⟩ := pv.out
    rw [mkK_len, List.take_length] at hD2
    have hs6 := s2 _ _ hs5
    have nDs : D ≠ s := (ne_of_none hs5 hD).symm
    have nDm : D ≠ c.ma := (ne_of_none hm5 hD).symm
    have hD0 : H D = none := by
      cases e : H D with
      | none => rfl
      | some o =>
        have := f5 _ _ (b4.but _ _ e nDs) nDm
        rw [hD] at this; cases this
    have hSf : SesCut K H s c (qs.take (n + 1)) (log.take n) (mk.filter fun m => decide (m.2 ≤ n)) at_ (upd (upd H2 c.ma (.dK (mkK mk))) s (.ins (ga K "Session") c.dx (putF "own_marks" (V.ref D) (putF "own_log" (V.ref p2) (putF "own_queues" (V.ref p1) (sesF c)))))) := by
      have bt : But s H (upd (upd H2 c.ma (.dK (mkK mk))) s (.ins (ga K "Session") c.dx (putF "own_marks" (V.ref D) (putF "own_log" (V.ref p2) (putF "own_queues" (V.ref p1) (sesF c)))))) := fun b o e nb => by
        rw [upd_ne nb]
        by_cases z : b = c.ma
        · rw [z] at e ⊢
          rw [hm] at e
          rw [upd_same]
          exact e
        · rw [upd_ne z]
          exact s2 _ _ (f5 _ _ (b4.but _ _ e nb) z)
      refine ⟨⟨c.dx, p1, p2, D, c.aa⟩, rfl, rfl, hD0, ⟨upd_same, ?_, ?_, ?_, hS.a.butx bt z2 ho (fun l z => by cases z), hS.aa hp1, hS.aa hp20⟩, bt⟩
      · rw [upd_ne np1s, upd_ne np1]
        have := s2 _ _ kp15
        rw [List.map_take]
        exact this
      · show _ = _
        rw [upd_ne np2s, upd_ne np2]
        have := s2 _ _ kp25
        rw [List.map_take]
        exact this
      · rw [upd_ne nDs, upd_ne nDm]
        exact hD2
    obtain ⟨c', e1, e2, e3, hS4, fr⟩ := id hSf
    have ho4 := hS4.o
    have hq4 := hS4.q
    refine ⟨s2 _ _ hm5, ?_⟩
    walk_at "go"
    exact h _ hSf
end
end Qe

namespace Qe
open PySem PySem.Spec PyProof.Rows L2 He
local macro_rules | `(tactic| walk_at "lk") => `(tactic| first
  | assumption
  | exact upd_same
  | (refine (upd_ne (by assumption)).trans ?_; walk_at "lk"))
local macro_rules | `(tactic| walk_at "sd") => `(tactic| first
  | rfl
  | assumption
  | exact SqL.of (by assumption)
  | exact .inl (SqL.of (by assumption))
  | exact SqT.of (by assumption)
  | exact ⟨_, SqL.of (by assumption)⟩
  | exact .inr (SqT.of (by assumption))
  | exact .inl ⟨rfl, _, SqL.of (by assumption)⟩
  | exact upd_same
  | (refine (upd_ne (by assumption)).trans ?_; walk_at "lk")
  | exact ⟨_, rfl⟩
  | exact NN.none
  | exact NN.some (by omega)
  | exact lt1
  | exact lt2
  | exact lt3
  | exact lt4
  | exact sz0
  | exact sz1
  | exact sz2
  | exact sz3
  | exact sz4
  | exact small20 (by first | omega | (rw [List.length_map]; omega))
  | exact True.intro
  | omega
  | (dsimp only [List.length_cons, List.length_nil]; omega))
local macro_rules | `(tactic| walk_at "go") => `(tactic| first
  | ((with_reducible refine tSeq_i ?_); walk_at "go")
  | ((with_reducible refine gName_i ?_); walk_at "go")
  | ((with_reducible refine tNext_i ?_); walk_at "go")
  | ((with_reducible refine iteT ?_); walk_at "go")
  | ((with_reducible refine iteF ?_); walk_at "go")
  | (with_reducible refine (show tLockE _ _ _ _ from ?_))
  | (with_reducible refine (show tLock _ _ _ _ from ?_))
  | (with_reducible refine (show (∃ W : Nat → Nat → L2.St → Hp → Prop, _) from ?_))
  | (with_reducible refine (show C8.tCut _ _ _ _ _ from ?_))
  | (with_reducible refine (show tWhile _ _ _ _ _ from ?_))
  | (apply Exists.intro; walk_at "go")
  | (apply And.intro; (focus (walk_at "sd")); walk_at "go")
  | skip)

section
variable {P : Program} {w : World} {K : PySem.W.Frag}
      {mg : Str → Option Value} {base : Heap}

def sp_Session_undo (K : PySem.W.Frag) : Sp := S2 fun a b H Q _ => ∃ (s : Addr) (c : SesA) (qs : List (List Nat)) (log : List Step) (mk : List Mk1) (at_ : List (Nat × Nat)) (n : Nat) (r : List Nat), a = .ref s ∧ b = .int n ∧
  isSes K H s c qs log mk at_ ∧ 1 ≤ n ∧ n ≤ log.length ∧ (qs.take (log.length - n + 1)).getLast? = some r ∧ (mk.map (·.1)).Nodup ∧ mk.length ≤ 64 ∧
  ∀ H', SesCut K H s c (qs.take (log.length - n + 1)) (log.take (log.length - n)) (mk.filter fun m => decide (m.2 ≤ log.length - n)) at_ H' → Q (vS r) H'
theorem ok_Session_undo (T : Tx K mg) : FxK P w K mg base CX0 4 (A_Session_undo K) "count" (sp_Session_undo K) := by
  obtain ⟨fd, F⟩ := T.D_Session_undo
  refine ⟨fd, ["self", "count"], F.ok sc_Session_undo S2.len (fun cdv A outer s H vs Q E hr h => ?_), ⟨?_, fun r1 r2 => r1.append r2⟩⟩
  rotate_left
  · obtain ⟨oc, od, dV, kV, doc, pm, an, cdv, ct, osl, rfl, lk, hcd, hD, hK⟩ := F.ex
    rcases hD with ⟨_,
          rfl⟩ | ⟨e, _⟩
    · intro s us ws _ l1 l2
      match us, ws, l1, l2 with
      | [u], [w2], _, _ => exact .of_eq rfl
    · exact absurd rfl e
  obtain ⟨a0, a1, rfl, h⟩ := h
  refine ⟨_, PSs.nox (pss_cons (ps_if (PW.pt (pw_or (pt_not (pt_val (pcall (ok_is_integer T) T.g_is_integer hr (by decide) rfl pass0 (pa_cons (pv 1) pa_nil)))) (pw_or1 (pt_cmpR op_lt (pv 1) pe_int (nomark _))))) (pss_one (ps_never)) pss_nil)
    (pss_cons (ps_if (pt_cmpR op_gt (pv 1) (pe_callB call_len_seq rfl T.f_len boot_len (pa_cons (pe_fld (pv 0) rfl) pa_nil)) (nomark _)) (pss_one (ps_never)) pss_nil)
    (pss_one (ps_ret (pmeth (ok_Session_shorten T) T.c_Session T.m_Session_shorten hr (by decide) pass0 (pv 0) (pa_cons (pe_op op_sub (pe_callB call_len_seq rfl T.f_len boot_len (pa_cons (pe_fld (pv 0) rfl) pa_nil)) (pv 1)) pa_nil)))))), ?_⟩
  obtain ⟨s, c, qs, log, mk, at_, n, r, rfl, rfl, hS, hn1, hn2, hlast, nd, hml, h⟩ := h
  have cl := T.c_Session
  have n2 := T.n_Session_own_log
  have ho := hS.o
  have hl := hS.l
  have e1 : (((log.map vT).length : Nat) : Int) - (n : Int) = ((log.length - n : Nat) : Int) := by rw [List.length_map]; omega
  walk_at "go"
  refine ite_d (fun z => absurd z (by omega)) fun _ => ?_
  walk_at "go"
  refine ite_d (fun z => absurd z (by rw [List.length_map]; omega)) fun _ => ?_
  walk_at "go"
  refine ⟨congrArg V.int e1, ?_⟩
  walk_at "go"
  exact h
def sp_Session_mark (K : PySem.W.Frag) : Sp := S2 fun a b H Q _ => ∃ (s : Addr) (c : SesA) (qs : List (List Nat)) (log : List Step) (mk : List Mk1) (at_ : List (Nat × Nat)) (n : Nat), a = .ref s ∧ b = vS [n] ∧ isLow n = true ∧
  isSes K H s c qs log mk at_ ∧ mk.length ≤ 15 ∧ ∀ H', isSes K H' s c qs log (putM mk n log.length) at_ → Fr c s H H' → Q .non H'
theorem ok_Session_mark (T : Tx K mg) : Fx P w K mg base CX0 2 (A_Session_mark K) (sp_Session_mark K) := by
  obtain ⟨fd, F⟩ := T.D_Session_mark
  refine fx_of F sc_Session_mark (F.bindsN fun _ _ _ _ _ _ us hl => match us, hl with | [_, _], _ => rfl) S2.len fun cdv A outer s H vs Q E hr h => ?_
  obtain ⟨a0, a1, rfl, h⟩ := h
  refine ⟨_, PSs.nox (pss_cons (ps_if (pt_not (pt_val (pcall (ok_is_name T) T.g_is_name hr (by decide) rfl pass0 (pa_cons (pv 1) pa_nil)))) (pss_one (ps_never)) pss_nil)
    (pss_cons (ps_if (PW.pt (pw_and (pt_cmp (pc_dnotin (hu_of hr) (pv 1) (pe_fld (pv 0) rfl))) (pw_and1 (pt_cmpR op_eqI (pe_callB call_lenD rfl T.f_len boot_len (pa_cons (pe_fld (pv 0) rfl) pa_nil)) (C8.pe_gc rfl (gI (T.i_MAX_MARKS))) (nomark _))))) (pss_one (ps_never)) pss_nil)
    (pss_one (ps_dput (hu_of hr) (pe_fld (pv 0) rfl) (pv 1) (pe_callB call_len_seq rfl T.f_len boot_len (pa_cons (pe_fld (pv 0) rfl) pa_nil)) rfl)))), ?_⟩
  obtain ⟨s, c, qs, log, mk, at_, n, rfl, rfl, hn, hS, hml, h⟩ := h
  have cl := T.c_Session
  have n2 := T.n_Session_own_log
  have n3 := T.n_Session_own_marks
  have one : [n].length ≤ 20000 := by show 1 ≤ 20000; omega
  have nb : nameB [n] = true := by
    unfold nameB
    rw [List.all_cons, hn]
    rfl
  walk_at "go"
  intro H1 s1
  rw [nb]
  have hS1 := hS.same s1
  have ho := hS1.o
  have hl := hS1.l
  have hm := hS1.m
  have dg := dget_any n hm
  have dp := dput_mk n (log.map vT).length hm (by omega)
  have len16 : decide (((mkK mk).length : Int) = 16) = false := by rw [mkK_len]; exact decide_eq_false (by omega)
  have fin : ∀ H', H' = upd H1 c.ma (.dK (mkK (putM mk n (log.map vT).length))) → Q .non H' := fun H' e => by
    subst e
    rw [List.length_map]
    have b : But c.ma H1 (upd H1 c.ma (.dK (mkK (putM mk n log.length)))) := But.upd (fun _ _ e _ => e)
    obtain ⟨z1, z2, z3, z4⟩ := hS1.neq
    obtain ⟨ts, ha, _⟩ := id hS1.a
    have q1 : c.qa ≠ c.ma := ne_of hS1.q hm (by intro z; cases z)
    have q2 : c.la ≠ c.ma := ne_of hS1.l hm (by intro z; cases z)
    have q3 : c.aa ≠ c.ma := ne_of ha hm (by intro z; cases z)
    exact h _ ⟨b _ _ ho z1.symm, b _ _ hS1.q q1, b _ _ hS1.l q2, upd_same, hS1.a.butx b q3 hm (fun l z => by cases z), hS1.nq, hS1.nl⟩ ((But3.of s1).trans fun d o e _ nd _ => b d o e nd)
  walk_at "go"
  cases e : mLook mk n with
  | some p =>
    rw [e] at dg
    walk_at "go"
    exact fin _ rfl
  | none =>
    rw [e] at dg
    walk_at "go"
    rw [len16]
    walk_at "go"
    exact fin _ rfl
def sp_Session_place_of (K : PySem.W.Frag) : Sp := S2 fun a b H Q _ => ∃ (s : Addr) (c : SesA) (mk : List Mk1) (m : Mk1), a = .ref s ∧ b = vS [m.1] ∧ isLow m.1 = true ∧ H s = some (.ins (ga K "Session") c.dx (sesF c)) ∧ H c.ma = some (.dK (mkK mk)) ∧
  (mk.map (·.1)).Nodup ∧ m ∈ mk ∧ ∀ H', Same H H' → Q (.int m.2) H'
theorem ok_Session_place_of (T : Tx K mg) : Fx P w K mg base CX0 2 (A_Session_place_of K) (sp_Session_place_of K) := by
  obtain ⟨fd, F⟩ := T.D_Session_place_of
  refine fx_of F sc_Session_place_of (F.bindsN fun _ _ _ _ _ _ us hl => match us, hl with | [_, _], _ => rfl) S2.len fun cdv A outer s H vs Q E hr h => ?_
  obtain ⟨a0, a1, rfl, h⟩ := h
  refine ⟨_, PSs.nox (pss_cons (ps_if (PW.pt (pw_or (pt_not (pt_val (pcall (ok_is_name T) T.g_is_name hr (by decide) rfl pass0 (pa_cons (pv 1) pa_nil)))) (pw_or1 (pt_cmp (pc_dnotin (hu_of hr) (pv 1) (pe_fld (pv 0) rfl)))))) (pss_one (ps_never)) pss_nil)
    (pss_one (ps_ret (pe_dget (hu_of hr) (pe_fld (pv 0) rfl) (pv 1) (fun _ _ => rfl))))), ?_⟩
  obtain ⟨s, c, mk, m, rfl, rfl, hn, ho0, hm0, nd, hmm, h⟩ := h
  have cl := T.c_Session
  have n3 := T.n_Session_own_marks
  have one : [m.1].length ≤ 20000 := by show 1 ≤ 20000; omega
  have nb : nameB [m.1] = true := by
    unfold nameB
    rw [List.all_cons, hn]
    rfl
  walk_at "go"
  intro H1 s1
  rw [nb]
  have ho := s1 _ _ ho0
  have hm := s1 _ _ hm0
  have dg := dget_mk hm nd hmm
  walk_at "go"
  exact h _ s1
def sp_Session_since (K : PySem.W.Frag) : Sp := S2 fun a b H Q E => ∃ (s : Addr) (c : SesA) (log : List Step) (mk : List Mk1) (m : Mk1) (k : Col), a = .ref s ∧ b = vS [m.1] ∧ isLow m.1 = true ∧ H s = some (.ins (ga K "Session") c.dx (sesF c)) ∧ StL H c.la log ∧ H c.ma = some (.dK (mkK mk)) ∧
  (mk.map (·.1)).Nodup ∧ m ∈ mk ∧ log.length ≤ 4000 ∧ (∀ s ∈ log, s.ok) ∧ colR Col0 (log.drop m.2) = some k ∧
  ((k.p.length ≤ 2000 ∧ k.w.length ≤ 2000) → ∀ b H', H b = none → isLE K H' b (effOf k) → Same H H' → Q (.ref b) H') ∧ (¬(k.p.length ≤ 2000 ∧ k.w.length ≤ 2000) → xdOut "LimitExceeded" "limit" (.int 2000) K H E)
theorem ok_Session_since (T : Tx K mg) : Fx P w K mg base (CX P w) 7 (A_Session_since K) (sp_Session_since K) := by
  obtain ⟨fd, F⟩ := T.D_Session_since
  refine fx_of F sc_Session_since (F.bindsN fun _ _ _ _ _ _ us hl => match us, hl with | [_, _], _ => rfl) S2.len fun cdv A outer s H vs Q E hr h => ?_
  obtain ⟨a0, a1, rfl, h⟩ := h
  refine ⟨_, (pss_one (ps_ret (pcall (ok_collected T) T.g_collected hr (by decide) rfl (passes_call (takes_of rfl rfl rfl rfl) fun _ _ _ _ z => z) (pa_cons (pe_slice sl_listN (pe_fld (pv 0) rfl) (po_some (pmeth (ok_Session_place_of T) T.c_Session T.m_Session_place_of hr (by decide) pass0 (pv 0) (pa_cons (pv 1) pa_nil))) po_none) pa_nil)))), ?_⟩
  obtain ⟨s, c, log, mk, m, k, rfl, rfl, hn, ho, hl, hm, nd, hmm, hlen, hok, hk, h, hE⟩ := h
  have cl := T.c_Session
  have n2 := T.n_Session_own_log
  walk_at "go"
  intro H1 s1
  have hl1 := s1 _ _ hl
  walk_at "go"
  intro p hp
  have kp : StL (upd H1 p (.lst (cutN (log.map vT) (some (m.2 : Int)) none))) p (log.drop m.2) := by
    show _ = some (HO.lst ((log.drop m.2).map vT))
    rw [upd_same, List.map_drop]
    rfl
  have s2 := s1.trans (Same.new (o := .lst (cutN (log.map vT) (some (m.2 : Int)) none)) hp)
  generalize upd H1 p (.lst (cutN (log.map vT) (some (m.2 : Int)) none)) = H2 at kp s2 ⊢
  have hlen2 : (log.drop m.2).length ≤ 4000 := by rw [List.length_drop]; omega
  have hok2 : ∀ s ∈ log.drop m.2, s.ok := fun x hx => hok x (List.mem_of_mem_drop hx)
  walk_at "go"
  exact ⟨fun c b H' hb le s3 => h c b H' (s2.free hb) le (s2.trans s3), fun c d H' hd e s3 => hE c d H' (s2.free hd) e (s2.trans s3)⟩
def sp_Session_total (K : PySem.W.Frag) : Sp := S1 fun a H Q E => ∃ (s : Addr) (c : SesA) (log : List Step) (k : Col), a = .ref s ∧ H s = some (.ins (ga K "Session") c.dx (sesF c)) ∧ StL H c.la log ∧ log.length ≤ 4000 ∧ (∀ s ∈ log, s.ok) ∧ colR Col0 log = some k ∧
  ((k.p.length ≤ 2000 ∧ k.w.length ≤ 2000) → ∀ b H', H b = none → isLE K H' b (effOf k) → Same H H' → Q (.ref b) H') ∧ (¬(k.p.length ≤ 2000 ∧ k.w.length ≤ 2000) → xdOut "LimitExceeded" "limit" (.int 2000) K H E)
theorem ok_Session_total (T : Tx K mg) : Fx P w K mg base (CX P w) 7 (A_Session_total K) (sp_Session_total K) := by
  obtain ⟨fd, F⟩ := T.D_Session_total
  refine fx_of F sc_Session_total (F.bindsN fun _ _ _ _ _ _ us hl => match us, hl with | [_], _ => rfl) S1.len fun cdv A outer s H vs Q E hr h => ?_
  obtain ⟨a0, rfl, h⟩ := h
  refine ⟨_, (pss_one (ps_ret (pcall (ok_collected T) T.g_collected hr (by decide) rfl (passes_call (takes_of rfl rfl rfl rfl) fun _ _ _ _ z => z) (pa_cons (pe_fld (pv 0) rfl) pa_nil)))), ?_⟩
  obtain ⟨s, c, log, k, rfl, ho, hl, hlen, hok, hk, h, hE⟩ := h
  have cl := T.c_Session
  have n2 := T.n_Session_own_log
  walk_at "go"
  exact hE
def sp_Session_rewind (K : PySem.W.Frag) : Sp := S2 fun a b H Q _ => ∃ (s : Addr) (c : SesA) (qs : List (List Nat)) (log : List Step) (mk : List Mk1) (at_ : List (Nat × Nat)) (m : Mk1) (r : List Nat), a = .ref s ∧ b = vS [m.1] ∧ isLow m.1 = true ∧
  isSes K H s c qs log mk at_ ∧ m ∈ mk ∧ (qs.take (m.2 + 1)).getLast? = some r ∧ (mk.map (·.1)).Nodup ∧ mk.length ≤ 64 ∧
  ∀ H', SesCut K H s c (qs.take (m.2 + 1)) (log.take m.2) (mk.filter fun x => decide (x.2 ≤ m.2)) at_ H' → Q (vS r) H'
theorem ok_Session_rewind (T : Tx K mg) : Fx P w K mg base CX0 4 (A_Session_rewind K) (sp_Session_rewind K) := by
  obtain ⟨fd, F⟩ := T.D_Session_rewind
  refine fx_of F sc_Session_rewind (F.bindsN fun _ _ _ _ _ _ us hl => match us, hl with | [_, _], _ => rfl) S2.len fun cdv A outer s H vs Q E hr h => ?_
  obtain ⟨a0, a1, rfl, h⟩ := h
  refine ⟨_, PSs.nox (pss_one (ps_ret (pmeth (ok_Session_shorten T) T.c_Session T.m_Session_shorten hr (by decide) pass0 (pv 0) (pa_cons (pmeth (ok_Session_place_of T) T.c_Session T.m_Session_place_of hr (by decide) pass0 (pv 0) (pa_cons (pv 1) pa_nil)) pa_nil)))), ?_⟩
  obtain ⟨s, c, qs, log, mk, at_, m, r, rfl, rfl, hn, hS, hmm, hlast, nd, hml, h⟩ := h
  have cl := T.c_Session
  have ho := hS.o
  have hm := hS.m
  walk_at "go"
  intro H1 s1
  have hS1 := hS.same s1
  walk_at "go"
  intro H' sc
  refine h H' ?_
  obtain ⟨c', e1, e2, e3, e4, bt⟩ := sc
  exact ⟨c', e1, e2, s1.free e3, e4, fun b o e nb => bt b o (s1 _ _ e) nb⟩
def sp_Session_fresh (K : PySem.W.Frag) : Sp := S1 fun a H Q _ => ∀ x H' c, H x = none → isSes K H' x c [[]] [] [] [] → H c.ma = none → H c.aa = none → x ≠ c.ma → x ≠ c.aa → Same H H' → Q (.ref x) H'
theorem ok_Session_fresh (T : Tx K mg) : Fx P w K mg base CX0 6 (A_Session_fresh K) (sp_Session_fresh K) := by
  obtain ⟨fd, F⟩ := T.D_Session_fresh
  refine fx_of F sc_Session_fresh (F.bindsN fun _ _ _ _ _ _ us hl => match us, hl with | [_], _ => rfl) S1.len fun cdv A outer s H vs Q E hr h => ?_
  obtain ⟨a0, rfl, h⟩ := h
  refine ⟨_, PSs.nox (pss_one (ps_ret (pmake (ok_Session_init T) T.k_Session T.g_Session hr (by decide) rfl pass0 (pa_cons (pe_sC [] (by decide +kernel)) pa_nil)))), ?_⟩
  walk_at "go"
  intro x dx nx ndx nex
  refine ⟨_, _, rfl, x, dx, [], rfl, rfl, ⟨by show 0 ≤ 2100; omega, rfl⟩, upd_same, fun H' c hS e1 hma haa bt => ⟨rfl, ?_⟩⟩
  obtain ⟨a1, a2⟩ := made_none nx ndx hma
  obtain ⟨a3, a4⟩ := made_none nx ndx haa
  exact h x H' c nx hS a1 a3 a2 a4 (Same.made nx ndx bt)
end
end Qe

namespace Qe
open PySem PySem.Spec PyProof.Rows L2 He
local macro_rules | `(tactic| walk_at "lk") => `(tactic| first
  | assumption
  | exact upd_same
  | (refine (upd_ne (by assumption)).trans ?_; walk_at "lk"))
local macro_rules | `(tactic| walk_at "sd") => `(tactic| first
  | rfl
  | assumption
  | exact SqL.of (by assumption)
  | exact .inl (SqL.of (by assumption))
  | exact SqT.of (by assumption)
  | exact ⟨_, SqL.of (by assumption)⟩
  | exact .inr (SqT.of (by assumption))
  | exact .inl ⟨rfl, _, SqL.of (by assumption)⟩
  | exact upd_same
  | (refine (upd_ne (by assumption)).trans ?_; walk_at "lk")
  | exact ⟨_, rfl⟩
  | exact NN.none
  | exact NN.some (by omega)
  | exact lt1
  | exact lt2
  | exact lt3
  | exact lt4
  | exact sz0
  | exact sz1
  | exact sz2
  | exact sz3
  | exact sz4
  | exact small20 (by first | omega | (rw [List.length_map]; omega))
  | exact True.intro
  | omega
  | (dsimp only [List.length_cons, List.length_nil]; omega))
local macro_rules | `(tactic| walk_at "go") => `(tactic| first
  | ((with_reducible refine tSeq_i ?_); walk_at "go")
  | ((with_reducible refine gName_i ?_); walk_at "go")
  | ((with_reducible refine tNext_i ?_); walk_at "go")
  | ((with_reducible refine iteT ?_); walk_at "go")
  | ((with_reducible refine iteF ?_); walk_at "go")
  | (with_reducible refine (show tLockE _ _ _ _ from ?_))
  | (with_reducible refine (show tLock _ _ _ _ from ?_))
  | (with_reducible refine (show (∃ W : Nat → Nat → L2.St → Hp → Prop, _) from ?_))
  | (with_reducible refine (show C8.tCut _ _ _ _ _ from ?_))
  | (with_reducible refine (show tWhile _ _ _ _ _ from ?_))
  | (apply Exists.intro; walk_at "go")
  | (apply And.intro; (focus (walk_at "sd")); walk_at "go")
  | skip)

section
variable {P : Program} {w : World} {K : PySem.W.Frag}
      {mg : Str → Option Value} {base : Heap}

def sp_Session_clone (K : PySem.W.Frag) : Sp := S1 fun a H Q _ => ∃ (s : Addr) (c : SesA) (qs : List (List Nat)) (log : List Step) (mk : List Mk1) (at_ : List (Nat × Nat)), a = .ref s ∧ isSes K H s c qs log mk at_ ∧
  ∀ x H' c', H x = none → isSes K H' x c' qs log mk at_ → H c'.ma = none → H c'.aa = none → Same H H' → Q (.ref x) H'
theorem ok_Session_clone (T : Tx K mg) : Fx P w K mg base CX0 7 (A_Session_clone K) (sp_Session_clone K) := by
  obtain ⟨fd, F⟩ := T.D_Session_clone
  refine fx_of F sc_Session_clone (F.bindsN fun _ _ _ _ _ _ us hl => match us, hl with | [_], _ => rfl) S1.len fun cdv A outer s H vs Q E hr h => ?_
  obtain ⟨a0, rfl, h⟩ := h
  refine ⟨_, PSs.nox (pss_cons (ps_set (i := 1) sc_Session_clone.nd rfl (.inl rfl) (pmeth0 (ok_Session_fresh T) T.c_Session T.m_Session_fresh hr (by decide) pass0 (pv 0)))
    (pss_cons (ps_fld (pv 1) (pe_callTy call_list_of rfl T.f_list boot_list (pa_cons (pe_fld (pv 0) rfl) pa_nil)) rfl)
    (pss_cons (ps_fld (pv 1) (pe_callTy call_list_of rfl T.f_list boot_list (pa_cons (pe_fld (pv 0) rfl) pa_nil)) rfl)
    (pss_cons (ps_fld (pv 1) (pe_callTy call_dictD rfl T.f_dict boot_dict (pa_cons (pe_fld (pv 0) rfl) pa_nil)) rfl)
    (pss_cons (ps_fld (pv 1) (pe_callTy call_list_of rfl T.f_list boot_list (pa_cons (pe_fld (pv 0) rfl) pa_nil)) rfl)
    (pss_one (ps_ret (pv 1)))))))), ?_⟩
  obtain ⟨s, c, qs, log, mk, at_, rfl, hS, h⟩ := h
  have cl := T.c_Session
  have n1 := T.n_Session_own_queues
  have n2 := T.n_Session_own_log
  have n3 := T.n_Session_own_marks
  have n4 := T.n_Session_own_attempts
  have ho := hS.o
  walk_at "go"
  intro x H1 c1 hx hT hma haa _ _ s1
  have hS1 := hS.same s1
  have ho1 := hS1.o
  have hq1 := hS1.q
  have hl1 := hS1.l
  have hm1 : Rd H1 c.ma (.dK (mkK mk)) := .inl hS1.m
  obtain ⟨ts, ha1, ha2⟩ := hS1.a
  have ht := hT.o
  have nsx : s ≠ x := ne_of_none ho hx
  have nqx : c.qa ≠ x := ne_of_none hS.q hx
  have nlx : c.la ≠ x := ne_of_none hS.l hx
  have nmx : c.ma ≠ x := ne_of_none hS.m hx
  have nax : c.aa ≠ x := by obtain ⟨u, z, _⟩ := hS.a; exact ne_of_none z hx
  have b0 : Bld x H1 H1 [] := Bld.refl (Same.refl _)
  walk_at "go"
  intro p1 hp1
  have b1 := (b0.new (o := .lst (qs.map vS)) ht hp1).put (o := .ins (ga K "Session") c1.dx (putF "own_queues" (V.ref p1) (sesF c1)))
  have m1 := ne_of_none ht hp1
  have g1 := b1.but _ _ ho1 nsx
  have g2 := b1.but _ _ hl1 nlx
  walk_at "go"
  intro p2 hp2
  have b2 := (b1.new (o := .lst (log.map vT)) b1.self hp2).put (o := .ins (ga K "Session") c1.dx (putF "own_log" (V.ref p2) (putF "own_queues" (V.ref p1) (sesF c1))))
  have m2 : x ≠ p2 := ne_of_none b1.self hp2
  have g3 := b2.but _ _ ho1 nsx
  have g4 : Rd _ c.ma (.dK (mkK mk)) := .inl (b2.but _ _ hS1.m nmx)
  walk_at "go"
  intro p3 hp3
  have b3 := (b2.new (o := .dK (mkK mk)) b2.self hp3).put (o := .ins (ga K "Session") c1.dx (putF "own_marks" (V.ref p3) (putF "own_log" (V.ref p2) (putF "own_queues" (V.ref p1) (sesF c1)))))
  have m3 : x ≠ p3 := ne_of_none b2.self hp3
  have g5 := b3.but _ _ ho1 nsx
  have g6 := b3.but _ _ ha1 nax
  walk_at "go"
  intro p4 hp4
  have b4 := (b3.new (o := .lst (ts.map V.ref)) b3.self hp4).put (o := .ins (ga K "Session") c1.dx (putF "own_attempts" (V.ref p4) (putF "own_marks" (V.ref p3) (putF "own_log" (V.ref p2) (putF "own_queues" (V.ref p1) (sesF c1))))))
  have m4 : x ≠ p4 := ne_of_none b3.self hp4
  walk_at "go"
  have k4 := b4.at_ _ (.head _)
  have k3 := b4.at_ _ (.tail _ (.head _))
  have k2 := b4.at_ _ (.tail _ (.tail _ (.head _)))
  have k1 := b4.at_ _ (.tail _ (.tail _ (.tail _ (.head _))))
  refine h x _ ⟨c1.dx, p1, p2, p3, p4⟩ hx ⟨b4.self, k1.1, k2.1, k3.1, ⟨ts, k4.1, paired_imp (fun t r e => b4.but _ _ e (ne_of e ht (by intro z; cases z))) ha2⟩, ne_of_none (b3.at_ _ (.tail _ (.tail _ (.head _)))).1 hp4, ne_of_none (b3.at_ _ (.tail _ (.head _))).1 hp4⟩ (s1.free k3.2.1) (s1.free k4.2.1) fun b o e => b4.but _ _ (s1 _ _ e) (ne_of_none e hx)
def sp_Session_replayed (K : PySem.W.Frag) : Sp := S3 fun a b d H Q _ => ∃ (q0 r : List Nat) (p : Addr) (st : List Step), a = .ref (ga K "Session") ∧ b = vS q0 ∧ d = .ref p ∧ isQ q0 ∧ StL H p st ∧ st.length ≤ 400 ∧ (∀ s ∈ st, s.ok) ∧ runS q0 st = some r ∧ fits q0 st ∧
  ∀ x H' c, H x = none → isSes K H' x c ([q0] ++ traceR q0 st) ([] ++ st) [] [] → H c.ma = none → H c.aa = none → Same H H' → Q (.ref x) H'
theorem ok_Session_replayed (T : Tx K mg) : Fx P w K mg base CX0 6 (A_Session_replayed K) (sp_Session_replayed K) := by
  obtain ⟨fd, F⟩ := T.D_Session_replayed
  refine fx_of F sc_Session_replayed (F.bindsN fun _ _ _ _ _ _ us hl => match us, hl with | [_, _, _], _ => rfl) S3.len fun cdv A outer s H vs Q E hr h => ?_
  obtain ⟨a0, a1, a2, rfl, h⟩ := h
  refine ⟨_, PSs.nox (pss_cons (ps_set (i := 3) sc_Session_replayed.nd rfl (.inl rfl) (pmakeV 0 (ok_Session_init T) T.k_Session hr (by decide) pass0 (pa_cons (pv 1) pa_nil)))
    (pss_cons (ps_expr (pcall (ok_check_looking T) T.g_check_looking hr (by decide) rfl pass0 (pa_cons (pv 2) (pa_cons (C8.pe_gc rfl (gI (T.i_MAX_STEPS))) pa_nil))))
    (pss_cons (ps_expr (pmeth (ok_Session_execute_all T) T.c_Session T.m_Session_execute_all hr (by decide) passN (pv 3) (pa_cons (pv 2) pa_nil)))
    (pss_one (ps_ret (pv 3)))))), ?_⟩
  obtain ⟨q0, r, p, st, rfl, rfl, rfl, hq, hp, hl, hok, hr2, hf, h⟩ := h
  have cl := T.c_Session
  walk_at "go"
  intro x dx nx ndx nex
  refine ⟨_, _, rfl, x, dx, q0, rfl, rfl, hq, upd_same, fun H1 c hS e1 hma haa bt => ⟨rfl, ?_⟩⟩
  obtain ⟨a1, a2⟩ := made_none nx ndx hma
  obtain ⟨a3, a4⟩ := made_none nx ndx haa
  have s1 : Same H H1 := Same.made nx ndx bt
  have hp1 := s1 _ _ hp
  have h400 : (st.length : Int) ≤ 400 := by omega
  walk_at "go"
  intro H2 s2
  have hS2 := hS.same s2
  have ho2 := hS2.o
  have hp2 := s2 _ _ hp1
  have npa : p ≠ c.aa := ne_of_none hp a3
  have hlast : [q0].getLast? = some q0 := rfl
  have q1 : [q0].length + st.length ≤ 10000 := by show 1 + st.length ≤ 10000; omega
  have q2 : ([] : List Step).length + st.length ≤ 10000 := by show 0 + st.length ≤ 10000; omega
  walk_at "go"
  refine ⟨fun r' hr' H' to => ?_, fun i qi s0 h1 h2 h3 => ?_⟩
  · walk_at "go"
    obtain ⟨c', e1, e2, e3, hS3, fr⟩ := to
    refine h x H' c' nx hS3 (e2 ▸ a1) (e3 ▸ a3) fun b o e => ?_
    exact fr _ _ (s2 _ _ (s1 _ _ e)) (ne_of_none e nx) (ne_of_none e a1) (ne_of_none e a3)
  · obtain ⟨y, hy⟩ := runS_take hr2 (i + 1)
    have h1' : runS q0 (st.take i) = some qi := h1
    rw [take_snoc h2, runS_snoc, h1'] at hy
    rw [show (some qi).bind (fun q => after q s0) = after qi s0 from rfl, h3] at hy
    cases hy
def sp_Session_eq (K : PySem.W.Frag) : Sp := S2 fun a b H Q _ => ∃ (s t : Addr) (c d : SesA) (qs qs2 : List (List Nat)) (q q2 : List Nat) (log log2 : List Step) (mk mk2 : List Mk1) (at1 at2 : List (Nat × Nat)), a = .ref s ∧ b = .ref t ∧ isSes K H s c qs log mk at1 ∧ isSes K H t d qs2 log2 mk2 at2 ∧
  qs.getLast? = some q ∧ qs2.getLast? = some q2 ∧ q.all isIt = true ∧ q2.all isIt = true ∧ (∀ s ∈ log, s.ok) ∧ (∀ s ∈ log2, s.ok) ∧ (mk.map (·.1)).Nodup ∧ (mk2.map (·.1)).Nodup ∧ mk.length < 64 ∧ mk2.length = mk.length ∧ (∀ m ∈ mk, ∃ p, mLook mk2 m.1 = some p) ∧
  ∀ H', Same H H' → Q (.bl (decide (q = q2) && (decide (log = log2) && mk.all fun m => decide (mLook mk2 m.1 = some m.2)))) H'
theorem ok_Session_eq (T : Tx K mg) : Fx P w K mg base CX0 3 (A_Session_eq K) (sp_Session_eq K) := by
  obtain ⟨fd, F⟩ := T.D_Session_eq
  refine fx_of F sc_Session_eq (F.bindsN fun _ _ _ _ _ _ us hl => match us, hl with | [_, _], _ => rfl) S2.len fun cdv A outer s H vs Q E hr h => ?_
  obtain ⟨a0, a1, rfl, h⟩ := h
  refine ⟨_, PSs.nox (pss_cons (ps_if (PW.pt (pw_or (pt_not (pt_val (pe_callB (C8.call_isC T.is_Session) rfl T.f_isinstance boot_isinstance (pa_cons (pv 1) (pa_cons (pe_glob (v := .ref (ga K "Session")) rfl T.g_Session rfl) pa_nil))))) (pw_or1 (pt_cmpR op_neI (pprop (ok_Session_capacity T) T.c_Session T.p_Session_capacity hr (by decide) pass0 (pv 0) rfl) (pprop (ok_Session_capacity T) T.c_Session T.p_Session_capacity hr (by decide) pass0 (pv 1) rfl) (nomark _))))) (pss_one (ps_ret pe_bl)) pss_nil)
    (pss_one (ps_ret (pe_cmpR (op_eqTW (hu100 hr)) (pe_tup (pa_cons (pprop (ok_Session_queue T) T.c_Session T.p_Session_queue hr (by decide) pass0 (pv 0) rfl) (pa_cons (pmeth0 (ok_Session_log T) T.c_Session T.m_Session_log hr (by decide) pass0 (pv 0)) (pa_cons (pmeth0 (ok_Session_marks T) T.c_Session T.m_Session_marks hr (by decide) pass0 (pv 0)) pa_nil)))) (pe_tup (pa_cons (pprop (ok_Session_queue T) T.c_Session T.p_Session_queue hr (by decide) pass0 (pv 1) rfl) (pa_cons (pmeth0 (ok_Session_log T) T.c_Session T.m_Session_log hr (by decide) pass0 (pv 1)) (pa_cons (pmeth0 (ok_Session_marks T) T.c_Session T.m_Session_marks hr (by decide) pass0 (pv 1)) pa_nil)))) (nomark _))))), ?_⟩
  obtain ⟨s, t, c, d, qs, qs2, q, q2, log, log2, mk, mk2, at1, at2, rfl, rfl, hS, hT, hl, hl2, hq, hq2, hok, hok2, nd, nd2, h64, hlen, hk, h⟩ := h
  have h64' : mk2.length < 64 := by omega
  have cl := T.c_Session
  have ho := hS.o
  have ho2 := hT.o
  have oq := hS.q
  have ol := hS.l
  have om := hS.m
  walk_at "go"
  intro p1 H1 hp1 hL1 s1
  have hS1 := hS.same s1
  have hT1 := hT.same s1
  have ho1 := hS1.o
  have om1 := hS1.m
  walk_at "go"
  intro p2 H2 hp2 hM2 s2
  have hT2 := hT1.same s2
  walk_at "go"
  intro u1 hu1
  have k1 := upd_same (H := H2) (a := u1) (o := .tup [vS q, V.ref p1, V.ref p2])
  have s3 := Same.new (o := .tup [vS q, V.ref p1, V.ref p2]) hu1
  generalize upd H2 u1 (.tup [vS q, V.ref p1, V.ref p2]) = H3 at k1 s3 ⊢
  have hT3 := hT2.same s3
  have ho3 := hT3.o
  have oq3 := hT3.q
  have ol3 := hT3.l
  walk_at "go"
  intro p3 H4 hp3 hL4 s4
  have hT4 := hT3.same s4
  have ho4 := hT4.o
  have om4 := hT4.m
  walk_at "go"
  intro p4 H5 hp4 hM5 s5
  walk_at "go"
  intro u2 hu2
  have k2 := upd_same (H := H5) (a := u2) (o := .tup [vS q2, V.ref p3, V.ref p4])
  have s6 := Same.new (o := .tup [vS q2, V.ref p3, V.ref p4]) hu2
  generalize upd H5 u2 (.tup [vS q2, V.ref p3, V.ref p4]) = H6 at k2 s6 ⊢
  have f3 := (s4.trans s5).trans s6
  have k1' := f3 _ _ k1
  have l1 := f3 _ _ (s3 _ _ (s2 _ _ hL1.fd))
  have l2 := s6 _ _ (s5 _ _ hL4.fd)
  have m1 := f3 _ _ (s3 _ _ hM2)
  have m2 := s6 _ _ hM5
  have nm : p2 ≠ p4 := ne_of_none ((s3.trans s4) _ _ hM2) hp4
  have hin : ∀ m ∈ sortM mk, ∃ p, mLook (sortM mk2) m.1 = some p := fun m hm => by
    obtain ⟨p, hp⟩ := hk m ((sortM_perm mk).subset hm)
    exact ⟨p, by rw [mLook_perm nd2 (sortM_perm mk2)]; exact hp⟩
  have sh : ∀ z : List Nat, z.all isIt = true → SeqAt.shaped (.str (sS z)) = true := fun z hz => by
    have := FD.lay (f := .s z) (chOk_it hz)
    unfold SeqAt.shaped
    rw [Bool.and_eq_true]
    exact ⟨this, decide_eq_true (show (PyData.str (sS z)).depth ≤ 64 from Nat.zero_le _)⟩
  have len2 : (mkK (sortM mk)).length = (mkK (sortM mk2)).length := by rw [mkK_len, mkK_len, (sortM_perm mk).length_eq, (sortM_perm mk2).length_eq, hlen]
  refine ⟨u1, u2, _, _, _, rfl, rfl, SqT.of k1', SqT.of k2, .cons (.dat (.str (sS q)) (.str (sS q2)) (sh q hq) (sh q2 hq2)) (.cons (.dat (.lst (SqL.of l1) (dp_all _)) (.lst (SqL.of l2) (dp_all _)) (shL (logD_ok hok)) (shL (logD_ok hok2))) (.cons (.dic nm m1 m2 len2 (dhit_mk hin)) .nil)), ?_⟩
  have fin := h H6 (((((s1.trans s2).trans s3).trans s4).trans s5).trans s6)
  have e1 : PyData.eqv (.str (sS q)) (.str (sS q2)) = decide (q = q2) := by
    have := FD.eqv (.s q) (.s q2)
    rw [show decide (FD.s q = FD.s q2) = decide (q = q2) from decide_eq_decide.mpr ⟨FD.s.inj, fun z => by rw [z]⟩] at this
    exact this
  have e2 : PyData.eqv (.list ((logD log).map FD.d)) (.list ((logD log2).map FD.d)) = decide (log = log2) := (eqv_all _ _).trans logD_inj
  have e3 : ((sortM mk).all fun m => decide (mLook (sortM mk2) m.1 = some m.2)) = mk.all fun m => decide (mLook mk2 m.1 = some m.2) := by
    rw [(sortM_perm mk).all_eq]
    congr 1
    funext m
    rw [mLook_perm nd2 (sortM_perm mk2)]
  rw [e1, e2, e3, Bool.and_true]
  exact fin
end
end Qe

namespace Qe
open PySem PySem.Spec PyProof.Rows L2 He
local macro_rules | `(tactic| walk_at "lk") => `(tactic| first
  | assumption
  | exact upd_same
  | (refine (upd_ne (by assumption)).trans ?_; walk_at "lk"))
local macro_rules | `(tactic| walk_at "sd") => `(tactic| first
  | rfl
  | assumption
  | exact SqL.of (by assumption)
  | exact .inl (SqL.of (by assumption))
  | exact SqT.of (by assumption)
  | exact ⟨_, SqL.of (by assumption)⟩
  | exact .inr (SqT.of (by assumption))
  | exact .inl ⟨rfl, _, SqL.of (by assumption)⟩
  | exact upd_same
  | (refine (upd_ne (by assumption)).trans ?_; walk_at "lk")
  | exact ⟨_, rfl⟩
  | exact NN.none
  | exact NN.some (by omega)
  | exact lt1
  | exact lt2
  | exact lt3
  | exact lt4
  | exact sz0
  | exact sz1
  | exact sz2
  | exact sz3
  | exact sz4
  | exact small20 (by first | omega | (rw [List.length_map]; omega))
  | exact True.intro
  | omega
  | (dsimp only [List.length_cons, List.length_nil]; omega))
local macro_rules | `(tactic| walk_at "go") => `(tactic| first
  | ((with_reducible refine tSeq_i ?_); walk_at "go")
  | ((with_reducible refine gName_i ?_); walk_at "go")
  | ((with_reducible refine tNext_i ?_); walk_at "go")
  | ((with_reducible refine iteT ?_); walk_at "go")
  | ((with_reducible refine iteF ?_); walk_at "go")
  | (with_reducible refine (show tLockE _ _ _ _ from ?_))
  | (with_reducible refine (show tLock _ _ _ _ from ?_))
  | (with_reducible refine (show (∃ W : Nat → Nat → L2.St → Hp → Prop, _) from ?_))
  | (with_reducible refine (show C8.tCut _ _ _ _ _ from ?_))
  | (with_reducible refine (show tWhile _ _ _ _ _ from ?_))
  | (apply Exists.intro; walk_at "go")
  | (apply And.intro; (focus (walk_at "sd")); walk_at "go")
  | skip)

section
variable {P : Program} {w : World} {K : PySem.W.Frag}
      {mg : Str → Option Value} {base : Heap}

def sp_Session_batch (K : PySem.W.Frag) : Sp := S2 fun a b H Q E => ∃ (s : Addr) (c : SesA) (qs : List (List Nat)) (log : List Step) (mk : List Mk1) (at_ : List (Nat × Nat)) (q : List Nat) (p : Addr) (st : List Step), a = .ref s ∧ b = .ref p ∧
  isSes K H s c qs log mk at_ ∧ StL H p st ∧ p ≠ c.aa ∧ qs.getLast? = some q ∧ q.length ≤ 2100 ∧ qs.length ≤ 5000 ∧ log.length ≤ 5000 ∧ at_.length ≤ 5000 ∧ st.length ≤ 50 ∧ (∀ s ∈ st, s.ok) ∧ fits q st ∧
  (∀ r, runS q st = some r → ∀ H', SesTo K H s c (qs ++ traceR q st) (log ++ st) mk (at_ ++ [(st.length, st.length)]) H' → Q (vS r) H') ∧
  (∀ i qi s0, runS q (st.take i) = some qi → st[i]? = some s0 → after qi s0 = none → ∀ d H', H d = none → H' d = some (.xd [("position", .int (i : Nat))]) → SesTo K H s c qs log mk (at_ ++ [(st.length, i)]) H' → E (.ref (ga K "StepFailed")) (some d) H')
theorem ok_Session_batch (T : Tx K mg) : Fx P w K mg base (CX P w) 4 (A_Session_batch K) (sp_Session_batch K) := by
  obtain ⟨fd, F⟩ := T.D_Session_batch
  refine fx_of F sc_Session_batch (F.bindsN fun _ _ _ _ _ _ us hl => match us, hl with | [_, _], _ => rfl) S2.len fun cdv A outer s H vs Q E hr h => ?_
  obtain ⟨a0, a1, rfl, h⟩ := h
  refine ⟨_, (pss_cons (ps_asg2 pe_int (pg_name (i := 2) sc_Session_batch.nd rfl (.inl rfl)) (pg_name (i := 3) sc_Session_batch.nd rfl (.inl rfl)))
    (pss_cons (ps_set (i := 4) sc_Session_batch.nd rfl (.inl rfl) (pe_lst (pa_cons (pprop (ok_Session_queue T) T.c_Session T.p_Session_queue hr (by decide) pass0 (pv 0) rfl) pa_nil)))
    (pss_cons (ps_fin rfl rfl rfl (takes_of rfl rfl rfl rfl) (fun W pn xe tk po => (pss_cons (ps_expr (pcall (ok_check_looking T) T.g_check_looking hr (by decide) rfl pass0 (pa_cons (pv 1) (pa_cons (C8.pe_gc rfl (gI (T.i_MAX_BATCH))) pa_nil))))
    (pss_cons (ps_set (i := 2) sc_Session_batch.nd rfl (.inl rfl) (pe_callB (call_len_seqK (K := K) rfl) rfl T.f_len boot_len (pa_cons (pv 1) pa_nil)))
    (pss_cons (ps_for po rfl (pi_enumK (K := K) rfl rfl T.f_enumerate (pa_cons (pv 1) pa_nil)) (pg_tupK (K := K) 2 rfl rfl (pgs_cons (pg_name (i := 5) sc_Session_batch.nd rfl (.inl rfl)) (pgs_cons (pg_name (i := 6) sc_Session_batch.nd rfl (.inl rfl)) pgs_nil))) (pss_cons (ps_expr (pe_bmK (K := K) rfl PySem.F.plainAttrs_list PySem.F.slot_list_append PySem.F.type_list_append mt_append (pv 4) (pa_cons (pmethS (ok_Session_stepped T) T.c_Session T.m_Session_stepped hr (by decide) (fun σ => passAt tk σ) (pv 0) (pa_cons (pe_ix (ix_listK (K := K) rfl) (pv 4) (pe_un un_neg pe_int) (fun _ _ => rfl)) (pa_cons (pv 6) (pa_cons (pv 5) pa_nil)))) pa_nil)))
    (pss_one (ps_aug (i := 3) sc_Session_batch.nd rfl (.inl rfl) pe_int ip_add))))
    (pss_cons (ps_fldK (K := K) rfl (pv 0) (pe_op op_cat (pe_fldK (K := K) rfl (pv 0) rfl) (pe_slice (sl_listNK (K := K) rfl) (pv 4) (po_some pe_int) po_none)) rfl)
    (pss_one (ps_fldK (K := K) rfl (pv 0) (pe_op op_cat (pe_fldK (K := K) rfl (pv 0) rfl) (pe_callTy (call_list_ofK (K := K) rfl) rfl T.f_list boot_list (pa_cons (pv 1) pa_nil))) rfl))))))) (pss_one (ps_expr (pe_bmK (K := K) rfl PySem.F.plainAttrs_list PySem.F.slot_list_append PySem.F.type_list_append mt_append (pe_fldK (K := K) rfl (pv 0) rfl) (pa_cons (pe_tup (pa_cons (pv 2) (pa_cons (pv 3) pa_nil))) pa_nil)))) (fun a pn => (pss_one (ps_expr (pe_bmK (K := K) rfl PySem.F.plainAttrs_list PySem.F.slot_list_append PySem.F.type_list_append mt_append (pe_fldK (K := K) rfl (pv 0) rfl) (pa_cons (pe_tup (pa_cons (pv 2) (pa_cons (pv 3) pa_nil))) pa_nil))))))
    (pss_one (ps_ret (pprop (ok_Session_queue T) T.c_Session T.p_Session_queue hr (by decide) pass0 (pv 0) rfl)))))), ?_⟩
  obtain ⟨s, c, qs, log, mk, at_, q, p, st, rfl, rfl, hS, hp, npa, hlast, hq0, hl1, hl2, hl3, hst, hok, hf, h, hE⟩ := h
  have cl := T.c_Session
  have n1 := T.n_Session_own_queues
  have n2 := T.n_Session_own_log
  have n4 := T.n_Session_own_attempts
  have ho := hS.o
  have hq := hS.q
  have nps : p ≠ s := ne_of hp ho (by intro z; cases z)
  have npm : p ≠ c.ma := ne_of hp hS.m (by intro z; cases z)
  have h50 : (st.length : Int) ≤ 50 := by omega
  have len50 : (((st.map vT).length : Nat) : Int) = ((st.length : Nat) : Int) := by rw [List.length_map]
  walk_at "go"
  intro u hu
  have ku := upd_same (H := H) (a := u) (o := .lst [vS q])
  have s1 : Same H (upd H u (.lst [vS q])) := Same.new hu
  generalize upd H u (.lst [vS q]) = H1 at ku s1 ⊢
  have hp1 := s1 _ _ hp
  walk_at "go"
  intro H2 s2
  have s12 := s1.trans s2
  have hp2 := s2 _ _ hp1
  have ku2 := s2 _ _ ku
  walk_at "go"
  refine for_enumL (xs := st.map vT) (fun i σ' H' => Hold (∃ qi x1 y1, runS q (st.take i) = some qi ∧ Same H H' ∧ H' u = some (.lst ((q :: traceR q (st.take i)).map vS)) ∧
      σ' = [some (.ref s), some (.ref p), some (.int ((st.map vT).length : Nat)), some (.int (i : Nat)), some (.ref u), x1, y1])) (.mk ⟨q, _, _, rfl, s12, ku2, rfl⟩) (fun i σ' H' _ z => ?_) (fun i x σ' H3 U H4 hx pv hU hU2 s4 => ?_) fun σ' H3 pv => ?_
  · obtain ⟨_, _, _, _, sm, _⟩ := z.out
    exact SqL.of (sm _ _ hp)
  · obtain ⟨qi, x1, y1, hqi, sm, ku3, rfl⟩ := pv.out
    obtain ⟨s0, hs0, rfl⟩ := map_get hx
    have hil : i < st.length := (List.getElem?_eq_some_iff.mp hs0).1
    have ku4 := s4 _ _ ku3
    have sm4 := sm.trans s4
    have ho4 := sm4 _ _ ho
    have tl : (q :: traceR q (st.take i)).getLast? = some qi := trace_last (qs := [q]) rfl hqi
    have qil := hf i qi hqi
    have hr3 : ∀ r, after qi s0 = some r → runS q (st.take (i + 1)) = some r := fun r hr' => by rw [take_snoc hs0, runS_snoc, hqi]; exact hr'
    walk_at "go"
    refine ⟨last_map tl, ?_⟩
    walk_at "go"
    refine ⟨fun r hr' => ⟨hf (i + 1) r (hr3 r hr'), ?_⟩, fun hn d H' hd he sm5 => ?_⟩
    · have lz : ((q :: traceR q (st.take i)).map vS).length < sizeLine := by
        rw [List.length_map, List.length_cons, trace_len hqi, List.length_take]
        exact small20 (by omega)
      walk_at "go"
      refine .mk ⟨r, _, _, hr3 r hr', sm4.updN hu, ?_, rfl⟩
      rw [upd_same, take_snoc hs0, trace_snoc hqi hr', ← List.cons_append, List.map_append (l₂ := [r])]
      rfl
    · have sm' := sm4.trans sm5
      have hS' := hS.same sm'
      have ho' := hS'.o
      obtain ⟨ts, ha, h2⟩ := id hS'.a
      have lts : (ts.map V.ref).length < sizeLine := by
        rw [List.length_map, Paired.length h2, List.length_map]
        exact small20 (by omega)
      rw [len50]
      walk_at "go"
      intro t ht
      have nat := ne_of_none ha ht
      walk_at "go"
      have ndt : d ≠ t := ne_of_none he ht
      have nda : d ≠ c.aa := ne_of he ha (by intro z; cases z)
      refine hE i qi s0 hqi hs0 hn d _ (sm4.free hd) (by rw [upd_ne nda, upd_ne ndt]; exact he) ⟨c, rfl, rfl, rfl, ses_att hS' ha h2 ht, fun b o e _ _ n3 => ?_⟩
      rw [upd_ne n3, upd_ne (ne_of_none (sm' _ _ e) ht)]
      exact sm' _ _ e
  · obtain ⟨qi, x1, y1, hqi, sm, ku3, rfl⟩ := pv.out
    rw [List.length_map, List.take_length] at hqi ku3
    rw [len50]
    have hSx := hS.same sm
    have ho3 := hSx.o
    have hq3 := hSx.q
    have hl3 := hSx.l
    have hp3 := sm _ _ hp
    obtain ⟨ts, ha, h2⟩ := id hSx.a
    have lts : (ts.map V.ref).length < sizeLine := by
      rw [List.length_map, Paired.length h2, List.length_map]
      exact small20 (by omega)
    have tl := trace_len hqi
    have lq : (qs.map vS).length + (cutN ((q :: traceR q st).map vS) (some 1) none).length ≤ sizeLine := by
      show (qs.map vS).length + (((q :: traceR q st).map vS).drop 1).length ≤ sizeLine
      rw [List.length_map, List.length_drop, List.length_map, List.length_cons, tl]
      exact Nat.le_trans (show qs.length + (st.length + 1 - 1) ≤ 20000 by omega) (by decide)
    have ll : (log.map vT).length + (st.map vT).length ≤ sizeLine := by
      rw [List.length_map, List.length_map]
      exact Nat.le_trans (show log.length + st.length ≤ 20000 by omega) (by decide)
    have b0 : Bld s H3 H3 [] := Bld.refl (Same.refl _)
    obtain ⟨z1, z2, z3, z4⟩ := hSx.neq
    walk_at "go"
    intro p1 hp1'
    have b1 := b0.new (o := .lst (cutN ((q :: traceR q st).map vS) (some 1) none)) ho3 hp1'
    have m1 := ne_of_none ho3 hp1'
    have m2 := ne_of_none hq3 hp1'
    walk_at "go"
    intro p2 hp2'
    have b2 := b1.new (o := .lst (qs.map vS ++ cutN ((q :: traceR q st).map vS) (some 1) none)) (by walk_at "lk") hp2'
    have m3 : s ≠ p2 := ne_of_none (by walk_at "lk") hp2'
    have b3 := b2.put (o := .ins (ga K "Session") c.dx (putF "own_queues" (V.ref p2) (sesF c)))
    have hl4 := b3.but _ _ hl3 z4
    have hp4 := b3.but _ _ hp3 nps
    walk_at "go"
    intro p3 hp3'
    have b4 := b3.new (o := .lst (st.map vT)) b3.self hp3'
    have m4 : s ≠ p3 := ne_of_none b3.self hp3'
    have m5 : c.la ≠ p3 := ne_of_none hl4 hp3'
    walk_at "go"
    intro p5 hp5'
    have b5 := b4.new (o := .lst (log.map vT ++ st.map vT)) (by walk_at "lk") hp5'
    have m6 : s ≠ p5 := ne_of_none (by walk_at "lk") hp5'
    have b6 := b5.put (o := .ins (ga K "Session") c.dx (putF "own_log" (V.ref p5) (putF "own_queues" (V.ref p2) (sesF c))))
    have ha6 := b6.but _ _ ha z2
    have kq := b6.at_ _ (.tail _ (.tail _ (.head _)))
    have kl := b6.at_ _ (.head _)
    have eq1 : qs.map vS ++ cutN ((q :: traceR q st).map vS) (some 1) none = (qs ++ traceR q st).map vS := by
      rw [List.map_append]
      rfl
    have el1 : log.map vT ++ st.map vT = (log ++ st).map vT := by rw [List.map_append]
    have hS6 := hSx.upd (qs' := qs ++ traceR q st) (log' := log ++ st) (qa := p2) (la := p5) b6.but upd_same (eq1 ▸ kq.1) (el1 ▸ kl.1) (hSx.aa kq.2.1) (hSx.aa kl.2.1)
    have h26 : Paired (fun t (r : List FD) => (upd (upd (upd (upd (upd (upd H3 p1 (.lst (cutN ((q :: traceR q st).map vS) (some 1) none))) p2 (.lst (qs.map vS ++ cutN ((q :: traceR q st).map vS) (some 1) none))) s (.ins (ga K "Session") c.dx (putF "own_queues" (V.ref p2) (sesF c)))) p3 (.lst (st.map vT))) p5 (.lst (log.map vT ++ st.map vT))) s (.ins (ga K "Session") c.dx (putF "own_log" (V.ref p5) (putF "own_queues" (V.ref p2) (sesF c))))) t = some (.tup (r.map FD.v))) ts (at_.map rowA) := paired_imp (fun t r e => b6.but _ _ e (ne_of e ho3 (by intro z; cases z))) h2
    have ho6 := b6.self
    have fr6 : But s H (upd (upd (upd (upd (upd (upd H3 p1 (.lst (cutN ((q :: traceR q st).map vS) (some 1) none))) p2 (.lst (qs.map vS ++ cutN ((q :: traceR q st).map vS) (some 1) none))) s (.ins (ga K "Session") c.dx (putF "own_queues" (V.ref p2) (sesF c)))) p3 (.lst (st.map vT))) p5 (.lst (log.map vT ++ st.map vT))) s (.ins (ga K "Session") c.dx (putF "own_log" (V.ref p5) (putF "own_queues" (V.ref p2) (sesF c))))) := fun b o e nb => b6.but _ _ (sm _ _ e) nb
    walk_at "go"
    generalize upd (upd (upd (upd (upd (upd H3 p1 _) p2 _) s _) p3 _) p5 _) s _ = H6 at ha6 hS6 h26 ho6 fr6 ⊢
    intro t ht
    have nat := ne_of_none ha6 ht
    have hS7 := ses_att (i := st.length) (j := st.length) hS6 ha6 h26 ht
    have ho7 := hS7.o
    have hq7 := hS7.q
    have last7 : (qs ++ traceR q st).getLast? = some qi := trace_last hlast hqi
    walk_at "go"
    refine h qi hqi _ ⟨⟨c.dx, p2, p5, c.ma, c.aa⟩, rfl, rfl, rfl, hS7, fun b o e n1 _ n3 => ?_⟩
    have e6 := fr6 _ _ e n1
    show (upd (upd H6 t _) c.aa _) b = some o
    rw [upd_ne n3, upd_ne (ne_of_none e6 ht)]
    exact e6
end
end Qe

namespace Qe
open PySem PySem.Spec PyProof.Rows L2 He
local macro_rules | `(tactic| walk_at "lk") => `(tactic| first
  | assumption
  | exact upd_same
  | (refine (upd_ne (by assumption)).trans ?_; walk_at "lk"))
local macro_rules | `(tactic| walk_at "sd") => `(tactic| first
  | rfl
  | assumption
  | exact SqL.of (by assumption)
  | exact .inl (SqL.of (by assumption))
  | exact SqT.of (by assumption)
  | exact ⟨_, SqL.of (by assumption)⟩
  | exact .inr (SqT.of (by assumption))
  | exact .inl ⟨rfl, _, SqL.of (by assumption)⟩
  | exact upd_same
  | (refine (upd_ne (by assumption)).trans ?_; walk_at "lk")
  | exact ⟨_, rfl⟩
  | exact NN.none
  | exact NN.some (by omega)
  | exact lt1
  | exact lt2
  | exact lt3
  | exact lt4
  | exact sz0
  | exact sz1
  | exact sz2
  | exact sz3
  | exact sz4
  | exact small20 (by first | omega | (rw [List.length_map]; omega))
  | exact True.intro
  | omega
  | (dsimp only [List.length_cons, List.length_nil]; omega))
local macro_rules | `(tactic| walk_at "go") => `(tactic| first
  | ((with_reducible refine tSeq_i ?_); walk_at "go")
  | ((with_reducible refine gName_i ?_); walk_at "go")
  | ((with_reducible refine tNext_i ?_); walk_at "go")
  | ((with_reducible refine iteT ?_); walk_at "go")
  | ((with_reducible refine iteF ?_); walk_at "go")
  | (with_reducible refine (show tLockE _ _ _ _ from ?_))
  | (with_reducible refine (show tLock _ _ _ _ from ?_))
  | (with_reducible refine (show (∃ W : Nat → Nat → L2.St → Hp → Prop, _) from ?_))
  | (with_reducible refine (show C8.tCut _ _ _ _ _ from ?_))
  | (with_reducible refine (show tWhile _ _ _ _ _ from ?_))
  | (apply Exists.intro; walk_at "go")
  | (apply And.intro; (focus (walk_at "sd")); walk_at "go")
  | skip)

section
variable {P : Program} {w : World} {K : PySem.W.Frag}
      {mg : Str → Option Value} {base : Heap}

theorem okw_Kept_exit (T : Tx K mg) : FxW P w K mg base 1 (A_Kept_exit K) (sp_Kept_exit K) := by
  obtain ⟨fd, F⟩ := T.D_Kept_exit
  refine ⟨fd, _, F.ok sc_Kept_exit S4.len (fun cdv A outer s H vs Q E hr h => ?_), F.bindsN (fun _ _ _ _ _ _ us hl => match us, hl with | [_, _, _, _], _ => rfl), fnw_of F sc_Kept_exit S4.len (fun cdv A outer s H vs Q pz hr h => ?_)⟩
  · obtain ⟨a0, a1, a2, a3, rfl, h⟩ := h
    refine ⟨_, PSs.nox (pss_cons (ps_fld (pe_fld (pv 0) rfl) (pe_fld (pv 0) rfl) rfl)
    (pss_one (ps_fld (pe_fld (pv 0) rfl) (pe_fld (pv 0) rfl) rfl))), ?_⟩
    obtain ⟨x, dx, s, qa, la, c, rfl, hx, hs, h⟩ := h
    have ns : x ≠ s := ne_of hx hs (by
      intro z
      injection z with _ _ z3
      have z4 : 3 = 4 := congrArg List.length z3
      exact absurd z4 (by decide))
    have cl := T.c_Kept
    have n1 := T.n_Kept_held
    have n2 := T.n_Kept_queues
    have n3 := T.n_Kept_steps
    have cl2 := T.c_Session
    have m1 := T.n_Session_own_queues
    have m2 := T.n_Session_own_log
    walk_at "go"
    exact h _ upd_same ((But.same (Same.refl _)).upd.upd)
  · obtain ⟨a0, a1, a2, a3, rfl, h⟩ := h
    refine ⟨_, PSs.nox (pss_cons (ps_fld (pe_fld (pv 0) rfl) (pe_fld (pv 0) rfl) rfl)
    (pss_one (ps_fld (pe_fld (pv 0) rfl) (pe_fld (pv 0) rfl) rfl))), ?_⟩
    obtain ⟨x, dx, s, qa, la, c, rfl, hx, hs, h⟩ := h
    have ns : x ≠ s := ne_of hx hs (by
      intro z
      injection z with _ _ z3
      have z4 : 3 = 4 := congrArg List.length z3
      exact absurd z4 (by decide))
    have cl := T.c_Kept
    have n1 := T.n_Kept_held
    have n2 := T.n_Kept_queues
    have n3 := T.n_Kept_steps
    have cl2 := T.c_Session
    have m1 := T.n_Session_own_queues
    have m2 := T.n_Session_own_log
    walk_at "go"
    exact h _ upd_same ((But.same (Same.refl _)).upd.upd)
def sp_Session_preview (K : PySem.W.Frag) : Sp := S2 fun a b H Q E => ∃ (s : Addr) (c : SesA) (qs : List (List Nat)) (log : List Step) (mk : List Mk1) (at_ : List (Nat × Nat)) (q : List Nat) (p : Addr) (st : List Step), a = .ref s ∧ b = .ref p ∧
  isSes K H s c qs log mk at_ ∧ StL H p st ∧ p ≠ c.aa ∧ qs.getLast? = some q ∧ qs.length ≤ 5000 ∧ log.length ≤ 5000 ∧ st.length ≤ 50 ∧ (∀ s ∈ st, s.ok) ∧ fits q st ∧
  (∀ r, runS q st = some r → ∀ H', SesTo K H s c qs log mk at_ H' → Q (vS r) H') ∧
  (∀ i qi s0, runS q (st.take i) = some qi → st[i]? = some s0 → after qi s0 = none → ∀ d H', H d = none → H' d = some (.xd [("position", .int (i : Nat))]) → SesTo K H s c qs log mk at_ H' → E (.ref (ga K "StepFailed")) (some d) H')
theorem ok_Session_preview (T : Tx K mg) : Fx P w K mg base (CX P w) 5 (A_Session_preview K) (sp_Session_preview K) := by
  obtain ⟨fd, F⟩ := T.D_Session_preview
  refine fx_of F sc_Session_preview (F.bindsN fun _ _ _ _ _ _ us hl => match us, hl with | [_, _], _ => rfl) S2.len fun cdv A outer s H vs Q E hr h => ?_
  obtain ⟨a0, a1, rfl, h⟩ := h
  refine ⟨_, (pss_cons (ps_expr (pcall (ok_check_looking T) T.g_check_looking hr (by decide) rfl pass0 (pa_cons (pv 1) (pa_cons (C8.pe_gc rfl (gI (T.i_MAX_BATCH))) pa_nil))))
    (pss_cons (p_with rfl rfl rfl (takes_of rfl rfl rfl rfl) T.with_Kept (pmake (ok_Kept_init T) T.k_Kept T.g_Kept hr (by decide) rfl pass0 (pa_cons (pv 0) pa_nil)) (ok_Kept_enter T) (okw_Kept_exit T) hr (by decide) (fun W pn xe tk => (pss_cons (ps_expr (pmethS (ok_Session_execute_all T) T.c_Session T.m_Session_execute_all hr (by decide) (fun σ => passAt tk σ) (pv 0) (pa_cons (pv 1) pa_nil)))
    (pss_one (ps_set (i := 2) sc_Session_preview.nd rfl (.inl rfl) (pprop (ok_Session_queue T) T.c_Session T.p_Session_queue hr (by decide) pass0 (pv 0) rfl))))))
    (pss_one (ps_ret (pv 2))))), ?_⟩
  obtain ⟨s, c, qs, log, mk, at_, q, p, st, rfl, rfl, hS, hp, npa, hlast, hl1, hl2, hst, hok, hf, h, hE⟩ := h
  have cl := T.c_Session
  have h50 : (st.length : Int) ≤ 50 := by omega
  have q1 : qs.length + st.length ≤ 10000 := by omega
  have q2 : log.length + st.length ≤ 10000 := by omega
  walk_at "go"
  intro H1 s1
  have hS1 := hS.same s1
  have ho1 := hS1.o
  have hp1 := s1 _ _ hp
  walk_at "go"
  intro k dk nk ndk nek
  refine ⟨_, _, rfl, k, dk, s, c, rfl, rfl, upd_same, ?_, fun H2 hk bt => ⟨rfl, ?_⟩⟩
  · rw [upd_ne (ne_of_none ho1 nk), upd_ne (ne_of_none ho1 ndk)]; exact ho1
  have s2 : Same H1 H2 := Same.made nk ndk bt
  have s12 := s1.trans s2
  have hS2 := hS.same s12
  have hp2 := s12 _ _ hp
  have ho2 := hS2.o
  have ck := T.c_Kept
  refine ⟨k, dk, _, rfl, hk, ?_⟩
  walk_at "go"
  have nks : k ≠ s := (ne_of_none ho1 nk).symm
  have nkm : k ≠ c.ma := ne_new hS1.m nk
  have nka : k ≠ c.aa := hS1.aa nk
  refine ⟨fun r hr' H3 to => ?_, fun i qi s0 h1 h2 h3 d H3 hd he to => ?_⟩
  · obtain ⟨c', e1, e2, e3, hS3, fr⟩ := id to
    have ho3 := hS3.o
    have hq3 := hS3.q
    have ll : (qs ++ traceR q st).getLast? = some r := trace_last hlast hr'
    have hk3 := fr _ _ hk nks nkm nka
    walk_at "go"
    intro H4 hs4 bt4
    walk_at "go"
    exact h r hr' H4 ((ses_back hS2 fr hS3 e1 e2 e3 hs4 bt4).pre s12)
  · obtain ⟨c', e1, e2, e3, hS3, fr⟩ := id to
    have ho3 := hS3.o
    have hk3 := fr _ _ hk nks nkm nka
    refine ⟨⟨.ref _, rfl⟩, fun x y z => ?_⟩
    walk_at "go"
    intro H4 hs4 bt4
    have nds : d ≠ s := ne_of he ho3 (by intro z; cases z)
    exact ⟨rfl, hE i qi s0 h1 h2 h3 d H4 (s12.free hd) (bt4 _ _ he nds) ((ses_back hS2 fr hS3 e1 e2 e3 hs4 bt4).pre s12)⟩
end
end Qe

namespace Qe
open PySem PySem.Spec PyProof.Rows L2 He
local macro_rules | `(tactic| walk_at "lk") => `(tactic| first
  | assumption
  | exact upd_same
  | (refine (upd_ne (by assumption)).trans ?_; walk_at "lk"))
local macro_rules | `(tactic| walk_at "sd") => `(tactic| first
  | rfl
  | assumption
  | exact SqL.of (by assumption)
  | exact .inl (SqL.of (by assumption))
  | exact SqT.of (by assumption)
  | exact ⟨_, SqL.of (by assumption)⟩
  | exact .inr (SqT.of (by assumption))
  | exact .inl ⟨rfl, _, SqL.of (by assumption)⟩
  | exact upd_same
  | (refine (upd_ne (by assumption)).trans ?_; walk_at "lk")
  | exact ⟨_, rfl⟩
  | exact NN.none
  | exact NN.some (by omega)
  | exact lt1
  | exact lt2
  | exact lt3
  | exact lt4
  | exact sz0
  | exact sz1
  | exact sz2
  | exact sz3
  | exact sz4
  | exact small20 (by first | omega | (rw [List.length_map]; omega))
  | exact True.intro
  | omega
  | (dsimp only [List.length_cons, List.length_nil]; omega))
local macro_rules | `(tactic| walk_at "go") => `(tactic| first
  | ((with_reducible refine tSeq_i ?_); walk_at "go")
  | ((with_reducible refine gName_i ?_); walk_at "go")
  | ((with_reducible refine tNext_i ?_); walk_at "go")
  | ((with_reducible refine iteT ?_); walk_at "go")
  | ((with_reducible refine iteF ?_); walk_at "go")
  | (with_reducible refine (show tLockE _ _ _ _ from ?_))
  | (with_reducible refine (show tLock _ _ _ _ from ?_))
  | (with_reducible refine (show (∃ W : Nat → Nat → L2.St → Hp → Prop, _) from ?_))
  | (with_reducible refine (show C8.tCut _ _ _ _ _ from ?_))
  | (with_reducible refine (show tWhile _ _ _ _ _ from ?_))
  | (apply Exists.intro; walk_at "go")
  | (apply And.intro; (focus (walk_at "sd")); walk_at "go")
  | skip)

section
variable {P : Program} {w : World} {K : PySem.W.Frag}
      {mg : Str → Option Value} {base : Heap}

def sp_format_look_effect (K : PySem.W.Frag) : Sp := S1 fun _ _ _ _ => False
theorem ok_format_look_effect (T : Tx K mg) : Fx P w K mg base CX0 2 (A_format_look_effect K) (sp_format_look_effect K) := by
  obtain ⟨fd, F⟩ := T.D_format_look_effect
  refine fx_of F sc_format_look_effect (F.bindsN fun _ _ _ _ _ _ us hl => match us, hl with | [_], _ => rfl) S1.len fun cdv A outer s H vs Q E hr h => ?_
  obtain ⟨a0, rfl, h⟩ := h
  exact h.elim
def sp_word_text (K : PySem.W.Frag) : Sp := S1 fun a H Q _ => ∃ l : List Nat, a = vS l ∧ l ≠ [] ∧ Q (vS l) H
theorem ok_word_text (T : Tx K mg) : Fx P w K mg base CX0 1 (A_word_text K) (sp_word_text K) := by
  obtain ⟨fd, F⟩ := T.D_word_text
  refine fx_of F sc_word_text (F.bindsN fun _ _ _ _ _ _ us hl => match us, hl with | [_], _ => rfl) S1.len fun cdv A outer s H vs Q E hr h => ?_
  obtain ⟨a0, rfl, h⟩ := h
  refine ⟨_, PSs.nox (pss_one (ps_ret (pe_ifExp (pt_cmpR op_neW (pv 0) (pe_sC [] (by decide +kernel)) (nomark _)) (pv 0) (C8.pe_gc rfl (gSl [46] T.s_EMPTY (by decide +kernel)))))), ?_⟩
  obtain ⟨l, rfl, hl, h⟩ := h
  walk_at "go"
  refine ite_n (fun c => ?_) fun c => absurd c hl
  walk_at "go"
  exact h
def sp_word_in (K : PySem.W.Frag) : Sp := S1 fun a H Q _ => ∃ l : List Nat, a = vS l ∧ l ≠ [46] ∧ Q (vS l) H
theorem ok_word_in (T : Tx K mg) : Fx P w K mg base CX0 1 (A_word_in K) (sp_word_in K) := by
  obtain ⟨fd, F⟩ := T.D_word_in
  refine fx_of F sc_word_in (F.bindsN fun _ _ _ _ _ _ us hl => match us, hl with | [_], _ => rfl) S1.len fun cdv A outer s H vs Q E hr h => ?_
  obtain ⟨a0, rfl, h⟩ := h
  refine ⟨_, PSs.nox (pss_one (ps_ret (pe_ifExp (pt_cmpR op_eqW (pv 0) (C8.pe_gc rfl (gSl [46] T.s_EMPTY (by decide +kernel))) (nomark _)) (pe_sC [] (by decide +kernel)) (pv 0)))), ?_⟩
  obtain ⟨l, rfl, hl, h⟩ := h
  walk_at "go"
  refine ite_d (fun c => absurd c hl) fun c => ?_
  walk_at "go"
  exact h
def joinSp (log : List Step) : Str := Txt.join (sS [32]) (log.map fun s => sS [s.1, s.2])
theorem sumT (log : List Step) : (log.map ((fun x : Str => x.length) ∘ fun s : Step => sS [s.1, s.2])).sum = 2 * log.length := by
  induction log with
  | nil => rfl
  | cons a r ih =>
    rw [List.map_cons, List.sum_cons, ih, List.length_cons]
    show 2 + 2 * r.length = _
    omega
def sp_list_text (K : PySem.W.Frag) : Sp := S1 fun a H Q _ => ∃ (p : Addr) (log : List Step), a = .ref p ∧ StL H p log ∧ log ≠ [] ∧ log.length ≤ 5000 ∧ (∀ s ∈ log, s.ok) ∧ ∀ H', Same H H' → Q (.str (joinSp log)) H'
theorem ok_list_text (T : Tx K mg) : Fx P w K mg base CX0 1 (A_list_text K) (sp_list_text K) := by
  obtain ⟨fd, F⟩ := T.D_list_text
  refine fx_of F sc_list_text (F.bindsN fun _ _ _ _ _ _ us hl => match us, hl with | [_], _ => rfl) S1.len fun cdv A outer s H vs Q E hr h => ?_
  obtain ⟨a0, rfl, h⟩ := h
  refine ⟨_, PSs.nox (pss_one (ps_ret (pe_ifExp (pt_cmpR (op_neLF hr.units) (pv 0) (pe_lst pa_nil) (nomark _)) (pe_join (pe_sC [32] (by decide +kernel)) (pv 0)) (C8.pe_gc rfl (gSl [46] T.s_EMPTY (by decide +kernel)))))), ?_⟩
  obtain ⟨p, log, rfl, hp, hne, hl, hok, h⟩ := h
  walk_at "go"
  intro u hu
  have hp1 := (Same.new (o := .lst []) hu) _ _ hp
  have ku := upd_same (H := H) (a := u) (o := .lst [])
  have s1 := Same.new (o := .lst []) hu
  generalize upd H u (.lst []) = H1 at hp1 ku s1 ⊢
  refine ⟨p, u, logD log, [], rfl, rfl, StL.fd hp1, ku, logD_ok hok, rfl, ?_⟩
  have e : decide (logD log = []) = false := decide_eq_false fun z => hne (by
    unfold logD at z
    exact List.map_eq_nil_iff.mp z)
  rw [e]
  walk_at "go"
  have e2 : (log.map fun s => sS [s.1, s.2]).map V.str = log.map vT := by rw [List.map_map]; rfl
  have k2 : H1 p = some (.lst ((log.map fun s => sS [s.1, s.2]).map V.str)) := by rw [e2]; exact hp1
  refine ⟨.inl (SqL.of k2), ?_, h _ s1⟩
  rw [List.map_map, List.length_map, sumT]
  show 2 * log.length + log.length * 1 ≤ 16777216
  omega
structure isCon (K : PySem.W.Frag) (H : Hp) (b dx ca s : Addr) (cmds : List V) : Prop where
  o : H b = some (.ins (ga K "Console") dx [("own_session", .ref s), ("own_commands", .ref ca)])
  m : H ca = some (.lst cmds)
def sp_Console_init (K : PySem.W.Frag) : Sp := S2 fun a b H Q _ => ∃ (x dx s : Addr) (c : SesA) (qs : List (List Nat)) (log : List Step) (mk : List Mk1) (at_ : List (Nat × Nat)), a = .ref x ∧ b = .ref s ∧ H x = some (.ins (ga K "Console") dx []) ∧ isSes K H s c qs log mk at_ ∧
  ∀ H' ca s' c', isCon K H' x dx ca s' [] → isSes K H' s' c' qs log mk at_ → H ca = none → But x H H' → Q .non H'
theorem ok_Console_init (T : Tx K mg) : Fx P w K mg base CX0 8 (A_Console_init K) (sp_Console_init K) := by
  obtain ⟨fd, F⟩ := T.D_Console_init
  refine fx_of F sc_Console_init (F.bindsN fun _ _ _ _ _ _ us hl => match us, hl with | [_, _], _ => rfl) S2.len fun cdv A outer s H vs Q E hr h => ?_
  obtain ⟨a0, a1, rfl, h⟩ := h
  refine ⟨_, PSs.nox (pss_cons (ps_if (pt_not (pt_val (pe_callB (C8.call_isC T.is_Session) rfl T.f_isinstance boot_isinstance (pa_cons (pv 1) (pa_cons (pe_glob (v := .ref (ga K "Session")) rfl T.g_Session rfl) pa_nil))))) (pss_one (ps_never)) pss_nil)
    (pss_cons (ps_fld (pv 0) (pmeth0 (ok_Session_clone T) T.c_Session T.m_Session_clone hr (by decide) pass0 (pv 1)) rfl)
    (pss_one (ps_fld (pv 0) (pe_lst pa_nil) rfl)))), ?_⟩
  obtain ⟨x, dx, s, c, qs, log, mk, at_, rfl, rfl, hx, hS, h⟩ := h
  have cl := T.c_Console
  have n1 := T.n_Console_own_session
  have n2 := T.n_Console_own_commands
  have ho := hS.o
  walk_at "go"
  intro s' H1 c' hs' hS1 hma haa s1
  have hx1 := s1 _ _ hx
  have b0 : Bld x H1 H1 [] := Bld.refl (Same.refl _)
  have b1 := b0.put (o := .ins (ga K "Console") dx (putF "own_session" (V.ref s') []))
  walk_at "go"
  intro ca hca
  have b2 := (b1.new (o := .lst []) upd_same hca).put (o := .ins (ga K "Console") dx (putF "own_commands" (V.ref ca) (putF "own_session" (V.ref s') [])))
  have m1 : x ≠ ca := ne_of_none upd_same hca
  walk_at "go"
  have kc := b2.at_ _ (.head _)
  have ks := b2.self
  generalize upd (upd (upd H1 x _) ca _) x _ = H9 at b2 kc ks ⊢
  have nx : ∀ b o, H1 b = some o → o ≠ .ins (ga K "Console") dx [] → b ≠ x := fun b o e n z => by
    rw [z, hx1] at e
    exact n (Option.some.inj e).symm
  have hS2 : isSes K H9 s' c' qs log mk at_ := by
    refine ⟨b2.but _ _ hS1.o (nx _ _ hS1.o (by intro z; injection z with _ _ z3; exact List.cons_ne_nil _ _ z3)), b2.but _ _ hS1.q (nx _ _ hS1.q (by intro z; cases z)), b2.but _ _ hS1.l (nx _ _ hS1.l (by intro z; cases z)), b2.but _ _ hS1.m (nx _ _ hS1.m (by intro z; cases z)), hS1.a.butx b2.but ?_ hx1 (fun l z => by cases z), hS1.nq, hS1.nl⟩
    obtain ⟨ts, ha, _⟩ := hS1.a
    exact nx _ _ ha (by intro z; cases z)
  exact h _ ca s' c' ⟨ks, kc.1⟩ hS2 (s1.free kc.2.1) fun b o e n => b2.but _ _ (s1 _ _ e) n
def sp_Console_len (K : PySem.W.Frag) : Sp := S1 fun a H Q _ => ∃ (b dx ca s : Addr) (cmds : List V), a = .ref b ∧ isCon K H b dx ca s cmds ∧ Q (.int cmds.length) H
theorem ok_Console_len (T : Tx K mg) : Fx P w K mg base CX0 1 (A_Console_len K) (sp_Console_len K) := by
  obtain ⟨fd, F⟩ := T.D_Console_len
  refine fx_of F sc_Console_len (F.bindsN fun _ _ _ _ _ _ us hl => match us, hl with | [_], _ => rfl) S1.len fun cdv A outer s H vs Q E hr h => ?_
  obtain ⟨a0, rfl, h⟩ := h
  refine ⟨_, PSs.nox (pss_one (ps_ret (pe_callB call_len_seq rfl T.f_len boot_len (pa_cons (pe_fld (pv 0) rfl) pa_nil)))), ?_⟩
  obtain ⟨b, dx, ca, s, cmds, rfl, ⟨ho, hm⟩, h⟩ := h
  have cl := T.c_Console
  have n2 := T.n_Console_own_commands
  walk_at "go"
  exact h
def cLog : List Nat := [108, 111, 103]
def cLen : List Nat := [108, 101, 110, 103, 116, 104]
def cTot : List Nat := [116, 111, 116, 97, 108]
def cTry (w : List Nat) : List Nat := 116 :: 114 :: 121 :: 32 :: w
theorem str_ne {l m : List Nat} {c : Str} (h : c = sS m) (n : l ≠ m) : ¬ sS l = c := fun e => n (sS_inj (e.trans h))
def sp_Console_answer_query (K : PySem.W.Frag) : Sp := S2 fun a b H Q E => ∃ (x dx ca s : Addr) (cmds : List V) (l : List Nat) (c : SesA) (log : List Step) (k : Col), a = .ref x ∧ b = vS l ∧ isCon K H x dx ca s cmds ∧ H s = some (.ins (ga K "Session") c.dx (sesF c)) ∧ StL H c.la log ∧
  log.length ≤ 4000 ∧ (∀ s ∈ log, s.ok) ∧ log ≠ [] ∧ colR Col0 log = some k ∧
  ((l = cLog ∧ ∀ H', Same H H' → Q (.str (joinSp log)) H') ∨ (l = cLen ∧ Q (.str (toString (log.length : Int))) H) ∨ (l = cTot ∧ ¬(k.p.length ≤ 2000 ∧ k.w.length ≤ 2000) ∧ xdOut "LimitExceeded" "limit" (.int 2000) K H E) ∨ ((∃ w, l = cTry w) ∧ Q .non H))
theorem ok_Console_answer_query (T : Tx K mg) : Fx P w K mg base (CX P w) 8 (A_Console_answer_query K) (sp_Console_answer_query K) := by
  obtain ⟨fd, F⟩ := T.D_Console_answer_query
  refine fx_of F sc_Console_answer_query (F.bindsN fun _ _ _ _ _ _ us hl => match us, hl with | [_, _], _ => rfl) S2.len fun cdv A outer s H vs Q E hr h => ?_
  obtain ⟨a0, a1, rfl, h⟩ := h
  refine ⟨_, (pss_cons (ps_set (i := 2) sc_Console_answer_query.nd rfl (.inl rfl) (pe_fld (pv 0) rfl))
    (pss_cons (ps_match (pv 1) (pmc_str (pss_one (ps_ret (pcall (ok_word_text T) T.g_word_text hr (by decide) rfl pass0 (pa_cons (pprop (ok_Session_queue T) T.c_Session T.p_Session_queue hr (by decide) pass0 (pv 2) rfl) pa_nil)))) (pmc_str (pss_one (ps_ret (pcall (ok_list_text T) T.g_list_text hr (by decide) rfl pass0 (pa_cons (pmeth0 (ok_Session_log T) T.c_Session T.m_Session_log hr (by decide) pass0 (pv 2)) pa_nil)))) (pmc_str (pss_one (ps_ret (pcall (ok_format_look_effect T) T.g_format_look_effect hr (by decide) rfl pass0 (pa_cons (pmeth0 (ok_Session_total T) T.c_Session T.m_Session_total hr (by decide) (passes_call (takes_of rfl rfl rfl rfl) fun _ _ _ _ z => z) (pv 2)) pa_nil)))) (pmc_str (pss_one (ps_ret (pe_callTy call_str_int rfl T.f_str boot_str (pa_cons (pe_callB (p_lenO (ok_Session_len T) T.len_Session hr (by decide) pass0) rfl T.f_len boot_len (pa_cons (pv 2) pa_nil)) pa_nil)))) (pmc_str (pss_one (ps_ret (pe_or (pe_join (pe_sC [44, 32] (by decide +kernel)) (pe_lock (pe_lc (own := [("name", 3), ("place", 4)]) rfl sc_Console_answer_query.nd (pi_items (pmeth0 (ok_Session_marks T) T.c_Session T.m_Session_marks hr (by decide) pass0 (pv 2))) (blkOk_by (N := ["self", "command", "session", "name", "place"]) (sc := defScope s_Console_answer_query) (by decide +kernel)) (fun _ _ _ _ _ => by exact pg_tupK (K := K) 2 rfl rfl (pgs_cons (pg_name (i := 3) sc_Console_answer_query.nd rfl (.inl rfl)) (pgs_cons (pg_name (i := 4) sc_Console_answer_query.nd rfl (.inl rfl)) pgs_nil))) (fun _ _ _ _ _ => by exact pts_nil) (fun _ _ _ _ _ => by exact pe_never)))) (pe_one (pe_sC [110, 111, 110, 101] (by decide +kernel)))))) pmc_nil))))))
    (pss_one (ps_ret pe_non)))), ?_⟩
  obtain ⟨x, dx, ca, s, cmds, l, c, log, k, rfl, rfl, hC, ho, hl, hlen, hok, hne, hk, h⟩ := h
  obtain ⟨hb, hm⟩ := hC
  have cl := T.c_Console
  have n1 := T.n_Console_own_session
  have cs := T.c_Session
  walk_at "go"
  have q1 : (Str.ofString "queue") = sS [113, 117, 101, 117, 101] := by decide +kernel
  have q2 : (Str.ofString "log") = sS cLog := by decide +kernel
  have q3 : (Str.ofString "total") = sS cTot := by decide +kernel
  have q4 : (Str.ofString "length") = sS cLen := by decide +kernel
  have q5 : (Str.ofString "marks") = sS [109, 97, 114, 107, 115] := by decide +kernel
  rcases h with ⟨rfl, h⟩ | ⟨rfl, h⟩ | ⟨rfl, nk, h⟩ | ⟨⟨w', rfl⟩, h⟩
  · walk_at "go"
    intro p H1 hp hL s1
    walk_at "go"
    exact fun H2 s2 => h H2 (s1.trans s2)
  · have l2 : (log.length : Nat).log2 < 1920 := by
      by_cases z : log.length = 0
      · rw [z]; decide
      · rw [Nat.log2_lt z]
        exact Nat.lt_of_lt_of_le (show log.length < 2 ^ 12 by omega) (Nat.pow_le_pow_right (by omega) (by omega))
    have l3 : ((log.length : Nat) : Int).natAbs.log2 < 1920 := l2
    walk_at "go"
    exact h
  · walk_at "go"
    exact fun _ => h
  · rw [if_neg (str_ne q1 (by intro z; cases z))]
    walk_at "go"
    rw [if_neg (str_ne q3 (by intro z; cases z))]
    walk_at "go"
    rw [if_neg (str_ne q4 (by intro z; cases z))]
    walk_at "go"
    first
      | exact h
      | (rw [if_neg (str_ne q5 (by intro z; cases z))]
         walk_at "go"
         exact h)
end
end Qe

namespace Qe
open PySem PySem.Spec PyProof.Rows L2 He
local macro_rules | `(tactic| walk_at "lk") => `(tactic| first
  | assumption
  | exact upd_same
  | (refine (upd_ne (by assumption)).trans ?_; walk_at "lk"))
local macro_rules | `(tactic| walk_at "sd") => `(tactic| first
  | rfl
  | assumption
  | exact SqL.of (by assumption)
  | exact .inl (SqL.of (by assumption))
  | exact SqT.of (by assumption)
  | exact ⟨_, SqL.of (by assumption)⟩
  | exact .inr (SqT.of (by assumption))
  | exact .inl ⟨rfl, _, SqL.of (by assumption)⟩
  | exact upd_same
  | (refine (upd_ne (by assumption)).trans ?_; walk_at "lk")
  | exact ⟨_, rfl⟩
  | exact NN.none
  | exact NN.some (by omega)
  | exact lt1
  | exact lt2
  | exact lt3
  | exact lt4
  | exact sz0
  | exact sz1
  | exact sz2
  | exact sz3
  | exact sz4
  | exact small20 (by first | omega | (rw [List.length_map]; omega))
  | exact True.intro
  | omega
  | (dsimp only [List.length_cons, List.length_nil]; omega))
local macro_rules | `(tactic| walk_at "go") => `(tactic| first
  | ((with_reducible refine tSeq_i ?_); walk_at "go")
  | ((with_reducible refine gName_i ?_); walk_at "go")
  | ((with_reducible refine tNext_i ?_); walk_at "go")
  | ((with_reducible refine iteT ?_); walk_at "go")
  | ((with_reducible refine iteF ?_); walk_at "go")
  | (with_reducible refine (show tLockE _ _ _ _ from ?_))
  | (with_reducible refine (show tLock _ _ _ _ from ?_))
  | (with_reducible refine (show (∃ W : Nat → Nat → L2.St → Hp → Prop, _) from ?_))
  | (with_reducible refine (show C8.tCut _ _ _ _ _ from ?_))
  | (with_reducible refine (show tWhile _ _ _ _ _ from ?_))
  | (apply Exists.intro; walk_at "go")
  | (apply And.intro; (focus (walk_at "sd")); walk_at "go")
  | skip)

section
variable {P : Program} {w : World} {K : PySem.W.Frag}
      {mg : Str → Option Value} {base : Heap}

theorem part_try (w : List Nat) : Txt.partition (sS (cTry w)) (sS [32]) = (sS [116, 114, 121], sS [32], sS w) := SX.partition_some (a := cTry w) (b := [32]) (by decide) rfl
def sp_Console_answer_undo (K : PySem.W.Frag) : Sp := S2 fun a b H Q _ => ∃ (x : Addr) (w : List Nat), a = .ref x ∧ b = vS (cTry w) ∧ w.length ≤ 5000 ∧ ∀ H', Same H H' → Q .non H'
theorem ok_Console_answer_undo (T : Tx K mg) : Fx P w K mg base CX0 5 (A_Console_answer_undo K) (sp_Console_answer_undo K) := by
  obtain ⟨fd, F⟩ := T.D_Console_answer_undo
  refine fx_of F sc_Console_answer_undo (F.bindsN fun _ _ _ _ _ _ us hl => match us, hl with | [_, _], _ => rfl) S2.len fun cdv A outer s H vs Q E hr h => ?_
  obtain ⟨a0, a1, rfl, h⟩ := h
  refine ⟨_, PSs.nox (pss_cons (ps_if (pt_cmpR op_eqW (pv 1) (pe_sC [117, 110, 100, 111] (by decide +kernel)) (nomark _)) (pss_one (ps_ret (pcall (ok_word_text T) T.g_word_text hr (by decide) rfl pass0 (pa_cons pe_never pa_nil)))) pss_nil)
    (pss_cons (ps_asg (pe_partition (pv 1) (pe_sC [32] (by decide +kernel))) (pg_tup rfl (pgs_cons (pg_name (i := 2) sc_Console_answer_undo.nd rfl (.inl rfl)) (pgs_cons (pg_name (i := 3) sc_Console_answer_undo.nd rfl (.inl rfl)) (pgs_cons (pg_name (i := 4) sc_Console_answer_undo.nd rfl (.inl rfl)) pgs_nil)))))
    (pss_cons (ps_set (i := 5) sc_Console_answer_undo.nd rfl (.inl rfl) (pe_ifExp (pt_cmpR op_eqW (pv 2) (pe_sC [117, 110, 100, 111] (by decide +kernel)) (nomark _)) pe_never pe_non))
    (pss_cons (ps_if (PW.pt (pw_or (pt_cmpR op_isN (pv 5) pe_non (nomark _)) (pw_or1 (pt_cmpR op_eqI (pv 5) pe_int (nomark _))))) (pss_one (ps_ret pe_non)) pss_nil)
    (pss_one (ps_ret (pcall (ok_word_text T) T.g_word_text hr (by decide) rfl pass0 (pa_cons (pmethK (ok_Session_undo T) T.c_Session T.m_Session_undo hr (by decide) pass0 (pe_fld (pv 0) rfl) (pk_cons (pv 5) pk_nil)) pa_nil)))))))), ?_⟩
  obtain ⟨x, w', rfl, rfl, hl, h⟩ := h
  have pt := part_try w'
  have hlen : (sS (cTry w')).length ≤ sizeLine := Nat.le_trans (show w'.length + 4 ≤ 20000 by omega) (by decide)
  have undo_ne : decide (cTry w' = [117, 110, 100, 111]) = false := decide_eq_false (by intro z; cases z)
  walk_at "go"
  intro t ht
  rw [pt]
  have kt := upd_same (H := H) (a := t) (o := .tup [vS [116, 114, 121], vS [32], vS w'])
  have s1 := Same.new (o := .tup [vS [116, 114, 121], vS [32], vS w']) ht
  generalize upd H t (.tup [vS [116, 114, 121], vS [32], vS w']) = H1 at kt s1 ⊢
  walk_at "go"
  exact h _ s1
def sp_Console_answer_mark (K : PySem.W.Frag) : Sp := S2 fun a b H Q _ => ∃ (x : Addr) (w : List Nat), a = .ref x ∧ b = vS (cTry w) ∧ w.length ≤ 5000 ∧ ∀ H', Same H H' → Q .non H'
theorem ok_Console_answer_mark (T : Tx K mg) : Fx P w K mg base CX0 8 (A_Console_answer_mark K) (sp_Console_answer_mark K) := by
  obtain ⟨fd, F⟩ := T.D_Console_answer_mark
  refine fx_of F sc_Console_answer_mark (F.bindsN fun _ _ _ _ _ _ us hl => match us, hl with | [_, _], _ => rfl) S2.len fun cdv A outer s H vs Q E hr h => ?_
  obtain ⟨a0, a1, rfl, h⟩ := h
  refine ⟨_, PSs.nox (pss_cons (ps_asg (pe_partition (pv 1) (pe_sC [32] (by decide +kernel))) (pg_tup rfl (pgs_cons (pg_name (i := 2) sc_Console_answer_mark.nd rfl (.inl rfl)) (pgs_cons (pg_name (i := 3) sc_Console_answer_mark.nd rfl (.inl rfl)) (pgs_cons (pg_name (i := 4) sc_Console_answer_mark.nd rfl (.inl rfl)) pgs_nil)))))
    (pss_cons (ps_if (pt_not (pt_val (pcall (ok_is_name T) T.g_is_name hr (by decide) rfl pass0 (pa_cons (pv 4) pa_nil)))) (pss_one (ps_ret pe_non)) pss_nil)
    (pss_cons (ps_if (pt_cmpR op_eqW (pv 2) (pe_sC [109, 97, 114, 107] (by decide +kernel)) (nomark _)) (pss_cons (ps_expr (pmeth (ok_Session_mark T) T.c_Session T.m_Session_mark hr (by decide) pass0 (pe_fld (pv 0) rfl) (pa_cons (pv 4) pa_nil)))
    (pss_one (ps_ret (pe_sC [111, 107] (by decide +kernel))))) pss_nil)
    (pss_cons (ps_if (pt_cmpR op_eqW (pv 2) (pe_sC [117, 110, 109, 97, 114, 107] (by decide +kernel)) (nomark _)) (pss_cons (ps_expr pe_never)
    (pss_one (ps_ret (pe_sC [111, 107] (by decide +kernel))))) pss_nil)
    (pss_cons (ps_if (pt_cmpR op_eqW (pv 2) (pe_sC [115, 105, 110, 99, 101] (by decide +kernel)) (nomark _)) (pss_one (ps_ret (pcall (ok_format_look_effect T) T.g_format_look_effect hr (by decide) rfl pass0 (pa_cons (pmeth (ok_Session_since T) T.c_Session T.m_Session_since hr (by decide) passN (pe_fld (pv 0) rfl) (pa_cons (pv 4) pa_nil)) pa_nil)))) pss_nil)
    (pss_one (ps_ret (pe_ifExp (pt_cmpR op_eqW (pv 2) (pe_sC [114, 101, 119, 105, 110, 100] (by decide +kernel)) (nomark _)) (pcall (ok_word_text T) T.g_word_text hr (by decide) rfl pass0 (pa_cons (pmeth (ok_Session_rewind T) T.c_Session T.m_Session_rewind hr (by decide) pass0 (pe_fld (pv 0) rfl) (pa_cons (pv 4) pa_nil)) pa_nil)) pe_non)))))))), ?_⟩
  obtain ⟨x, w', rfl, rfl, hl, h⟩ := h
  have pt := part_try w'
  have hlen : (sS (cTry w')).length ≤ sizeLine := Nat.le_trans (show w'.length + 4 ≤ 20000 by omega) (by decide)
  walk_at "go"
  intro t ht
  rw [pt]
  have kt := upd_same (H := H) (a := t) (o := .tup [vS [116, 114, 121], vS [32], vS w'])
  have s1 := Same.new (o := .tup [vS [116, 114, 121], vS [32], vS w']) ht
  generalize upd H t (.tup [vS [116, 114, 121], vS [32], vS w']) = H1 at kt s1 ⊢
  walk_at "go"
  intro H2 s2
  cases nameB w' with
  | false =>
    walk_at "go"
    exact h _ (s1.trans s2)
  | true =>
    walk_at "go"
    exact h _ (s1.trans s2)
def sp_Console_answer_try (K : PySem.W.Frag) : Sp := S2 fun a b H Q E => ∃ (x dx ca s : Addr) (cmds : List V) (w : List Nat) (c : SesA) (log : List Step) (k : Col), a = .ref x ∧ b = vS (cTry w) ∧ isCon K H x dx ca s cmds ∧ H s = some (.ins (ga K "Session") c.dx (sesF c)) ∧ StL H c.la log ∧
  log.length ≤ 4000 ∧ (∀ s ∈ log, s.ok) ∧ colR Col0 log = some k ∧ isQ w ∧ w ≠ [] ∧
  ((k.p.length ≤ 2000 ∧ k.w.length ≤ 2000) → (effOf k).acc w = true ∧ (w ++ k.w).drop k.t ≠ [] ∧ ∀ H', Same H H' → Q (vS ((w ++ k.w).drop k.t)) H') ∧ (¬(k.p.length ≤ 2000 ∧ k.w.length ≤ 2000) → xdOut "LimitExceeded" "limit" (.int 2000) K H E)
theorem ok_Console_answer_try (T : Tx K mg) : Fx P w K mg base (CX P w) 8 (A_Console_answer_try K) (sp_Console_answer_try K) := by
  obtain ⟨fd, F⟩ := T.D_Console_answer_try
  refine fx_of F sc_Console_answer_try (F.bindsN fun _ _ _ _ _ _ us hl => match us, hl with | [_, _], _ => rfl) S2.len fun cdv A outer s H vs Q E hr h => ?_
  obtain ⟨a0, a1, rfl, h⟩ := h
  refine ⟨_, (pss_cons (ps_asg (pe_partition (pv 1) (pe_sC [32] (by decide +kernel))) (pg_tup rfl (pgs_cons (pg_name (i := 2) sc_Console_answer_try.nd rfl (.inl rfl)) (pgs_cons (pg_name (i := 3) sc_Console_answer_try.nd rfl (.inl rfl)) (pgs_cons (pg_name (i := 4) sc_Console_answer_try.nd rfl (.inl rfl)) pgs_nil)))))
    (pss_cons (ps_if (PW.pt (pw_or (pt_cmpR op_neW (pv 2) (pe_sC [116, 114, 121] (by decide +kernel)) (nomark _)) (pw_or (pt_cmpR op_eqW (pv 4) (pe_sC [] (by decide +kernel)) (nomark _)) (pw_or1 (pt_not (pt_val (pcall (ok_is_queue T) T.g_is_queue hr (by decide) rfl pass0 (pa_cons (pcall (ok_word_in T) T.g_word_in hr (by decide) rfl pass0 (pa_cons (pv 4) pa_nil)) pa_nil)))))))) (pss_one (ps_ret pe_non)) pss_nil)
    (pss_cons (ps_set (i := 5) sc_Console_answer_try.nd rfl (.inl rfl) (pmeth0 (ok_Session_total T) T.c_Session T.m_Session_total hr (by decide) (passes_call (takes_of rfl rfl rfl rfl) fun _ _ _ _ z => z) (pe_fld (pv 0) rfl)))
    (pss_cons (ps_set (i := 6) sc_Console_answer_try.nd rfl (.inl rfl) (pcall (ok_word_in T) T.g_word_in hr (by decide) rfl pass0 (pa_cons (pv 4) pa_nil)))
    (pss_one (ps_ret (pe_ifExp (pt_val (pmeth (ok_LookEffect_accepts T) T.c_LookEffect T.m_LookEffect_accepts hr (by decide) pass0 (pv 5) (pa_cons (pv 6) pa_nil))) (pcall (ok_word_text T) T.g_word_text hr (by decide) rfl pass0 (pa_cons (pmeth (ok_LookEffect_apply T) T.c_LookEffect T.m_LookEffect_apply hr (by decide) pass0 (pv 5) (pa_cons (pv 6) pa_nil)) pa_nil)) (pe_sC [114, 101, 106, 101, 99, 116, 101, 100] (by decide +kernel))))))))), ?_⟩
  obtain ⟨x, dx, ca, s, cmds, w', c, log, k, rfl, rfl, ⟨hb, hm⟩, ho, hl, hlen, hok, hk, hq, hne, h, hE⟩ := h
  have hq1 := hq.1
  have cl := T.c_Console
  have n1 := T.n_Console_own_session
  have cs := T.c_Session
  have ce := T.c_LookEffect
  have pt := part_try w'
  have hlen2 : (sS (cTry w')).length ≤ sizeLine := Nat.le_trans (show w'.length + 4 ≤ 20000 by omega) (by decide)
  have n46 : w' ≠ [46] := fun z => by
    have := hq.2
    rw [z] at this
    cases this
  walk_at "go"
  intro t ht
  rw [pt]
  have kt := upd_same (H := H) (a := t) (o := .tup [vS [116, 114, 121], vS [32], vS w'])
  have s1 := Same.new (o := .tup [vS [116, 114, 121], vS [32], vS w']) ht
  generalize upd H t (.tup [vS [116, 114, 121], vS [32], vS w']) = H1 at kt s1 ⊢
  walk_at "go"
  refine ite_d (fun z => absurd z hne) fun _ => ?_
  walk_at "go"
  intro H2 s2
  rw [hq.b]
  have s12 := s1.trans s2
  have hb2 := s12 _ _ hb
  have ho2 := s12 _ _ ho
  have hl2 := s12 _ _ hl
  walk_at "go"
  refine ⟨fun cc e H3 he le s3 => ?_, fun cc d H3 hd e s3 => hE cc d H3 (s12.free hd) e (s12.trans s3)⟩
  obtain ⟨h1, h2, h3⟩ := h cc
  obtain ⟨dx3, le3⟩ := id le
  have wl : (effOf k).w.length ≤ 2000 := cc.2
  walk_at "go"
  intro H4 s4
  rw [h1]
  have le4 := le.same s4
  obtain ⟨dx4, le5⟩ := id le4
  walk_at "go"
  intro H5 s5
  walk_at "go"
  exact h3 _ (((s12.trans s3).trans s4).trans s5)
def sp_Console_execute (K : PySem.W.Frag) : Sp := S2 fun a b H Q E => ∃ (x dx ca s : Addr) (cmds : List V) (l : List Nat) (c : SesA) (log : List Step) (k : Col), a = .ref x ∧ b = vS l ∧ isCon K H x dx ca s cmds ∧ H s = some (.ins (ga K "Session") c.dx (sesF c)) ∧ StL H c.la log ∧
  log.length ≤ 4000 ∧ (∀ s ∈ log, s.ok) ∧ log ≠ [] ∧ colR Col0 log = some k ∧ cmds.length ≤ 1000 ∧
  ((l = cLog ∧ ∀ H', isCon K H' x dx ca s (cmds ++ [vS l]) → But ca H H' → Q (.str (joinSp log)) H') ∨
   (l = cLen ∧ ∀ H', isCon K H' x dx ca s (cmds ++ [vS l]) → But ca H H' → Q (.str (toString (log.length : Int))) H') ∨
   (l = cTot ∧ ¬(k.p.length ≤ 2000 ∧ k.w.length ≤ 2000) ∧ xdOut "LimitExceeded" "limit" (.int 2000) K H E) ∨
   (∃ w, l = cTry w ∧ isQ w ∧ w ≠ [] ∧ ((k.p.length ≤ 2000 ∧ k.w.length ≤ 2000) → (effOf k).acc w = true ∧ (w ++ k.w).drop k.t ≠ [] ∧ ∀ H', isCon K H' x dx ca s (cmds ++ [vS l]) → But ca H H' → Q (vS ((w ++ k.w).drop k.t)) H') ∧
     (¬(k.p.length ≤ 2000 ∧ k.w.length ≤ 2000) → xdOut "LimitExceeded" "limit" (.int 2000) K H E)))
theorem ok_Console_execute (T : Tx K mg) : Fx P w K mg base (CX P w) 9 (A_Console_execute K) (sp_Console_execute K) := by
  obtain ⟨fd, F⟩ := T.D_Console_execute
  refine fx_of F sc_Console_execute (F.bindsN fun _ _ _ _ _ _ us hl => match us, hl with | [_, _], _ => rfl) S2.len fun cdv A outer s H vs Q E hr h => ?_
  obtain ⟨a0, a1, rfl, h⟩ := h
  refine ⟨_, (pss_cons (ps_if (pt_not (pt_val (pe_callB isS_str rfl T.f_isinstance boot_isinstance (pa_cons (pv 1) (pa_cons (pe_bltn (v := .ty "str") rfl T.f_str boot_str rfl) pa_nil))))) (pss_one (ps_never)) pss_nil)
    (pss_cons (ps_set (i := 2) sc_Console_execute.nd rfl (.inl rfl) (pmeth (ok_Console_answer_query T) T.c_Console T.m_Console_answer_query hr (by decide) (passes_call (takes_of rfl rfl rfl rfl) fun _ _ _ _ z => z) (pv 0) (pa_cons (pv 1) pa_nil)))
    (pss_cons (ps_if (pt_cmpR op_isN (pv 2) pe_non (nomark _)) (pss_one (ps_set (i := 2) sc_Console_execute.nd rfl (.inl rfl) (pmeth (ok_Console_answer_undo T) T.c_Console T.m_Console_answer_undo hr (by decide) pass0 (pv 0) (pa_cons (pv 1) pa_nil)))) pss_nil)
    (pss_cons (ps_if (pt_cmpR op_isN (pv 2) pe_non (nomark _)) (pss_one (ps_set (i := 2) sc_Console_execute.nd rfl (.inl rfl) (pmeth (ok_Console_answer_mark T) T.c_Console T.m_Console_answer_mark hr (by decide) pass0 (pv 0) (pa_cons (pv 1) pa_nil)))) pss_nil)
    (pss_cons (ps_if (pt_cmpR op_isN (pv 2) pe_non (nomark _)) (pss_one (ps_set (i := 2) sc_Console_execute.nd rfl (.inl rfl) (pmeth (ok_Console_answer_try T) T.c_Console T.m_Console_answer_try hr (by decide) (passes_call (takes_of rfl rfl rfl rfl) fun _ _ _ _ z => z) (pv 0) (pa_cons (pv 1) pa_nil)))) pss_nil)
    (pss_cons (ps_if (pt_cmpR op_isN (pv 2) pe_non (nomark _)) (pss_one (ps_set (i := 2) sc_Console_execute.nd rfl (.inl rfl) pe_never)) pss_nil)
    (pss_cons (ps_if (pt_cmpR op_isN (pv 2) pe_non (nomark _)) (pss_one (ps_never)) pss_nil)
    (pss_cons (ps_expr (pe_bm PySem.F.plainAttrs_list PySem.F.slot_list_append PySem.F.type_list_append mt_append (pe_fld (pv 0) rfl) (pa_cons (pv 1) pa_nil)))
    (pss_one (ps_ret (pv 2))))))))))), ?_⟩
  obtain ⟨x, dx, ca, s, cmds, l, c, log, k, rfl, rfl, hC, ho, hl, hlen, hok, hne, hk, hcl, h⟩ := h
  obtain ⟨hb, hm⟩ := id hC
  have cl := T.c_Console
  have n2 := T.n_Console_own_commands
  have nxc : x ≠ ca := ne_of hb hm (by intro z; cases z)
  have fin : ∀ H1, Same H H1 → isCon K (upd H1 ca (.lst (cmds ++ [vS l]))) x dx ca s (cmds ++ [vS l]) ∧ But ca H (upd H1 ca (.lst (cmds ++ [vS l]))) := fun H1 s1 =>
    ⟨⟨by rw [upd_ne nxc]; exact s1 _ _ hb, upd_same⟩, (But.same s1).upd⟩
  have lc : cmds.length < sizeLine := small20 (by omega)
  rcases h with ⟨rfl, h⟩ | ⟨rfl, h⟩ | ⟨rfl, nk, h⟩ | ⟨w', rfl, hq, hw, h, hE⟩
  · walk_at "go"
    refine .inl ⟨rfl, fun H1 s1 => ?_⟩
    have hb1 := s1 _ _ hb
    have hm1 := s1 _ _ hm
    walk_at "go"
    exact h _ (fin H1 s1).1 (fin H1 s1).2
  · walk_at "go"
    refine .inr (.inl ⟨rfl, ?_⟩)
    walk_at "go"
    exact h _ (fin H (Same.refl _)).1 (fin H (Same.refl _)).2
  · walk_at "go"
    exact .inr (.inr (.inl ⟨rfl, nk, h⟩))
  · have hq1 := hq.1
    have hw5 : w'.length ≤ 5000 := by omega
    walk_at "go"
    refine .inr (.inr (.inr ⟨⟨w', rfl⟩, ?_⟩))
    walk_at "go"
    intro H1 s1
    have hb1 := s1 _ _ hb
    walk_at "go"
    intro H2 s2
    have s12 := s1.trans s2
    have hb2 := s12 _ _ hb
    have hm2 := s12 _ _ hm
    have hC2 : isCon K H2 x dx ca s cmds := ⟨hb2, hm2⟩
    have ho2 := s12 _ _ ho
    have hl2 := s12 _ _ hl
    walk_at "go"
    refine ⟨fun cc => ⟨(h cc).1, (h cc).2.1, fun H3 s3 => ?_⟩, fun cc d H3 hd e s3 => hE cc d H3 (s12.free hd) e (s12.trans s3)⟩
    have s13 := s12.trans s3
    have hb3 := s13 _ _ hb
    have hm3 := s13 _ _ hm
    walk_at "go"
    exact (h cc).2.2 _ (fin H3 s13).1 (fin H3 s13).2
end
end Qe

namespace Qe
open PySem PySem.Spec PyProof.Rows L2 He
/-! ## the law's own things -/
def Pool (H : Hp) (p : Addr) : Prop := ∃ b c : Int, H p = some (.lst [.int b, .int c]) ∧ 0 ≤ b ∧ 0 ≤ c ∧ c < 2147483648
theorem Pool.same {H H' : Hp} {p : Addr} (h : Pool H p) (s : Same H H') : Pool H' p := by
  obtain ⟨b, c, e, r⟩ := h
  exact ⟨b, c, s _ _ e, r⟩
theorem Pool.at_ {H : Hp} {p : Addr} (h : Pool H p) : ∃ xs, H p = some (.lst xs) := by
  obtain ⟨b, c, e, r⟩ := h
  exact ⟨_, e⟩
end Qe

namespace Qe
open PySem PySem.Spec PyProof.Rows L2 He
local macro_rules | `(tactic| walk_at "lk") => `(tactic| first
  | assumption
  | exact upd_same
  | (refine (upd_ne (by assumption)).trans ?_; walk_at "lk"))
local macro_rules | `(tactic| walk_at "sd") => `(tactic| first
  | rfl
  | assumption
  | exact SqL.of (by walk_at "lk")
  | exact .inl (SqL.of (by assumption))
  | exact SqT.of (by assumption)
  | exact ⟨_, SqL.of (by assumption)⟩
  | exact .inr (SqT.of (by assumption))
  | exact .inl ⟨rfl, _, SqL.of (by assumption)⟩
  | exact upd_same
  | (refine (upd_ne (by assumption)).trans ?_; walk_at "lk")
  | exact ⟨_, rfl⟩
  | exact NN.none
  | exact NN.some (by omega)
  | exact lt1
  | exact lt2
  | exact lt3
  | exact lt4
  | exact sz0
  | exact sz1
  | exact sz2
  | exact sz3
  | exact sz4
  | exact small20 (by first | omega | (rw [List.length_map]; omega))
  | exact True.intro
  | omega
  | (dsimp only [List.length_cons, List.length_nil]; omega))
local macro_rules | `(tactic| walk_at "go") => `(tactic| first
  | ((with_reducible refine tSeq_i ?_); walk_at "go")
  | ((with_reducible refine gName_i ?_); walk_at "go")
  | ((with_reducible refine tNext_i ?_); walk_at "go")
  | ((with_reducible refine iteT ?_); walk_at "go")
  | ((with_reducible refine iteF ?_); walk_at "go")
  | (with_reducible refine (show tLockE _ _ _ _ from ?_))
  | (with_reducible refine (show tLock _ _ _ _ from ?_))
  | (with_reducible refine (show (∃ W : Nat → Nat → L2.St → Hp → Prop, _) from ?_))
  | (with_reducible refine (show C8.tCut _ _ _ _ _ from ?_))
  | (with_reducible refine (show tWhile _ _ _ _ _ from ?_))
  | (apply Exists.intro; walk_at "go")
  | (apply And.intro; (focus (walk_at "sd")); walk_at "go")
  | skip)

section
variable {P : Program} {w : World} {K : PySem.W.Frag}
      {mg : Str → Option Value} {base : Heap}

def sp_law_draw (K : PySem.W.Frag) : Sp := S2 fun a b H Q _ => ∃ (p : Addr) (n : Nat), a = .ref p ∧ b = .int n ∧ Pool H p ∧ 0 < n ∧ n < 100000 ∧ ∀ (r : Nat) H', r < n → Pool H' p → But p H H' → Q (.int r) H'
theorem ok_law_draw (T : Tx K mg) : Fx P w K mg base CX0 1 (A_law_draw K) (sp_law_draw K) := by
  obtain ⟨fd, F⟩ := T.D_law_draw
  refine fx_of F sc_law_draw (F.bindsN fun _ _ _ _ _ _ us hl => match us, hl with | [_, _], _ => rfl) S2.len fun cdv A outer s H vs Q E hr h => ?_
  obtain ⟨a0, a1, rfl, h⟩ := h
  refine ⟨_, PSs.nox (pss_cons (ps_if (pt_cmpR op_gt (pe_ix ix_list (pv 0) pe_int (fun _ _ => rfl)) pe_int (nomark _)) (pss_cons (ps_set (i := 2) sc_law_draw.nd rfl (.inl rfl) (pe_op op_mod (pe_ix ix_list (pv 0) pe_int (fun _ _ => rfl)) (pv 1)))
    (pss_cons (ps_asg (pe_op op_fdiv (pe_ix ix_list (pv 0) pe_int (fun _ _ => rfl)) (pv 1)) (pg_sub (pv 0) pe_int set_list (fun _ => rfl)))
    (pss_one (ps_ret (pv 2))))) pss_nil)
    (pss_cons (ps_asg (pe_op op_mod (pe_op op_add (pe_op op_mul (pe_ix ix_list (pv 0) pe_int (fun _ _ => rfl)) pe_int) pe_int) pe_int) (pg_sub (pv 0) pe_int set_list (fun _ => rfl)))
    (pss_one (ps_ret (pe_op op_mod (pe_op op_fdiv (pe_op op_mod (pe_op op_mul (pe_ix ix_list (pv 0) pe_int (fun _ _ => rfl)) (pe_ix ix_list (pv 0) pe_int (fun _ _ => rfl))) pe_int) pe_int) (pv 1)))))), ?_⟩
  obtain ⟨p, n, rfl, rfl, ⟨x, y, hp, hx, hy, hy2⟩, hn, hn2, h⟩ := h
  have a0 : atI [V.int x, V.int y] 0 = some (V.int x) := rfl
  have a1 : atI [V.int x, V.int y] 1 = some (V.int y) := rfl
  have np : (0 : Int) < (n : Int) := by omega
  have cd : CDiv x n := ⟨np, by omega⟩
  have nm : ∀ z : Int, ∃ r : Nat, z % (n : Int) = (r : Nat) ∧ r < n := fun z => by
    have h1 := Int.emod_nonneg z (show (n : Int) ≠ 0 by omega)
    have h2 := Int.emod_lt_of_pos z np
    exact ⟨(z % (n : Int)).toNat, by omega, by omega⟩
  walk_at "go"
  refine ite_d (fun c => ?_) fun c => ?_
  · walk_at "go"
    obtain ⟨r, e, hr⟩ := nm x
    show Q (.int (x % n)) _
    rw [e]
    refine h r _ hr ⟨x / n, y, upd_same, Int.ediv_nonneg hx (by omega), hy, hy2⟩ (But.upd fun _ _ e _ => e)
  · have c1 : CMul y 48271 := .inl ⟨by omega, by omega⟩
    have p1 : (0 : Int) < 2147483647 := by decide
    have p2 : (0 : Int) < 2147483629 := by decide
    have y0 : 0 ≤ (y * 48271 + 11) % 2147483647 := Int.emod_nonneg _ (by decide)
    have y1 : (y * 48271 + 11) % 2147483647 < 2147483647 := Int.emod_lt_of_pos _ p1
    have a2 : atI [V.int x, V.int ((y * 48271 + 11) % 2147483647)] 1 = some (V.int ((y * 48271 + 11) % 2147483647)) := rfl
    have c2 : CMul ((y * 48271 + 11) % 2147483647) ((y * 48271 + 11) % 2147483647) := .inl ⟨by omega, by omega⟩
    have c3 : CDiv ((y * 48271 + 11) % 2147483647 * ((y * 48271 + 11) % 2147483647) % 2147483629) 64 := ⟨by decide, by decide⟩
    walk_at "go"
    obtain ⟨r, e, hr⟩ := nm ((y * 48271 + 11) % 2147483647 * ((y * 48271 + 11) % 2147483647) % 2147483629 / 64)
    show Q (.int ((y * 48271 + 11) % 2147483647 * ((y * 48271 + 11) % 2147483647) % 2147483629 / 64 % n)) _
    rw [e]
    exact h r _ hr ⟨x, _, upd_same, hx, y0, by omega⟩ (But.upd fun _ _ e _ => e)
def sp_law_hand (K : PySem.W.Frag) : Sp := S2 fun a b H Q _ => ∃ (s : Addr) (ns : List Int) (k : Nat), a = .ref s ∧ b = .int k ∧ SqL K H s (ns.map V.int) ∧ k < 1000 ∧ ∀ p H', H p = none → Pool H' p → Same H H' → Q (.ref p) H'
theorem ok_law_hand (T : Tx K mg) : Fx P w K mg base CX0 1 (A_law_hand K) (sp_law_hand K) := by
  obtain ⟨fd, F⟩ := T.D_law_hand
  refine fx_of F sc_law_hand (F.bindsN fun _ _ _ _ _ _ us hl => match us, hl with | [_, _], _ => rfl) S2.len fun cdv A outer s H vs Q E hr h => ?_
  obtain ⟨a0, a1, rfl, h⟩ := h
  refine ⟨_, PSs.nox (pss_cons (ps_set (i := 2) sc_law_hand.nd rfl (.inl rfl) (pe_ix ix_list (pe_op op_cat (pe_slice sl_listN (pv 0) (po_some (pv 1)) (po_some (pe_op op_add (pv 1) pe_int))) (pe_lst (pa_cons pe_int pa_nil))) pe_int (fun _ _ => rfl)))
    (pss_cons (ps_set (i := 3) sc_law_hand.nd rfl (.inl rfl) (pe_op op_mod (pe_op op_mul (pe_op op_add (pe_op op_add (pe_op op_mod (pv 2) pe_int) (pe_op op_mul pe_int (pv 1))) pe_int) pe_int) pe_int))
    (pss_one (ps_ret (pe_lst (pa_cons (pe_op op_mul (pe_callTy call_int1 rfl T.f_int boot_int (pa_cons (pe_cmpR op_ge (pv 2) (pe_op op_pow pe_int pe_int) (nomark _)) pa_nil)) (pv 2)) (pa_cons (pv 3) pa_nil))))))), ?_⟩
  obtain ⟨s, ns, k, rfl, rfl, hs, hk, h⟩ := h
  walk_at "go"
  intro p1 hp1
  have k1 := upd_same (H := H) (a := p1) (o := .lst (cutN (ns.map V.int) (some (k : Int)) (some ((k : Int) + 1))))
  have s1 := Same.new (o := .lst (cutN (ns.map V.int) (some (k : Int)) (some ((k : Int) + 1)))) hp1
  generalize upd H p1 (.lst (cutN (ns.map V.int) (some (k : Int)) (some ((k : Int) + 1)))) = H1 at k1 s1 ⊢
  walk_at "go"
  intro p2 hp2
  have k2 := (Same.new (o := .lst [V.int 0]) hp2) _ _ k1
  have j2 := upd_same (H := H1) (a := p2) (o := .lst [V.int 0])
  have s2 := s1.trans (Same.new (o := .lst [V.int 0]) hp2)
  generalize upd H1 p2 (.lst [V.int 0]) = H2 at k2 j2 s2 ⊢
  have lz : (cutN (ns.map V.int) (some (k : Int)) (some ((k : Int) + 1))).length + [V.int 0].length ≤ sizeLine := by
    show (((ns.map V.int).take ((k : Int) + 1).toNat).drop (k : Int).toNat).length + 1 ≤ sizeLine
    rw [List.length_drop, List.length_take]
    exact Nat.le_trans (show _ ≤ 20000 by omega) (by decide)
  obtain ⟨c, hc⟩ : ∃ c : Int, atI (cutN (ns.map V.int) (some (k : Int)) (some ((k : Int) + 1)) ++ [V.int 0]) 0 = some (V.int c) := by
    have e : cutN (ns.map V.int) (some (k : Int)) (some ((k : Int) + 1)) ++ [V.int 0] = (((ns.take ((k : Int) + 1).toNat).drop (k : Int).toNat) ++ [0]).map V.int := by
      rw [List.map_append, List.map_drop, List.map_take]; rfl
    rw [e]
    cases hz : ((ns.take ((k : Int) + 1).toNat).drop (k : Int).toNat) with
    | nil => exact ⟨0, rfl⟩
    | cons x t => exact ⟨x, atI_nat (j := 0) rfl⟩
  have p1 : (0 : Int) < 2147483647 := by decide
  have p2 : (0 : Int) < 2147483629 := by decide
  have z1 := Int.emod_lt_of_pos c p1
  have z2 := Int.emod_nonneg c (show (2147483647 : Int) ≠ 0 by decide)
  have cm : CMul (c % 2147483647 + 7919 * (k : Int) + 1) 48271 := .inl ⟨by omega, by omega⟩
  have cm0 : CMul 7919 (k : Int) := .inl ⟨by decide, by decide⟩
  have cp : CPow 10 18 := ⟨by decide, by decide, by decide⟩
  walk_at "go"
  intro p3 hp3
  walk_at "go"
  refine .inr ⟨_, rfl, ?_⟩
  have cm2 : CMul (if decide ((10 : Int) ^ (18 : Int).toNat ≤ c) = true then 1 else 0) c := .inl (by split <;> exact ⟨by decide, by decide⟩)
  walk_at "go"
  intro p4 hp4
  refine h p4 _ ((s2.trans (Same.new hp3)).free hp4) ⟨_, _, upd_same, ?_, Int.emod_nonneg _ (by decide), ?_⟩ ((s2.trans (Same.new hp3)).trans (Same.new hp4))
  · by_cases z : (10 : Int) ^ (18 : Int).toNat ≤ c
    · have z2 : (0 : Int) ≤ c := Int.le_trans (by decide) z
      show 0 ≤ (if decide ((10 : Int) ^ (18 : Int).toNat ≤ c) = true then 1 else 0) * c
      rw [decide_eq_true z, if_pos rfl, Int.one_mul]
      exact z2
    · show 0 ≤ (if decide ((10 : Int) ^ (18 : Int).toNat ≤ c) = true then 1 else 0) * c
      rw [decide_eq_false z, if_neg (by decide), Int.zero_mul]
      exact Int.le_refl _
  · have q := Int.emod_lt_of_pos ((c % 2147483647 + 7919 * (k : Int) + 1) * 48271) p2
    exact Int.lt_trans q (by decide)
def sp_law_any_step (K : PySem.W.Frag) : Sp := S2 fun a b H Q _ => ∃ (p : Addr) (q : List Nat), a = .ref p ∧ b = vS q ∧ Pool H p ∧ q.length ≤ 5000 ∧ q.all isIt = true ∧ ∀ (st : Step) H', st.ok → Pool H' p → But p H H' → Q (vT st) H'
theorem ok_law_any_step (T : Tx K mg) : Fx P w K mg base CX0 2 (A_law_any_step K) (sp_law_any_step K) := by
  obtain ⟨fd, F⟩ := T.D_law_any_step
  refine fx_of F sc_law_any_step (F.bindsN fun _ _ _ _ _ _ us hl => match us, hl with | [_, _], _ => rfl) S2.len fun cdv A outer s H vs Q E hr h => ?_
  obtain ⟨a0, a1, rfl, h⟩ := h
  refine ⟨_, PSs.nox (pss_cons (ps_set (i := 2) sc_law_any_step.nd rfl (.inl rfl) (pcall (ok_law_draw T) T.g_law_draw hr (by decide) rfl pass0 (pa_cons (pv 0) (pa_cons pe_int pa_nil))))
    (pss_cons (ps_if (PW.pt (pw_and (pt_cmpR op_neW (pv 1) (pe_sC [] (by decide +kernel)) (nomark _)) (pw_and1 (pt_cmpR op_lt (pv 2) pe_int (nomark _))))) (pss_one (ps_ret (pe_op op_addW (pe_ix ix_strW (pe_sC [45, 63, 45] (by decide +kernel)) (pv 2) (fun _ _ => rfl)) (pe_ix ix_strW (pv 1) pe_int (fun _ _ => rfl))))) pss_nil)
    (pss_one (ps_ret (pe_op op_addW (pe_ix ix_strW (pe_sC [43, 45, 63, 43, 43, 45] (by decide +kernel)) (pv 2) (fun _ _ => rfl)) (pe_ix ix_strW (pe_sC [97, 98] (by decide +kernel)) (pcall (ok_law_draw T) T.g_law_draw hr (by decide) rfl pass0 (pa_cons (pv 0) (pa_cons pe_int pa_nil))) (fun _ _ => rfl))))))), ?_⟩
  obtain ⟨p, q, rfl, rfl, hp, hl, hq, h⟩ := h
  walk_at "go"
  intro r H1 hr0 hp1 b1
  have hr : r < 6 := hr0
  have second : ∀ r2 : Nat, r2 < 2 → ∀ H2, Pool H2 p → But p H1 H2 → ∃ c, atI [97, 98] (r2 : Int) = some c ∧ ∀ g : Nat, (g = 43 ∨ g = 45 ∨ g = 63) → Q (vS ([g] ++ [c])) H2 := fun r2 hr2 H2 hp2 b2 => by
    obtain rfl | rfl : r2 = 0 ∨ r2 = 1 := by omega
    · exact ⟨97, rfl, fun g hg => h (g, 97) H2 ⟨hg, rfl⟩ hp2 (b1.trans b2)⟩
    · exact ⟨98, rfl, fun g hg => h (g, 98) H2 ⟨hg, rfl⟩ hp2 (b1.trans b2)⟩
  cases q with
  | nil =>
    obtain rfl | rfl | rfl | rfl | rfl | rfl : r = 0 ∨ r = 1 ∨ r = 2 ∨ r = 3 ∨ r = 4 ∨ r = 5 := by omega
    all_goals
      walk_at "go"
      intro r2 H2 hr2 hp2 b2
      obtain ⟨c, e1, e2⟩ := second r2 hr2 H2 hp2 b2
      walk_at "go"
      exact e2 _ (by first | exact .inl rfl | exact .inr (.inl rfl) | exact .inr (.inr rfl))
  | cons x t =>
    have hx : isIt x = true := by
      rw [List.all_cons, Bool.and_eq_true] at hq
      exact hq.1
    have hx0 : atI (x :: t) 0 = some x := atI_nat (j := 0) rfl
    walk_at "go"
    refine ite_d (fun c => ?_) fun c => ?_
    · obtain rfl | rfl | rfl : r = 0 ∨ r = 1 ∨ r = 2 := by omega
      all_goals
        walk_at "go"
        first
          | exact h (45, x) H1 ⟨.inr (.inl rfl), hx⟩ hp1 b1
          | exact h (63, x) H1 ⟨.inr (.inr rfl), hx⟩ hp1 b1
    · obtain rfl | rfl | rfl : r = 3 ∨ r = 4 ∨ r = 5 := by omega
      all_goals
        walk_at "go"
        intro r2 H2 hr2 hp2 b2
        obtain ⟨c, e1, e2⟩ := second r2 hr2 H2 hp2 b2
        walk_at "go"
        exact e2 _ (by first | exact .inl rfl | exact .inr (.inl rfl) | exact .inr (.inr rfl))
def sp_law_word (K : PySem.W.Frag) : Sp := S3 fun a b c H Q _ => ∃ (p : Addr), a = .ref p ∧ b = vS [97, 98] ∧ c = .int 4 ∧ Pool H p ∧ ∀ (w : List Nat) H', w.length ≤ 4 → w.all isIt = true → Pool H' p → But p H H' → Q (vS w) H'
theorem ok_law_word (T : Tx K mg) : Fx P w K mg base CX0 2 (A_law_word K) (sp_law_word K) := by
  obtain ⟨fd, F⟩ := T.D_law_word
  refine fx_of F sc_law_word (F.bindsN fun _ _ _ _ _ _ us hl => match us, hl with | [_, _, _], _ => rfl) S3.len fun cdv A outer s H vs Q E hr h => ?_
  obtain ⟨a0, a1, a2, rfl, h⟩ := h
  refine ⟨_, PSs.nox (pss_one (ps_ret (pe_join0 (pe_sC [] (by decide +kernel)) (pe_lc (own := [("_law_turn_here", 3)]) rfl sc_law_word.nd (pi_range1 rfl T.f_range (pa_cons (pcall (ok_law_draw T) T.g_law_draw hr (by decide) rfl pass0 (pa_cons (pv 0) (pa_cons (pe_op op_add (pv 2) pe_int) pa_nil))) pa_nil)) (blkOk_by (N := ["_law_pool", "_law_letters", "_law_most", "_law_turn_here"]) (sc := defScope s_law_word) (by decide +kernel)) (fun _ _ _ _ _ => by exact pg_name (i := 3) sc_law_word.nd rfl (.inl rfl)) (fun _ _ _ _ _ => by exact pts_nil) (fun _ _ _ _ _ => by exact (pe_ix ix_strW (pv 1) (pcall (ok_law_draw T) T.g_law_draw hr (by decide) rfl pass0 (pa_cons (pv 0) (pa_cons (pe_callB call_lenW rfl T.f_len boot_len (pa_cons (pv 1) pa_nil)) pa_nil))) (fun _ _ => rfl))))))), ?_⟩
  obtain ⟨p, rfl, rfl, rfl, hp, h⟩ := h
  walk_at "go"
  intro r H1 hr hp1 b1
  have hr5 : r < 5 := hr
  have h62 : (r : Int) < 2 ^ 62 := Int.lt_trans (show (r : Int) < 5 by omega) (by decide)
  refine ⟨(r : Int), rfl, by omega, h62, fun D hD => ?_⟩
  have nDp : D ≠ p := by
    obtain ⟨xs, e⟩ := hp1.at_
    exact (ne_of_none e hD).symm
  refine lc_it (walk_range (lo := 0) (n := (r : Int).toNat)) (fun i H' => Hold (∃ w : List Nat, w.length = i ∧ w.all isIt = true ∧ H' D = some (.lst ((w.map fun c => [c]).map vS)) ∧ Pool H' p ∧ ∀ b o, H1 b = some o → b ≠ p → H' b = some o)) (.mk ⟨[], rfl, rfl, upd_same, hp1.same (Same.new hD), fun b o e _ => Same.new hD b o e⟩) (fun _ _ _ _ => trivial) (fun i x H2 H3 hi pv y => ?_) fun H2 pv => ?_
  · obtain ⟨rfl, rfl⟩ := y
    obtain ⟨w', hw, hit, hD2, hp2, fr⟩ := pv.out
    walk_at "go"
    intro r2 H4 hr2 hp4 b4
    have hr2' : r2 < 2 := hr2
    obtain ⟨c, hc, hci⟩ : ∃ c, atI [97, 98] (r2 : Int) = some c ∧ isIt c = true := by
      obtain rfl | rfl : r2 = 0 ∨ r2 = 1 := by omega
      · exact ⟨97, rfl, rfl⟩
      · exact ⟨98, rfl, rfl⟩
    have hD4 := b4 _ _ hD2 nDp
    have lz : ((w'.map fun c => [c]).map vS).length < sizeLine := by
      rw [List.length_map, List.length_map]
      exact small20 (by omega)
    walk_at "go"
    refine .mk ⟨w' ++ [c], by rw [List.length_append, hw]; rfl, by rw [List.all_append, hit, List.all_cons, hci]; rfl, ?_, ?_, fun b o e n => ?_⟩
    · rw [upd_same, List.map_append, List.map_append]; rfl
    · obtain ⟨x, y, e, rr⟩ := hp4
      exact ⟨x, y, by rw [upd_ne nDp.symm]; exact e, rr⟩
    · rw [upd_ne (ne_of_none e hD)]
      exact b4 _ _ (fr b o e n) n
  · obtain ⟨w', hw, hit, hD2, hp2, fr⟩ := pv.out
    have hw4 : w'.length ≤ 4 := by omega
    walk_at "go"
    refine ⟨by rw [sumS]; omega, ?_⟩
    rw [flS]
    exact h w' _ hw4 hit hp2 (b1.trans fun b o e n => fr b o e n)
def sp_law_any_steps (K : PySem.W.Frag) : Sp := S3 fun a b c H Q _ => ∃ (p : Addr) (q : List Nat) (m : Nat), a = .ref p ∧ b = vS q ∧ c = .int m ∧ m ≤ 50 ∧ Pool H p ∧ q.length ≤ 4000 ∧ q.all isIt = true ∧
  ∀ (f : Addr) (st : List Step) H', H f = none → StL H' f st → st.length ≤ m → (∀ s ∈ st, s.ok) → Pool H' p → But p H H' → Q (.ref f) H'
theorem ok_law_any_steps (T : Tx K mg) : Fx P w K mg base CX0 3 (A_law_any_steps K) (sp_law_any_steps K) := by
  obtain ⟨fd, F⟩ := T.D_law_any_steps
  refine fx_of F sc_law_any_steps (F.bindsN fun _ _ _ _ _ _ us hl => match us, hl with | [_, _, _], _ => rfl) S3.len fun cdv A outer s H vs Q E hr h => ?_
  obtain ⟨a0, a1, a2, rfl, h⟩ := h
  refine ⟨_, PSs.nox (pss_cons (ps_set (i := 3) sc_law_any_steps.nd rfl (.inl rfl) (pe_lst pa_nil))
    (pss_cons (ps_for PassesOwn.never rfl (pi_range1 rfl T.f_range (pa_cons (pcall (ok_law_draw T) T.g_law_draw hr (by decide) rfl pass0 (pa_cons (pv 0) (pa_cons (pe_op op_add (pv 2) pe_int) pa_nil))) pa_nil)) (pg_name (i := 4) sc_law_any_steps.nd rfl (.inl rfl)) (pss_cons (ps_set (i := 5) sc_law_any_steps.nd rfl (.inl rfl) (pcall (ok_law_any_step T) T.g_law_any_step hr (by decide) rfl pass0 (pa_cons (pv 0) (pa_cons (pv 1) pa_nil))))
    (pss_cons (ps_expr (pe_bm PySem.F.plainAttrs_list PySem.F.slot_list_append PySem.F.type_list_append mt_append (pv 3) (pa_cons (pv 5) pa_nil)))
    (pss_one (ps_if (pt_cmpR op_eqW (pe_ix ix_strW (pv 5) pe_int (fun _ _ => rfl)) (pe_sC [43] (by decide +kernel)) (nomark _)) (pss_one (ps_set (i := 1) sc_law_any_steps.nd rfl (.inl rfl) (pe_op op_addW (pv 1) (pe_ix ix_strW (pv 5) pe_int (fun _ _ => rfl))))) (pss_one (ps_if (pt_cmpR op_eqW (pe_slice sl_strW (pv 1) po_none (po_some pe_int)) (pe_ix ix_strW (pv 5) pe_int (fun _ _ => rfl)) (nomark _)) (pss_one (ps_set (i := 1) sc_law_any_steps.nd rfl (.inl rfl) (pe_slice sl_strW (pv 1) (po_some (pe_callTy call_int1 rfl T.f_int boot_int (pa_cons (pe_cmpR op_eqW (pe_ix ix_strW (pv 5) pe_int (fun _ _ => rfl)) (pe_sC [45] (by decide +kernel)) (nomark _)) pa_nil))) po_none))) pss_nil)))))))
    (pss_one (ps_ret (pv 3))))), ?_⟩
  obtain ⟨p, q, m, rfl, rfl, rfl, hm, hp, hl, hq, h⟩ := h
  walk_at "go"
  intro f hf
  have kf := upd_same (H := H) (a := f) (o := .lst [])
  have s1 := Same.new (o := .lst []) hf
  have npf : f ≠ p := by
    obtain ⟨xs, e⟩ := hp.at_
    exact (ne_of_none e hf).symm
  generalize upd H f (.lst []) = H1 at kf s1 ⊢
  have hp1 := hp.same s1
  have hm1 : m + 1 < 100000 := by omega
  have em : ((m : Nat) : Int) + 1 = ((m + 1 : Nat) : Int) := rfl
  walk_at "go"
  intro r H2 hr hp2 b2
  have hr' : r < m + 1 := hr
  have h62 : (r : Int) < 2 ^ 62 := Int.lt_trans (show (r : Int) < 100 by omega) (by decide)
  have kf2 := b2 _ _ kf npf
  refine ⟨(r : Int), rfl, by omega, h62, ?_⟩
  refine for_it (walk_range (lo := 0) (n := (r : Int).toNat)) (fun i σ' H' => Hold (∃ (st : List Step) (q' : List Nat) (x1 x2 : Option V), st.length = i ∧ (∀ s ∈ st, s.ok) ∧ q'.length ≤ q.length + i ∧ q'.all isIt = true ∧ StL H' f st ∧ Pool H' p ∧ But p H H' ∧ σ' = [some (.ref p), some (vS q'), some (.int m), some (.ref f), x1, x2]))
    (.mk ⟨[], q, _, _, rfl, (fun _ z => nomatch z), by omega, hq, kf2, hp2, (But.same s1).trans b2, rfl⟩) (fun _ _ _ _ _ => trivial) (fun i x σ' H3 H4 hi pv y => ?_) fun σ' H3 pv => ?_
  · obtain ⟨rfl, rfl⟩ := y
    obtain ⟨st0, q', x1, x2, hl1, hok, hql, hqi, hf3, hp3, fr, rfl⟩ := pv.out
    have hi' : i < 100 := by omega
    walk_at "go"
    intro s0 H5 hs0 hp5 b5
    have hf5 := b5 _ _ hf3 npf
    have lz : (st0.map vT).length < sizeLine := small20 (by rw [List.length_map]; omega)
    obtain ⟨g, c0⟩ := s0
    have fin : ∀ (q2 : List Nat) (y1 y2 : Option V), q2.length ≤ q.length + (i + 1) → q2.all isIt = true → Hold (∃ (st : List Step) (q' : List Nat) (x1 x2 : Option V), st.length = i + 1 ∧ (∀ s ∈ st, s.ok) ∧ q'.length ≤ q.length + (i + 1) ∧ q'.all isIt = true ∧ StL (upd H5 f (.lst (st0.map vT ++ [vT (g, c0)]))) f st ∧ Pool (upd H5 f (.lst (st0.map vT ++ [vT (g, c0)]))) p ∧ But p H (upd H5 f (.lst (st0.map vT ++ [vT (g, c0)]))) ∧
        ([some (.ref p), some (vS q2), some (.int m), some (.ref f), y1, y2] : L2.St) = [some (.ref p), some (vS q'), some (.int m), some (.ref f), x1, x2]) := fun q2 y1 y2 e1 e2 => by
      refine .mk ⟨st0 ++ [(g, c0)], q2, y1, y2, by rw [List.length_append, hl1]; rfl, fun z hz => ?_, e1, e2, ?_, ?_, fun b o e n => ?_, rfl⟩
      · rcases List.mem_append.mp hz with z1 | z1
        · exact hok z z1
        · rw [List.mem_singleton.mp z1]; exact hs0
      · show _ = _
        rw [upd_same, List.map_append]; rfl
      · obtain ⟨x, y, e, rr⟩ := hp5
        exact ⟨x, y, by rw [upd_ne npf.symm]; exact e, rr⟩
      · rw [upd_ne (ne_of_none e hf)]
        exact b5 _ _ (fr b o e n) n
    walk_at "go"
    refine ite_d (fun c => ?_) fun c => ?_
    · walk_at "go"
      exact fin _ _ _ (by rw [List.length_append, List.length_singleton]; omega) (by rw [List.all_append, hqi, List.all_cons, hs0.2]; rfl)
    · walk_at "go"
      refine ite_d (fun c2 => ?_) fun c2 => ?_
      · walk_at "go"
        refine .inr ⟨_, rfl, ?_⟩
        have nn : NN (some (if decide ([g] = [45]) = true then (1 : Int) else 0)) := NN.some (by split <;> omega)
        walk_at "go"
        refine fin _ _ _ ?_ ?_
        · show (q'.drop _).length ≤ _
          rw [List.length_drop]; omega
        · show (q'.drop _).all isIt = true
          rw [List.all_eq_true] at hqi ⊢
          exact fun x hx => hqi x (List.mem_of_mem_drop hx)
      · walk_at "go"
        exact fin _ _ _ (by omega) hqi
  · obtain ⟨st, q', x1, x2, hl1, hok, hql, hqi, hf3, hp3, fr, rfl⟩ := pv.out
    walk_at "go"
    exact h f st _ hf hf3 (by omega) hok hp3 fr
end
end Qe

namespace Qe
open PySem PySem.Spec PyProof.Rows L2 He
/-! ## the law's model of a session -/
structure MdA where
  qa : Addr
  la : Addr
  ma : Addr
  aa : Addr
def modE (z : MdA) : List (Key × V) := [(.inr "queues", .ref z.qa), (.inr "log", .ref z.la), (.inr "marks", .ref z.ma), (.inr "attempts", .ref z.aa), (.inr "most", .int 2100)]
structure isMod (K : PySem.W.Frag) (H : Hp) (d : Addr) (z : MdA) (qs : List (List Nat)) (log : List Step) (mk : List Mk1) (at_ : List (Nat × Nat)) : Prop where
  o : H d = some (.dK (modE z))
  q : H z.qa = some (.lst (qs.map vS))
  l : StL H z.la log
  m : H z.ma = some (.dK (mkK mk))
  a : Rows K H z.aa (at_.map rowA)
  nm : z.ma ≠ d
section
variable {K : PySem.W.Frag} {H H' : Hp} {d : Addr} {z : MdA} {qs : List (List Nat)} {log : List Step} {mk : List Mk1} {at_ : List (Nat × Nat)}
theorem isMod.same (h : isMod K H d z qs log mk at_) (e : Same H H') : isMod K H' d z qs log mk at_ := ⟨e _ _ h.o, e _ _ h.q, e _ _ h.l, e _ _ h.m, h.a.same e, h.nm⟩
theorem mod_q (h : H d = some (.dK (modE z))) : DGet H d (.str "queues") (some (.ref z.qa)) := DGet.k (k := .inr "queues") h
theorem mod_l (h : H d = some (.dK (modE z))) : DGet H d (.str "log") (some (.ref z.la)) := DGet.k (k := .inr "log") h
theorem mod_m (h : H d = some (.dK (modE z))) : DGet H d (.str "marks") (some (.ref z.ma)) := DGet.k (k := .inr "marks") h
theorem mod_a (h : H d = some (.dK (modE z))) : DGet H d (.str "attempts") (some (.ref z.aa)) := DGet.k (k := .inr "attempts") h
theorem mod_n (h : H d = some (.dK (modE z))) : DGet H d (.str "most") (some (.int 2100)) := DGet.k (k := .inr "most") h
theorem put_q (p : Addr) (h : H d = some (.dK (modE z))) : DPut H d (.str "queues") (.ref p) (upd H d (.dK (modE { z with qa := p }))) := DPut.k (k := .inr "queues") h (small20 (by show 5 ≤ 20000; omega))
theorem put_l (p : Addr) (h : H d = some (.dK (modE z))) : DPut H d (.str "log") (.ref p) (upd H d (.dK (modE { z with la := p }))) := DPut.k (k := .inr "log") h (small20 (by show 5 ≤ 20000; omega))
theorem put_m (p : Addr) (h : H d = some (.dK (modE z))) : DPut H d (.str "marks") (.ref p) (upd H d (.dK (modE { z with ma := p }))) := DPut.k (k := .inr "marks") h (small20 (by show 5 ≤ 20000; omega))
theorem put_a (p : Addr) (h : H d = some (.dK (modE z))) : DPut H d (.str "attempts") (.ref p) (upd H d (.dK (modE { z with aa := p }))) := DPut.k (k := .inr "attempts") h (small20 (by show 5 ≤ 20000; omega))
end
theorem merge_mk : ∀ {l a : List Mk1}, ((a ++ l).map (·.1)).Nodup → mergeK (mkK a) (mkK l) = mkK (a ++ l)
  | [], a, _ => by rw [List.append_nil]; rfl
  | m :: r, a, h => by
    show mergeK (putK (mkK a) (kN m.1) (V.int (m.2 : Nat))) (mkK r) = _
    have h2 := h
    rw [List.map_append, List.nodup_append] at h2
    rw [putK_mk, putM_new (fun x hx e => h2.2.2 _ (List.mem_map.mpr ⟨x, hx, rfl⟩) _ (by rw [List.map_cons]; exact List.mem_cons_self) e)]
    rw [merge_mk (l := r) (a := a ++ [(m.1, m.2)]) (by rw [List.append_assoc]; exact h), List.append_assoc]
    rfl
theorem dget_rd {H : Hp} {a : Addr} {mk : List Mk1} {m : Mk1} (h : Rd H a (.dK (mkK mk))) (nd : (mk.map (·.1)).Nodup) (hm : m ∈ mk) : DGet H a (vS [m.1]) (some (V.int (m.2 : Nat))) := by
  refine .inl ⟨mkK mk, kN m.1, h, rfl, ?_⟩
  rw [valV_mk, mLook_of nd (p := m.2) hm]
  rfl
theorem keys_get {mk : List Mk1} {i : Nat} {k : Key} {v : V} (e : (mkK mk)[i]? = some (k, v)) : ∃ m, mk[i]? = some m ∧ kV k = vS [m.1] ∧ v = V.int (m.2 : Nat) := by
  unfold mkK at e
  rw [List.getElem?_map] at e
  cases h : mk[i]? with
  | none => rw [h] at e; cases e
  | some m =>
    rw [h] at e
    cases e
    exact ⟨m, rfl, rfl, rfl⟩
theorem rowsA_ok (at_ : List (Nat × Nat)) : rowsOk (at_.map rowA) = true := by
  unfold rowsOk
  rw [List.all_map, List.all_eq_true]
  exact fun x _ => rfl
def rowM (m : Mk1) : List FD := [.s [m.1], .i m.2]
theorem pair_rows {H : Hp} : ∀ {mk : List Mk1} {ts : List Addr}, Paired (fun (t : Addr) (q : Key × V) => H t = some (.tup [kV q.1, q.2])) ts (mkK mk) → Paired (fun t (r : List FD) => H t = some (.tup (r.map FD.v))) ts (mk.map rowM)
  | [], _, .nil => .nil
  | _ :: _, _, .cons p r => .cons p (pair_rows r)
theorem rowsM_ok {mk : List Mk1} (h : ∀ m ∈ mk, m.1 < 1000) : rowsOk (mk.map rowM) = true := by
  unfold rowsOk
  rw [List.all_map, List.all_eq_true]
  intro x hx
  have := h x hx
  show (([x.1].all fun c => decide (c < 0x110000)) && (true && true)) = true
  rw [List.all_cons, decide_eq_true (by omega)]
  rfl
def failW : List Nat := [102, 97, 105, 108, 101, 100]
/-- what the law makes of a failed step -/
def Efail (K : PySem.W.Frag) (Q : VK) : XK := fun cls d H => cls = .ref (ga K "StepFailed") ∧ ∃ (dd : Addr) (i : Int), d = some dd ∧ H dd = some (.xd [("position", .int i)]) ∧ ∀ g, H g = none → Q (.ref g) (upd H g (.lst [vS failW, .int i]))
def nextL (q : List Nat) (s : Step) : List V := match after q s with
  | some r => [vS r, .non]
  | none => [.non, vS failW]
end Qe

namespace Qe
open PySem PySem.Spec PyProof.Rows L2 He
local macro_rules | `(tactic| walk_at "lk") => `(tactic| first
  | assumption
  | exact upd_same
  | (refine (upd_ne (by assumption)).trans ?_; walk_at "lk"))
local macro_rules | `(tactic| walk_at "sd") => `(tactic| first
  | rfl
  | assumption
  | exact SqL.of (by walk_at "lk")
  | exact .inl (SqL.of (by assumption))
  | exact SqT.of (by assumption)
  | exact ⟨_, SqL.of (by assumption)⟩
  | exact .inr (SqT.of (by assumption))
  | exact .inl ⟨rfl, _, SqL.of (by assumption)⟩
  | exact upd_same
  | (refine (upd_ne (by assumption)).trans ?_; walk_at "lk")
  | exact ⟨_, rfl⟩
  | exact NN.none
  | exact NN.some (by omega)
  | exact lt1
  | exact lt2
  | exact lt3
  | exact lt4
  | exact sz0
  | exact sz1
  | exact sz2
  | exact sz3
  | exact sz4
  | exact small20 (by first | omega | (rw [List.length_map]; omega))
  | exact True.intro
  | omega
  | (dsimp only [List.length_cons, List.length_nil]; omega))
local macro_rules | `(tactic| walk_at "go") => `(tactic| first
  | ((with_reducible refine tSeq_i ?_); walk_at "go")
  | ((with_reducible refine gName_i ?_); walk_at "go")
  | ((with_reducible refine tNext_i ?_); walk_at "go")
  | ((with_reducible refine iteT ?_); walk_at "go")
  | ((with_reducible refine iteF ?_); walk_at "go")
  | (with_reducible refine (show tLockE _ _ _ _ from ?_))
  | (with_reducible refine (show tLock _ _ _ _ from ?_))
  | (with_reducible refine (show (∃ W : Nat → Nat → L2.St → Hp → Prop, _) from ?_))
  | (with_reducible refine (show C8.tCut _ _ _ _ _ from ?_))
  | (with_reducible refine (show tWhile _ _ _ _ _ from ?_))
  | (apply Exists.intro; walk_at "go")
  | (apply And.intro; (focus (walk_at "sd")); walk_at "go")
  | skip)

section
variable {P : Program} {w : World} {K : PySem.W.Frag}
      {mg : Str → Option Value} {base : Heap}

def sp_law_model (K : PySem.W.Frag) : Sp := S2 fun a b H Q _ => ∃ (q : List Nat), a = vS q ∧ b = .int 2100 ∧
  ∀ d z H', H d = none → isMod K H' d z [q] [] [] [] → H z.qa = none → H z.la = none → H z.ma = none → H z.aa = none → Same H H' → Q (.ref d) H'
theorem ok_law_model (T : Tx K mg) : Fx P w K mg base CX0 1 (A_law_model K) (sp_law_model K) := by
  obtain ⟨fd, F⟩ := T.D_law_model
  refine fx_of F sc_law_model (F.bindsN fun _ _ _ _ _ _ us hl => match us, hl with | [_, _], _ => rfl) S2.len fun cdv A outer s H vs Q E hr h => ?_
  obtain ⟨a0, a1, rfl, h⟩ := h
  refine ⟨_, PSs.nox (pss_one (ps_ret (pe_disp (pps_cons pe_str (pe_lst (pa_cons (pv 0) pa_nil)) (pps_cons pe_str (pe_lst pa_nil) (pps_cons pe_str pe_dnewK (pps_cons pe_str (pe_lst pa_nil) (pps_cons pe_str (pv 1) pps_nil))))) (by rfl) (by rfl) (fun z => by cases z) (by decide)))), ?_⟩
  obtain ⟨q, rfl, rfl, h⟩ := h
  walk_at "go"
  intro d hd
  have b0 : Bld d H (upd H d (.dK [])) [] := Bld.refl (Same.new hd)
  have k0 : (upd H d (.dK [])) d = some (.dK []) := upd_same
  generalize upd H d (.dK []) = H0 at b0 k0 ⊢
  have back : ∀ {H1 : Hp} {ns : List (Addr × HO)} {p : Addr}, Bld d H H1 ns → d ≠ p → H1 p = none → H p = none := fun {H1 ns p} b n e => by
    cases e2 : H p with
    | none => rfl
    | some o => rw [b.but _ _ e2 n.symm] at e; cases e
  walk_at "go"
  intro p1 h1
  have n1 := ne_of_none k0 h1
  have b1 := b0.new (o := .lst [vS q]) k0 h1
  have k1 := (upd_ne (o := .lst [vS q]) n1).trans k0
  have r1 := back b0 n1 h1
  generalize upd H0 p1 (.lst [vS q]) = H1 at b1 k1 ⊢
  walk_at "go"
  intro p2 h2
  have n2 := ne_of_none k1 h2
  have b2 := b1.new (o := .lst []) k1 h2
  have k2 := (upd_ne (o := .lst []) n2).trans k1
  have r2 := back b1 n2 h2
  generalize upd H1 p2 (.lst []) = H2 at b2 k2 ⊢
  walk_at "go"
  intro p3 h3
  have n3 := ne_of_none k2 h3
  have b3 := b2.new (o := .dK []) k2 h3
  have k3 := (upd_ne (o := .dK []) n3).trans k2
  have r3 := back b2 n3 h3
  generalize upd H2 p3 (.dK []) = H3 at b3 k3 ⊢
  walk_at "go"
  intro p4 h4
  have n4 := ne_of_none k3 h4
  have b4 := b3.new (o := .lst []) k3 h4
  have k4 := (upd_ne (o := .lst []) n4).trans k3
  have r4 := back b3 n4 h4
  generalize upd H3 p4 (.lst []) = H4 at b4 k4 ⊢
  refine ⟨_, rfl, k4, modE ⟨p1, p2, p3, p4⟩, rfl, by show 5 ≤ 15; omega, ?_⟩
  rw [show mergeK [] (modE ⟨p1, p2, p3, p4⟩) = modE ⟨p1, p2, p3, p4⟩ from rfl]
  have b5 := b4.put (o := .dK (modE ⟨p1, p2, p3, p4⟩))
  have j4 := b5.at_ _ (.head _)
  have j3 := b5.at_ _ (.tail _ (.head _))
  have j2 := b5.at_ _ (.tail _ (.tail _ (.head _)))
  have j1 := b5.at_ _ (.tail _ (.tail _ (.tail _ (.head _))))
  refine h d ⟨p1, p2, p3, p4⟩ _ hd ⟨b5.self, j1.1, j2.1, j3.1, ⟨[], j4.1, .nil⟩, n3.symm⟩ r1 r2 r3 r4 fun b o e => b5.but _ _ e (ne_of_none e hd)
def sp_law_next (K : PySem.W.Frag) : Sp := S3 fun a b c H Q _ => ∃ (q : List Nat) (s : Step), a = vS q ∧ b = vT s ∧ c = .int 2100 ∧ q.length < 2100 ∧ s.ok ∧
  ∀ f, H f = none → Q (.ref f) (upd H f (.lst (nextL q s)))
theorem ok_law_next (T : Tx K mg) : Fx P w K mg base CX0 1 (A_law_next K) (sp_law_next K) := by
  obtain ⟨fd, F⟩ := T.D_law_next
  refine fx_of F sc_law_next (F.bindsN fun _ _ _ _ _ _ us hl => match us, hl with | [_, _, _], _ => rfl) S3.len fun cdv A outer s H vs Q E hr h => ?_
  obtain ⟨a0, a1, a2, rfl, h⟩ := h
  refine ⟨_, PSs.nox (pss_cons (ps_if (pt_cmpR op_eqW (pe_ix ix_strW (pv 1) pe_int (fun _ _ => rfl)) (pe_sC [43] (by decide +kernel)) (nomark _)) (pss_one (ps_ret (pe_ifExp (pt_cmpR op_lt (pe_callB call_lenW rfl T.f_len boot_len (pa_cons (pv 0) pa_nil)) (pv 2) (nomark _)) (pe_lst (pa_cons (pe_op op_addW (pv 0) (pe_ix ix_strW (pv 1) pe_int (fun _ _ => rfl))) (pa_cons pe_non pa_nil))) (pe_lst (pa_cons pe_non (pa_cons (pe_sC [108, 105, 109, 105, 116] (by decide +kernel)) pa_nil)))))) pss_nil)
    (pss_cons (ps_if (PW.pt (pw_or (pt_cmpR op_eqW (pv 0) (pe_sC [] (by decide +kernel)) (nomark _)) (pw_or1 (pt_cmpR op_neW (pe_ix ix_strW (pv 0) pe_int (fun _ _ => rfl)) (pe_ix ix_strW (pv 1) pe_int (fun _ _ => rfl)) (nomark _))))) (pss_one (ps_ret (pe_lst (pa_cons pe_non (pa_cons (pe_sC [102, 97, 105, 108, 101, 100] (by decide +kernel)) pa_nil))))) pss_nil)
    (pss_one (ps_ret (pe_lst (pa_cons (pe_slice sl_strW (pv 0) (po_some (pe_callTy call_int1 rfl T.f_int boot_int (pa_cons (pe_cmpR op_eqW (pe_ix ix_strW (pv 1) pe_int (fun _ _ => rfl)) (pe_sC [45] (by decide +kernel)) (nomark _)) pa_nil))) po_none) (pa_cons pe_non pa_nil))))))), ?_⟩
  obtain ⟨q, ⟨g, c⟩, rfl, rfl, rfl, hq, hok, h⟩ := h
  unfold nextL after at h
  walk_at "go"
  refine ite_d (fun e1 => ?_) fun e1 => ?_
  · rw [if_pos (List.cons.inj e1).1] at h
    walk_at "go"
    refine ite_d (fun _ => ?_) fun z => (z (by omega)).elim
    walk_at "go"
    exact h
  · rw [if_neg (fun z => e1 (by rw [z]))] at h
    walk_at "go"
    refine ite_d (fun e2 => ?_) fun e2 => ?_
    · cases e2
      walk_at "go"
      exact h
    · match q, e2 with
      | x :: t, _ =>
      have hx0 : atI (x :: t) 0 = some x := atI_nat (j := 0) rfl
      walk_at "go"
      refine ite_n (fun e3 => ?_) fun e3 => ?_
      · rw [if_pos (show List.take 1 (x :: t) ≠ [c] from e3)] at h
        walk_at "go"
        exact h
      · rw [if_neg (show ¬ List.take 1 (x :: t) ≠ [c] from fun z => z e3)] at h
        walk_at "go"
        refine .inr ⟨_, rfl, ?_⟩
        have nn : NN (some (if decide ([g] = [45]) = true then (1 : Int) else 0)) := NN.some (by split <;> omega)
        walk_at "go"
        rcases hok.1 with eg | eg | eg
        · exact absurd (show [g] = [43] by rw [show g = 43 from eg]) e1
        · subst eg
          exact h
        · subst eg
          exact h
end
end Qe

namespace Qe
open PySem PySem.Spec PyProof.Rows L2 He
local macro_rules | `(tactic| walk_at "lk") => `(tactic| first
  | assumption
  | exact upd_same
  | (refine (upd_ne (by assumption)).trans ?_; walk_at "lk"))
local macro_rules | `(tactic| walk_at "sd") => `(tactic| first
  | rfl
  | assumption
  | exact SqL.of (by walk_at "lk")
  | exact .inl (SqL.of (by assumption))
  | exact SqT.of (by assumption)
  | exact ⟨_, SqL.of (by assumption)⟩
  | exact .inr (SqT.of (by assumption))
  | exact .inl ⟨rfl, _, SqL.of (by assumption)⟩
  | exact upd_same
  | (refine (upd_ne (by assumption)).trans ?_; walk_at "lk")
  | exact ⟨_, rfl⟩
  | exact NN.none
  | exact NN.some (by omega)
  | exact lt1
  | exact lt2
  | exact lt3
  | exact lt4
  | exact sz0
  | exact sz1
  | exact sz2
  | exact sz3
  | exact sz4
  | exact small20 (by first | omega | (rw [List.length_map]; omega))
  | exact True.intro
  | omega
  | (dsimp only [List.length_cons, List.length_nil]; omega))
local macro_rules | `(tactic| walk_at "go") => `(tactic| first
  | ((with_reducible refine tSeq_i ?_); walk_at "go")
  | ((with_reducible refine gName_i ?_); walk_at "go")
  | ((with_reducible refine tNext_i ?_); walk_at "go")
  | ((with_reducible refine iteT ?_); walk_at "go")
  | ((with_reducible refine iteF ?_); walk_at "go")
  | (with_reducible refine (show tLockE _ _ _ _ from ?_))
  | (with_reducible refine (show tLock _ _ _ _ from ?_))
  | (with_reducible refine (show (∃ W : Nat → Nat → L2.St → Hp → Prop, _) from ?_))
  | (with_reducible refine (show C8.tCut _ _ _ _ _ from ?_))
  | (with_reducible refine (show tWhile _ _ _ _ _ from ?_))
  | (apply Exists.intro; walk_at "go")
  | (apply And.intro; (focus (walk_at "sd")); walk_at "go")
  | skip)

section
variable {P : Program} {w : World} {K : PySem.W.Frag}
      {mg : Str → Option Value} {base : Heap}

def sp_law_runs (K : PySem.W.Frag) : Sp := S2 fun a b H Q _ => ∃ (d : Addr) (z : MdA) (qs : List (List Nat)) (q : List Nat) (p : Addr) (st : List Step), a = .ref d ∧ b = .ref p ∧ H d = some (.dK (modE z)) ∧ H z.qa = some (.lst (qs.map vS)) ∧ qs.getLast? = some q ∧
  StL H p st ∧ (∀ s ∈ st, s.ok) ∧ st.length ≤ 100 ∧ q.length + st.length ≤ 2100 ∧
  (∀ r, runS q st = some r → ∀ f t H', H f = none → H' f = some (.lst (([q] ++ traceR q st).map vS)) → H' t = some (.tup [.ref f, .non]) → Same H H' → Q (.ref t) H') ∧
  (∀ i qi s, runS q (st.take i) = some qi → st[i]? = some s → after qi s = none → ∀ f g t H', H f = none → H' f = some (.lst (([q] ++ traceR q (st.take i)).map vS)) → H' g = some (.lst [vS failW, .int (i : Nat)]) → H' t = some (.tup [.ref f, .ref g]) → Same H H' → Q (.ref t) H')
theorem ok_law_runs (T : Tx K mg) : Fx P w K mg base CX0 2 (A_law_runs K) (sp_law_runs K) := by
  obtain ⟨fd, F⟩ := T.D_law_runs
  refine fx_of F sc_law_runs (F.bindsN fun _ _ _ _ _ _ us hl => match us, hl with | [_, _], _ => rfl) S2.len fun cdv A outer s H vs Q E hr h => ?_
  obtain ⟨a0, a1, rfl, h⟩ := h
  refine ⟨_, PSs.nox (pss_cons (ps_set (i := 2) sc_law_runs.nd rfl (.inl rfl) (pe_lst (pa_cons (pe_ix ix_list (pe_dget (hu_of hr) (pv 0) pe_str (fun _ _ => rfl)) (pe_un un_neg pe_int) (fun _ _ => rfl)) pa_nil)))
    (pss_cons (ps_for PassesOwn.never rfl (pi_enum rfl T.f_enumerate (pa_cons (pv 1) pa_nil)) (pg_tup rfl (pgs_cons (pg_name (i := 3) sc_law_runs.nd rfl (.inl rfl)) (pgs_cons (pg_name (i := 4) sc_law_runs.nd rfl (.inl rfl)) pgs_nil))) (pss_cons (ps_asg (pcall (ok_law_next T) T.g_law_next hr (by decide) rfl pass0 (pa_cons (pe_ix ix_list (pv 2) (pe_un un_neg pe_int) (fun _ _ => rfl)) (pa_cons (pv 4) (pa_cons (pe_dget (hu_of hr) (pv 0) pe_str (fun _ _ => rfl)) pa_nil)))) (pg_lst rfl (pgs_cons (pg_name (i := 5) sc_law_runs.nd rfl (.inl rfl)) (pgs_cons (pg_name (i := 6) sc_law_runs.nd rfl (.inl rfl)) pgs_nil))))
    (pss_cons (ps_if (pt_cmpR op_notN (pv 6) pe_non (nomark _)) (pss_one (ps_ret (pe_tup (pa_cons (pv 2) (pa_cons (pe_lst (pa_cons (pv 6) (pa_cons (pe_ifExp (pt_cmpR op_eqW (pv 6) (pe_sC [102, 97, 105, 108, 101, 100] (by decide +kernel)) (nomark _)) (pv 3) (pe_dget (hu_of hr) (pv 0) pe_str (fun _ _ => rfl))) pa_nil))) pa_nil))))) pss_nil)
    (pss_one (ps_expr (pe_bm PySem.F.plainAttrs_list PySem.F.slot_list_append PySem.F.type_list_append mt_append (pv 2) (pa_cons (pv 5) pa_nil)))))))
    (pss_one (ps_ret (pe_tup (pa_cons (pv 2) (pa_cons pe_non pa_nil))))))), ?_⟩
  obtain ⟨d, z, qs, q, p, st, rfl, rfl, hd, hqa, hlast, hp, hok, hl, hlen, hS, hF⟩ := h
  have hla := last_map hlast
  have g1 := mod_q hd
  walk_at "go"
  intro f hf
  have kf := upd_same (H := H) (a := f) (o := .lst [vS q])
  have s0 := Same.new (o := .lst [vS q]) hf
  generalize upd H f (.lst [vS q]) = H0 at kf s0 ⊢
  have hp0 := s0 _ _ hp
  walk_at "go"
  refine for_enumL (xs := st.map vT) (fun i σ' H' => Hold (Same H H' ∧ ∃ qi x y u v, runS q (st.take i) = some qi ∧ H' f = some (.lst (([q] ++ traceR q (st.take i)).map vS)) ∧ σ' = [some (.ref d), some (.ref p), some (.ref f), x, y, u, v])) (.mk ⟨s0, _, _, _, _, _, rfl, kf, rfl⟩) (fun i σ' H' _ q => SqL.of (q.out.1 _ _ hp)) (fun i x σ' H1 T H2 hx pv hT hT2 s2 => ?_) fun σ' H1 pv => ?_
  · obtain ⟨s1, qi, x1, y1, u1, v1, hqi, hf1, rfl⟩ := pv.out
    obtain ⟨s, hs, rfl⟩ := map_get hx
    have hil : i < st.length := (List.getElem?_eq_some_iff.mp hs).1
    have hlq := runS_len hqi
    rw [List.length_take] at hlq
    have hq2 : qi.length < 2100 := by omega
    have sok := hok s (List.mem_of_getElem? hs)
    have hf2 := s2 _ _ hf1
    have hla2 := last_map (trace_last (qs := [q]) rfl hqi)
    have g2 := mod_n (s2 _ _ (s1 _ _ hd))
    walk_at "go"
    intro g hg
    have s3 := s2.trans (Same.new (o := .lst (nextL qi s)) hg)
    have kg := upd_same (H := H2) (a := g) (o := .lst (nextL qi s))
    have hf3 := (Same.new (o := .lst (nextL qi s)) hg) _ _ hf2
    generalize upd H2 g (.lst (nextL qi s)) = H3 at s3 kg hf3 ⊢
    unfold nextL at kg
    cases ea : after qi s with
    | none =>
      rw [ea] at kg
      walk_at "go"
      intro p1 h1
      have s4 := Same.new (o := .lst [vS failW, .int (i : Nat)]) h1
      have kp := upd_same (H := H3) (a := p1) (o := .lst [vS failW, .int (i : Nat)])
      show (fun H4 => _) (upd H3 p1 (.lst [vS failW, .int (i : Nat)]))
      generalize upd H3 p1 (.lst [vS failW, .int (i : Nat)]) = H4 at s4 kp ⊢
      walk_at "go"
      intro t ht
      have s5 := Same.new (o := .tup [.ref f, .ref p1]) ht
      exact hF i qi s hqi hs ea f p1 t _ hf (s5 _ _ (s4 _ _ hf3)) (s5 _ _ kp) upd_same (((s1.trans s3).trans s4).trans s5)
    | some r =>
      rw [ea] at kg
      have lz : (([q] ++ traceR q (st.take i)).map vS).length < sizeLine := by
        refine small20 ?_
        rw [List.length_map, List.length_append, trace_len hqi, List.length_take]
        show 1 + _ ≤ 20000
        omega
      walk_at "go"
      refine .mk ⟨(s1.trans s3).updN hf, r, _, _, _, _, by rw [take_snoc hs, runS_snoc, hqi]; exact ea, ?_, rfl⟩
      rw [upd_same, take_snoc hs, trace_snoc hqi ea, ← List.append_assoc, List.map_append (l₂ := [r])]
      rfl
  · obtain ⟨s1, qi, x1, y1, u1, v1, hqi, hf1, rfl⟩ := pv.out
    rw [List.length_map, List.take_length] at hqi hf1
    walk_at "go"
    exact fun t ht => hS _ hqi f t _ hf (Same.new ht _ _ hf1) upd_same (s1.trans (Same.new ht))
end
end Qe

namespace Qe
open PySem PySem.Spec PyProof.Rows L2 He
local macro_rules | `(tactic| walk_at "lk") => `(tactic| first
  | assumption
  | exact upd_same
  | (refine (upd_ne (by assumption)).trans ?_; walk_at "lk"))
local macro_rules | `(tactic| walk_at "sd") => `(tactic| first
  | rfl
  | assumption
  | exact SqL.of (by walk_at "lk")
  | exact .inl (SqL.of (by assumption))
  | exact SqT.of (by assumption)
  | exact ⟨_, SqL.of (by assumption)⟩
  | exact .inr (SqT.of (by assumption))
  | exact .inl ⟨rfl, _, SqL.of (by assumption)⟩
  | exact upd_same
  | (refine (upd_ne (by assumption)).trans ?_; walk_at "lk")
  | exact ⟨_, rfl⟩
  | exact NN.none
  | exact NN.some (by omega)
  | exact lt1
  | exact lt2
  | exact lt3
  | exact lt4
  | exact sz0
  | exact sz1
  | exact sz2
  | exact sz3
  | exact sz4
  | exact small20 (by first | omega | (rw [List.length_map]; omega))
  | exact True.intro
  | omega
  | (dsimp only [List.length_cons, List.length_nil]; omega))
local macro_rules | `(tactic| walk_at "go") => `(tactic| first
  | ((with_reducible refine tSeq_i ?_); walk_at "go")
  | ((with_reducible refine gName_i ?_); walk_at "go")
  | ((with_reducible refine tNext_i ?_); walk_at "go")
  | ((with_reducible refine iteT ?_); walk_at "go")
  | ((with_reducible refine iteF ?_); walk_at "go")
  | (with_reducible refine (show tLockE _ _ _ _ from ?_))
  | (with_reducible refine (show tLock _ _ _ _ from ?_))
  | (with_reducible refine (show (∃ W : Nat → Nat → L2.St → Hp → Prop, _) from ?_))
  | (with_reducible refine (show C8.tCut _ _ _ _ _ from ?_))
  | (with_reducible refine (show tWhile _ _ _ _ _ from ?_))
  | (apply Exists.intro; walk_at "go")
  | (apply And.intro; (focus (walk_at "sd")); walk_at "go")
  | skip)

section
variable {P : Program} {w : World} {K : PySem.W.Frag}
      {mg : Str → Option Value} {base : Heap}

def sp_law_add (K : PySem.W.Frag) : Sp := S3 fun a b c H Q _ => ∃ (d : Addr) (z : MdA) (qs : List (List Nat)) (log : List Step) (mk : List Mk1) (at_ : List (Nat × Nat)) (f p : Addr) (q : List Nat) (tr : List (List Nat)) (st : List Step),
  a = .ref d ∧ b = .ref f ∧ c = .ref p ∧ isMod K H d z qs log mk at_ ∧ H f = some (.lst (([q] ++ tr).map vS)) ∧ StL H p st ∧ qs.length + tr.length ≤ 5000 ∧ log.length + st.length ≤ 5000 ∧
  ∀ q2 l2 H', isMod K H' d { z with qa := q2, la := l2 } (qs ++ tr) (log ++ st) mk at_ → H q2 = none → H l2 = none → But d H H' → Q .non H'
theorem ok_law_add (T : Tx K mg) : Fx P w K mg base CX0 1 (A_law_add K) (sp_law_add K) := by
  obtain ⟨fd, F⟩ := T.D_law_add
  refine fx_of F sc_law_add (F.bindsN fun _ _ _ _ _ _ us hl => match us, hl with | [_, _, _], _ => rfl) S3.len fun cdv A outer s H vs Q E hr h => ?_
  obtain ⟨a0, a1, a2, rfl, h⟩ := h
  refine ⟨_, PSs.nox (pss_cons (ps_dput (hu_of hr) (pv 0) pe_str (pe_op op_cat (pe_dget (hu_of hr) (pv 0) pe_str (fun _ _ => rfl)) (pe_slice sl_listN (pv 1) (po_some pe_int) po_none)) rfl)
    (pss_one (ps_dput (hu_of hr) (pv 0) pe_str (pe_op op_cat (pe_dget (hu_of hr) (pv 0) pe_str (fun _ _ => rfl)) (pv 2)) rfl))), ?_⟩
  obtain ⟨d, z, qs, log, mk, at_, f, p, q, tr, st, rfl, rfl, rfl, hM, hf, hp, hl1, hl2, h⟩ := h
  have g1 := mod_q hM.o
  have hq := hM.q
  have hl := hM.l
  have ho := hM.o
  have nqd : z.qa ≠ d := ne_of hq ho (by intro z; cases z)
  have nld : z.la ≠ d := ne_of hl ho (by intro z; cases z)
  have npd : p ≠ d := ne_of hp ho (by intro z; cases z)
  have back : ∀ {H1 : Hp} {ns : List (Addr × HO)} {p : Addr}, Bld d H H1 ns → d ≠ p → H1 p = none → H p = none := fun {H1 ns p} b n e => by
    cases e2 : H p with
    | none => rfl
    | some o => rw [b.but _ _ e2 n.symm] at e; cases e
  have b0 : Bld d H H [] := Bld.refl (Same.refl _)
  walk_at "go"
  intro p1 h1
  have e1 : cutN (([q] ++ tr).map vS) (some 1) none = tr.map vS := rfl
  rw [e1]
  have b1 := b0.new (o := .lst (tr.map vS)) ho h1
  have k1 := upd_same (H := H) (a := p1) (o := .lst (tr.map vS))
  have nd1 := ne_of_none ho h1
  have ho1 := (upd_ne (o := .lst (tr.map vS)) nd1).trans ho
  generalize upd H p1 (.lst (tr.map vS)) = H1 at b1 k1 ho1 ⊢
  have hq1 := b1.but _ _ hq nqd
  have l1 : (qs.map vS).length + (tr.map vS).length < sizeLine := by rw [List.length_map, List.length_map]; exact small20 (by omega)
  walk_at "go"
  intro p2 h2
  have b2 := b1.new (o := .lst (qs.map vS ++ tr.map vS)) ho1 h2
  have nd2 := ne_of_none ho1 h2
  have ho2 := (upd_ne (o := .lst (qs.map vS ++ tr.map vS)) nd2).trans ho1
  generalize upd H1 p2 (.lst (qs.map vS ++ tr.map vS)) = H2 at b2 ho2 ⊢
  have dp := put_q p2 ho2
  walk_at "go"
  have b3 := b2.put (o := .dK (modE { z with qa := p2 }))
  have ho3 := b3.self
  generalize upd H2 d (.dK (modE { z with qa := p2 })) = H3 at b3 ho3 ⊢
  have g3 := mod_l ho3
  have hl3 := b3.but _ _ hl nld
  have hp3 := b3.but _ _ hp npd
  have l2 : (log.map vT).length + (st.map vT).length < sizeLine := by rw [List.length_map, List.length_map]; exact small20 (by omega)
  walk_at "go"
  intro p3 h3
  have b4 := b3.new (o := .lst (log.map vT ++ st.map vT)) ho3 h3
  have nd3 := ne_of_none ho3 h3
  have ho4 := (upd_ne (o := .lst (log.map vT ++ st.map vT)) nd3).trans ho3
  generalize upd H3 p3 (.lst (log.map vT ++ st.map vT)) = H4 at b4 ho4 ⊢
  have dp2 := put_l p3 ho4
  walk_at "go"
  have b5 := b4.put (o := .dK (modE { z with qa := p2, la := p3 }))
  have j1 := b5.at_ _ (.head _)
  have j2 := b5.at_ _ (.tail _ (.head _))
  have hm := hM.m
  obtain ⟨ts, ha1, ha2⟩ := hM.a
  have nad : z.aa ≠ d := ne_of ha1 ho (by intro z; cases z)
  refine h p2 p3 _ ⟨b5.self, ?_, ?_, b5.but _ _ hm hM.nm, ⟨ts, b5.but _ _ ha1 nad, paired_imp (fun t r e => b5.but _ _ e (ne_of e ho (by intro z; cases z))) ha2⟩, hM.nm⟩ ?_ ?_ b5.but
  · show _ = some (HO.lst ((qs ++ tr).map vS))
    rw [List.map_append]; exact j2.1
  · show _ = some (HO.lst ((log ++ st).map vT))
    rw [List.map_append]; exact j1.1
  · exact back b1 nd2 h2
  · exact back b3 nd3 h3
end
end Qe

namespace Qe
open PySem PySem.Spec PyProof.Rows L2 He
local macro_rules | `(tactic| walk_at "lk") => `(tactic| first
  | assumption
  | exact upd_same
  | (refine (upd_ne (by assumption)).trans ?_; walk_at "lk"))
local macro_rules | `(tactic| walk_at "sd") => `(tactic| first
  | rfl
  | assumption
  | exact SqL.of (by walk_at "lk")
  | exact .inl (SqL.of (by assumption))
  | exact SqT.of (by assumption)
  | exact ⟨_, SqL.of (by assumption)⟩
  | exact .inr (SqT.of (by assumption))
  | exact .inl ⟨rfl, _, SqL.of (by assumption)⟩
  | exact upd_same
  | (refine (upd_ne (by assumption)).trans ?_; walk_at "lk")
  | exact ⟨_, rfl⟩
  | exact NN.none
  | exact NN.some (by omega)
  | exact lt1
  | exact lt2
  | exact lt3
  | exact lt4
  | exact sz0
  | exact sz1
  | exact sz2
  | exact sz3
  | exact sz4
  | exact small20 (by first | omega | (rw [List.length_map]; omega))
  | exact True.intro
  | omega
  | (dsimp only [List.length_cons, List.length_nil]; omega))
local macro_rules | `(tactic| walk_at "go") => `(tactic| first
  | ((with_reducible refine tSeq_i ?_); walk_at "go")
  | ((with_reducible refine gName_i ?_); walk_at "go")
  | ((with_reducible refine tNext_i ?_); walk_at "go")
  | ((with_reducible refine iteT ?_); walk_at "go")
  | ((with_reducible refine iteF ?_); walk_at "go")
  | (with_reducible refine (show tLockE _ _ _ _ from ?_))
  | (with_reducible refine (show tLock _ _ _ _ from ?_))
  | (with_reducible refine (show (∃ W : Nat → Nat → L2.St → Hp → Prop, _) from ?_))
  | (with_reducible refine (show C8.tCut _ _ _ _ _ from ?_))
  | (with_reducible refine (show tWhile _ _ _ _ _ from ?_))
  | (apply Exists.intro; walk_at "go")
  | (apply And.intro; (focus (walk_at "sd")); walk_at "go")
  | skip)

section
variable {P : Program} {w : World} {K : PySem.W.Frag}
      {mg : Str → Option Value} {base : Heap}

def sp_law_cut (K : PySem.W.Frag) : Sp := S2 fun a b H Q _ => ∃ (d : Addr) (z : MdA) (qs : List (List Nat)) (log : List Step) (mk : List Mk1) (at_ : List (Nat × Nat)) (n : Nat),
  a = .ref d ∧ b = .int n ∧ isMod K H d z qs log mk at_ ∧ (mk.map (·.1)).Nodup ∧ mk.length ≤ 64 ∧ n ≤ 5000 ∧
  ∀ q2 l2 m2 H', isMod K H' d ⟨q2, l2, m2, z.aa⟩ (qs.take (n + 1)) (log.take n) (mk.filter fun m => decide (m.2 ≤ n)) at_ → H q2 = none → H l2 = none → H m2 = none → But d H H' → Q .non H'
theorem ok_law_cut (T : Tx K mg) : Fx P w K mg base CX0 1 (A_law_cut K) (sp_law_cut K) := by
  obtain ⟨fd, F⟩ := T.D_law_cut
  refine fx_of F sc_law_cut (F.bindsN fun _ _ _ _ _ _ us hl => match us, hl with | [_, _], _ => rfl) S2.len fun cdv A outer s H vs Q E hr h => ?_
  obtain ⟨a0, a1, rfl, h⟩ := h
  refine ⟨_, PSs.nox (pss_cons (ps_dput (hu_of hr) (pv 0) pe_str (pe_slice sl_listN (pe_dget (hu_of hr) (pv 0) pe_str (fun _ _ => rfl)) po_none (po_some (pe_op op_add (pv 1) pe_int))) rfl)
    (pss_cons (ps_dput (hu_of hr) (pv 0) pe_str (pe_slice sl_listN (pe_dget (hu_of hr) (pv 0) pe_str (fun _ _ => rfl)) po_none (po_some (pv 1))) rfl)
    (pss_one (ps_dput (hu_of hr) (pv 0) pe_str (pe_callTy (call_dictP rfl) rfl T.f_dict boot_dict (pa_cons (pe_lock (pe_lc (own := [("_law_name", 2)]) rfl sc_law_cut.nd (pi_keys (pe_dget (hu_of hr) (pv 0) pe_str (fun _ _ => rfl))) (blkOk_by (N := ["_law_model_here", "_law_size", "_law_name"]) (sc := defScope s_law_cut) (by decide +kernel)) (fun _ _ _ _ _ => by exact pg_name (i := 2) sc_law_cut.nd rfl (.inl rfl)) (fun _ _ _ _ _ => by exact pts_one (pt_cmpR op_le (pe_dget (hu_of hr) (by exact (pe_dget (hu_of hr) (by exact (pv 0)) (by exact pe_str) (fun _ _ => rfl))) (by exact (pv 2)) (fun _ _ => rfl)) (pv 1) (nomark _))) (fun _ _ _ _ _ => by exact (pe_tup (pa_cons (pv 2) (pa_cons (pe_dget (hu_of hr) (by exact (pe_dget (hu_of hr) (by exact (pv 0)) (by exact pe_str) (fun _ _ => rfl))) (by exact (pv 2)) (fun _ _ => rfl)) pa_nil)))))) pa_nil)) rfl)))), ?_⟩
  obtain ⟨d, z, qs, log, mk, at_, n, rfl, rfl, hM, nd, hml, hn, h⟩ := h
  have g1 := mod_q hM.o
  have hq := hM.q
  have hl := hM.l
  have ho := hM.o
  have hm := hM.m
  have nqd : z.qa ≠ d := ne_of hq ho (by intro z; cases z)
  have nld : z.la ≠ d := ne_of hl ho (by intro z; cases z)
  have nmd := hM.nm
  have back : ∀ {H1 : Hp} {ns : List (Addr × HO)} {p : Addr}, Bld d H H1 ns → d ≠ p → H1 p = none → H p = none := fun {H1 ns p} b n e => by
    cases e2 : H p with
    | none => rfl
    | some o => rw [b.but _ _ e2 n.symm] at e; cases e
  have b0 : Bld d H H [] := Bld.refl (Same.refl _)
  walk_at "go"
  intro p1 h1
  have e1 : cutN (qs.map vS) none (some ((n : Int) + 1)) = (qs.take (n + 1)).map vS := by rw [List.map_take]; rfl
  rw [e1]
  have b1 := b0.new (o := .lst ((qs.take (n + 1)).map vS)) ho h1
  have nd1 := ne_of_none ho h1
  have ho1 := (upd_ne (o := .lst ((qs.take (n + 1)).map vS)) nd1).trans ho
  generalize upd H p1 (.lst ((qs.take (n + 1)).map vS)) = H1 at b1 ho1 ⊢
  have dp := put_q p1 ho1
  walk_at "go"
  have b2 := b1.put (o := .dK (modE { z with qa := p1 }))
  have ho2 := b2.self
  generalize upd H1 d (.dK (modE { z with qa := p1 })) = H2 at b2 ho2 ⊢
  have g2 := mod_l ho2
  have hl2 := b2.but _ _ hl nld
  walk_at "go"
  intro p2 h2
  have e2 : cutN (log.map vT) none (some (n : Int)) = (log.take n).map vT := by rw [List.map_take]; rfl
  rw [e2]
  have b3 := b2.new (o := .lst ((log.take n).map vT)) ho2 h2
  have nd2 := ne_of_none ho2 h2
  have ho3 := (upd_ne (o := .lst ((log.take n).map vT)) nd2).trans ho2
  generalize upd H2 p2 (.lst ((log.take n).map vT)) = H3 at b3 ho3 ⊢
  have dp2 := put_l p2 ho3
  have r1 := back b0 nd1 h1
  have r2 := back b2 nd2 h2
  have b4 := b3.put (o := .dK (modE { z with qa := p1, la := p2 }))
  have hm4 := b4.but _ _ hm nmd
  walk_at "go"
  intro od
  have ho4 := b4.self
  have kp1 := (b4.at_ _ (.tail _ (.head _))).1
  have kp2 := (b4.at_ _ (.head _)).1
  have nd1' := (b4.at_ _ (.tail _ (.head _))).2.2
  have nd2' := (b4.at_ _ (.head _)).2.2
  generalize upd H3 d (.dK (modE { z with qa := p1, la := p2 })) = H4 at b4 ho4 kp1 kp2 hm4 ⊢
  have f5 : ∀ b o, H4 b = some o → b ≠ z.ma → (upd H4 z.ma (.frz od (.dK (mkK mk)))) b = some o := fun b o e nb => by rw [upd_ne nb]; exact e
  have hm5 : (upd H4 z.ma (.frz od (.dK (mkK mk)))) z.ma = some (.frz od (.dK (mkK mk))) := upd_same
  have ho5 := f5 _ _ ho4 nmd.symm
  generalize upd H4 z.ma (.frz od (.dK (mkK mk))) = H5 at f5 hm5 ho5 ⊢
  have g5 := mod_m ho5
  walk_at "go"
  refine .inl ⟨_, hm5, fun D hD => ?_⟩
  refine lc_it (walk_keys (kvs := mkK mk)) (fun i H' => Hold (Same H5 H' ∧ ∃ ps : List Addr, H' D = some (.lst (ps.map V.ref)) ∧ ps.length ≤ i ∧ Paired (fun p (kv : Key × V) => H' p = some (.tup [kV kv.1, kv.2])) ps (mkK ((mk.take i).filter fun m => decide (m.2 ≤ n))))) (.mk ⟨Same.new hD, [], upd_same, Nat.le_refl _, .nil⟩) (fun i H' _ q => q.out.1 _ _ hm5) (fun i x H2 H3 hi pv y => ?_) fun H2 pv => ?_
  · obtain ⟨rfl, k, v, e3, rfl⟩ := y
    obtain ⟨m, hmi, ek, rfl⟩ := keys_get e3
    rw [ek]
    obtain ⟨s2, ps, hD2, hps, hpa⟩ := pv.out
    have g6 := mod_m (s2 _ _ ho5)
    have dg := dget_rd (.inr ⟨_, s2 _ _ hm5⟩) nd (List.mem_of_getElem? hmi)
    walk_at "go"
    refine ite_d (fun e => ?_) fun e => ?_
    · have e' : decide (m.2 ≤ n) = true := decide_eq_true (by omega)
      walk_at "go"
      intro U hU
      have s6 := Same.new (o := .tup [vS [m.1], .int (m.2 : Nat)]) hU
      have kU := upd_same (H := H3) (a := U) (o := .tup [vS [m.1], .int (m.2 : Nat)])
      have hD3 := s6 _ _ hD2
      generalize upd H3 U (.tup [vS [m.1], .int (m.2 : Nat)]) = H6 at s6 kU hD3 ⊢
      refine ⟨_, hD3, small20 (by rw [List.length_map]; have : i < mk.length := (List.getElem?_eq_some_iff.mp hmi).1; omega), .mk ⟨(s2.trans s6).updN hD, ps ++ [U], by rw [upd_same, List.map_append]; rfl, by rw [List.length_append]; show ps.length + 1 ≤ _; omega, ?_⟩⟩
      have nUD : U ≠ D := fun z => by rw [z, hD2] at hU; cases hU
      rw [filter_snoc _ hmi, if_pos e']
      show Paired _ _ ((((mk.take i).filter _) ++ [m]).map mkE)
      rw [List.map_append]
      refine paired_snoc (R := fun p (kv : Key × V) => (upd H6 D _) p = some (.tup [kV kv.1, kv.2])) ?_ (paired_imp (fun a b e => ?_) hpa)
      · rw [upd_ne nUD]
        exact kU
      · rw [upd_ne (fun z => by rw [z, hD2] at e; cases e)]
        exact s6 _ _ e
    · have e' : ¬ decide (m.2 ≤ n) = true := fun z => e (by have := of_decide_eq_true z; omega)
      refine .mk ⟨s2, ps, hD2, by omega, ?_⟩
      rw [filter_snoc _ hmi, if_neg e']
      exact hpa
  · obtain ⟨s2, ps, hD2, hps, hpa⟩ := pv.out
    rw [mkK_len, List.take_length] at hpa
    have nDd : D ≠ d := (ne_of_none ho5 hD).symm
    have nDm : D ≠ z.ma := (ne_of_none hm5 hD).symm
    have ho6 : (upd H2 z.ma (.dK (mkK mk))) d = _ := (upd_ne nmd.symm).trans (s2 _ _ ho5)
    have hD6 : (upd H2 z.ma (.dK (mkK mk))) D = _ := (upd_ne nDm).trans hD2
    have bt : But d H (upd H2 z.ma (.dK (mkK mk))) := fun b o e nb => by
      by_cases zz : b = z.ma
      · rw [zz] at e ⊢
        rw [hm] at e
        rw [upd_same]
        exact e
      · rw [upd_ne zz]
        exact s2 _ _ (f5 _ _ (b4.but _ _ e nb) zz)
    have np1 : p1 ≠ z.ma := fun e => by rw [e, hm] at r1; cases r1
    have np2 : p2 ≠ z.ma := fun e => by rw [e, hm] at r2; cases r2
    have kp16 : (upd H2 z.ma (.dK (mkK mk))) p1 = _ := (upd_ne np1).trans (s2 _ _ (f5 _ _ kp1 np1))
    have kp26 : (upd H2 z.ma (.dK (mkK mk))) p2 = _ := (upd_ne np2).trans (s2 _ _ (f5 _ _ kp2 np2))
    have hpa6 : Paired (fun p (kv : Key × V) => (upd H2 z.ma (.dK (mkK mk))) p = some (.tup [kV kv.1, kv.2])) ps (mkK (mk.filter fun m => decide (m.2 ≤ n))) := paired_imp (fun a b e => by
      rw [upd_ne (fun zz => by rw [zz, s2 _ _ hm5] at e; cases e)]
      exact e) hpa
    refine ⟨s2 _ _ hm5, ?_⟩
    generalize upd H2 z.ma (.dK (mkK mk)) = H6 at ho6 hD6 bt kp16 kp26 hpa6 ⊢
    refine ⟨D, ps, _, rfl, SqL.of hD6, paired_imp (fun a b e => SqT.of e) hpa6, fun p3 h3 => ?_⟩
    rw [show mergeK [] (mkK (mk.filter fun m => decide (m.2 ≤ n))) = mkK (mk.filter fun m => decide (m.2 ≤ n)) from merge_mk (a := []) (List.Sublist.nodup (List.Sublist.map _ List.filter_sublist) nd)]
    have nd3 := ne_of_none ho6 h3
    have ho7 : (upd H6 p3 (.dK (mkK (mk.filter fun m => decide (m.2 ≤ n))))) d = _ := (upd_ne nd3).trans ho6
    have dp3 := put_m p3 ho7
    have r3 : H p3 = none := by
      cases e : H p3 with
      | none => rfl
      | some o => rw [bt _ _ e nd3.symm] at h3; cases h3
    have bt2 : But d H (upd (upd H6 p3 (.dK (mkK (mk.filter fun m => decide (m.2 ≤ n))))) d (.dK (modE ⟨p1, p2, p3, z.aa⟩))) := fun b o e nb => by
      rw [upd_ne nb, upd_ne (fun zz => by rw [zz, r3] at e; cases e)]
      exact bt _ _ e nb
    walk_at "go"
    obtain ⟨ts, ha1, ha2⟩ := hM.a
    have nad : z.aa ≠ d := ne_of ha1 ho (by intro z; cases z)
    have lk : ∀ b o, H6 b = some o → b ≠ d → (upd (upd H6 p3 (.dK (mkK (mk.filter fun m => decide (m.2 ≤ n))))) d (.dK (modE ⟨p1, p2, p3, z.aa⟩))) b = some o := fun b o e nb => by
      rw [upd_ne nb, upd_ne (fun zz => by rw [zz, h3] at e; cases e)]
      exact e
    exact h p1 p2 p3 _ ⟨upd_same, lk _ _ kp16 nd1', lk _ _ kp26 nd2', by rw [upd_ne nd3.symm, upd_same], ⟨ts, bt2 _ _ ha1 nad, paired_imp (fun t r e => bt2 _ _ e (ne_of e ho (by intro z; cases z))) ha2⟩, nd3.symm⟩ r1 r2 r3 bt2
end
end Qe

namespace Qe
open PySem PySem.Spec PyProof.Rows L2 He
local macro_rules | `(tactic| walk_at "lk") => `(tactic| first
  | assumption
  | exact upd_same
  | (refine (upd_ne (by assumption)).trans ?_; walk_at "lk"))
local macro_rules | `(tactic| walk_at "sd") => `(tactic| first
  | rfl
  | assumption
  | exact SqL.of (by walk_at "lk")
  | exact .inl (SqL.of (by assumption))
  | exact SqT.of (by assumption)
  | exact ⟨_, SqL.of (by assumption)⟩
  | exact .inr (SqT.of (by assumption))
  | exact .inl ⟨rfl, _, SqL.of (by assumption)⟩
  | exact upd_same
  | (refine (upd_ne (by assumption)).trans ?_; walk_at "lk")
  | exact ⟨_, rfl⟩
  | exact NN.none
  | exact NN.some (by omega)
  | exact lt1
  | exact lt2
  | exact lt3
  | exact lt4
  | exact sz0
  | exact sz1
  | exact sz2
  | exact sz3
  | exact sz4
  | exact small20 (by first | omega | (rw [List.length_map]; omega))
  | exact True.intro
  | omega
  | (dsimp only [List.length_cons, List.length_nil]; omega))
local macro_rules | `(tactic| walk_at "go") => `(tactic| first
  | ((with_reducible refine tSeq_i ?_); walk_at "go")
  | ((with_reducible refine gName_i ?_); walk_at "go")
  | ((with_reducible refine tNext_i ?_); walk_at "go")
  | ((with_reducible refine iteT ?_); walk_at "go")
  | ((with_reducible refine iteF ?_); walk_at "go")
  | (with_reducible refine (show tLockE _ _ _ _ from ?_))
  | (with_reducible refine (show tLock _ _ _ _ from ?_))
  | (with_reducible refine (show (∃ W : Nat → Nat → L2.St → Hp → Prop, _) from ?_))
  | (with_reducible refine (show C8.tCut _ _ _ _ _ from ?_))
  | (with_reducible refine (show tWhile _ _ _ _ _ from ?_))
  | (apply Exists.intro; walk_at "go")
  | (apply And.intro; (focus (walk_at "sd")); walk_at "go")
  | skip)

section
variable {P : Program} {w : World} {K : PySem.W.Frag}
      {mg : Str → Option Value} {base : Heap}

def sp_law_shows (K : PySem.W.Frag) : Sp := S2 fun a b H Q _ => ∃ (s : Addr) (c : SesA) (d : Addr) (z : MdA) (qs : List (List Nat)) (q : List Nat) (log : List Step) (mk : List Mk1) (at_ : List (Nat × Nat)), a = .ref s ∧ b = .ref d ∧
  isSes K H s c qs log mk at_ ∧ isMod K H d z qs log mk at_ ∧ qs.getLast? = some q ∧ (∀ s ∈ log, s.ok) ∧ log.length ≤ 5000 ∧ at_.length ≤ 5000 ∧ (mk.map (·.1)).Nodup ∧ mk.length < 64 ∧ (∀ m ∈ mk, m.1 < 1000) ∧
  ∀ H', Same H H' → Q (.bl true) H'
theorem ok_law_shows (T : Tx K mg) : Fx P w K mg base CX0 3 (A_law_shows K) (sp_law_shows K) := by
  obtain ⟨fd, F⟩ := T.D_law_shows
  refine fx_of F sc_law_shows (F.bindsN fun _ _ _ _ _ _ us hl => match us, hl with | [_, _], _ => rfl) S2.len fun cdv A outer s H vs Q E hr h => ?_
  obtain ⟨a0, a1, rfl, h⟩ := h
  refine ⟨_, PSs.nox (pss_cons (ps_asg (pe_tup (pa_cons (pe_ix ix_list (pe_dget (hu_of hr) (pv 1) pe_str (fun _ _ => rfl)) (pe_un un_neg pe_int) (fun _ _ => rfl)) (pa_cons (pe_dget (hu_of hr) (pv 1) pe_str (fun _ _ => rfl)) (pa_cons (pe_dget (hu_of hr) (pv 1) pe_str (fun _ _ => rfl)) pa_nil)))) (pg_tup rfl (pgs_cons (pg_name (i := 2) sc_law_shows.nd rfl (.inl rfl)) (pgs_cons (pg_name (i := 3) sc_law_shows.nd rfl (.inl rfl)) (pgs_cons (pg_name (i := 4) sc_law_shows.nd rfl (.inr rfl)) pgs_nil)))))
    (pss_cons (ps_if (PW.pt (pw_or (pt_cmpR op_neW (pprop (ok_Session_queue T) T.c_Session T.p_Session_queue hr (by decide) pass0 (pv 0) rfl) (pv 2) (nomark _)) (pw_or (pt_cmpR (op_neLF hr.units) (pmeth0 (ok_Session_log T) T.c_Session T.m_Session_log hr (by decide) pass0 (pv 0)) (pv 3) (nomark _)) (pw_or1 (pt_cmpR op_neI (pe_callB (p_lenO (ok_Session_len T) T.len_Session hr (by decide) pass0) rfl T.f_len boot_len (pa_cons (pv 0) pa_nil)) (pe_callB call_len_seq rfl T.f_len boot_len (pa_cons (pv 3) pa_nil)) (nomark _)))))) (pss_one (ps_ret pe_bl)) pss_nil)
    (pss_cons (ps_if (PW.pt (pw_or (pt_cmpR op_neI (pprop (ok_Session_capacity T) T.c_Session T.p_Session_capacity hr (by decide) pass0 (pv 0) rfl) (pe_dget (hu_of hr) (pv 1) pe_str (fun _ _ => rfl)) (nomark _)) (pw_or1 (pt_cmpR (op_neR hr.units) (pmeth0 (ok_Session_attempts T) T.c_Session T.m_Session_attempts hr (by decide) pass0 (pv 0)) (pe_dget (hu_of hr) (pv 1) pe_str (fun _ _ => rfl)) (nomark _))))) (pss_one (ps_ret pe_bl)) pss_nil)
    (pss_one (ps_ret (pe_cmpR (op_eqR hr.units) (LiI.pe_listItems rfl (pmeth0 (ok_Session_marks T) T.c_Session T.m_Session_marks hr (by decide) pass0 (pv 0)) rfl T.f_list boot_list) (pe_lc (own := [("_law_name", 5)]) rfl sc_law_shows.nd (pi_list (pe_callB (call_sortedD rfl) rfl T.f_sorted boot_sorted (pa_cons (pv 4) pa_nil))) (blkOk_by (N := ["_law_session", "_law_model_here", "_law_queue", "_law_log", "_law_marks", "_law_name"]) (sc := defScope s_law_shows) (by decide +kernel)) (fun _ _ _ _ _ => by exact pg_name (i := 5) sc_law_shows.nd rfl (.inl rfl)) (fun _ _ _ _ _ => by exact pts_nil) (fun _ _ _ _ _ => by exact (pe_tup (pa_cons (pv 5) (pa_cons (pe_dget (hu_of hr) (by exact (pv 4)) (by exact (pv 5)) (fun _ _ => rfl)) pa_nil))))) (nomark _))))))), ?_⟩
  obtain ⟨s, c, d, z, qs, q, log, mk, at_, rfl, rfl, hS, hM, hlast, hok, hll, hal, nd, hml, hat, h⟩ := h
  have cl := T.c_Session
  have hla := last_map hlast
  have g1 := mod_q hM.o
  have g2 := mod_l hM.o
  have g3 := mod_m hM.o
  have hqm := hM.q
  walk_at "go"
  intro T0 hT0
  have sT := Same.new (o := .tup [vS q, .ref z.la, .ref z.ma]) hT0
  have kT := upd_same (H := H) (a := T0) (o := .tup [vS q, .ref z.la, .ref z.ma])
  generalize upd H T0 (.tup [vS q, .ref z.la, .ref z.ma]) = H1 at sT kT ⊢
  have hS1 := hS.same sT
  have hM1 := hM.same sT
  have ho := hS1.o
  have hq := hS1.q
  have hl := hS1.l
  walk_at "go"
  refine ite_n (fun e => (e rfl).elim) fun _ => ?_
  walk_at "go"
  intro p1 H2 hp1 k1 s1
  have hS2 := hS1.same s1
  have hM2 := hM1.same s1
  have hlm2 := hM2.l.fd
  have k2 := k1.fd
  have lok := logD_ok hok
  have hl2 := hS2.l
  have ho2 := hS2.o
  have ll : (logD log).length = log.length := List.length_map ..
  clear k1
  walk_at "go"
  refine ite_n (fun e => (e rfl).elim) fun _ => ?_
  walk_at "go"
  refine ite_n (fun e => (e (by rw [List.length_map, ll])).elim) fun _ => ?_
  have g4 := mod_n hM2.o
  have g5 := mod_a hM2.o
  have ra := hS2.a
  walk_at "go"
  intro p3 H3 hp3 rb s3
  have hS3 := hS2.same s3
  have hM3 := hM2.same s3
  have rm := hM3.a
  have g6 := mod_a hM3.o
  have rok : rowsOk (at_.map rowA) = true := rowsA_ok at_
  clear ra g5
  walk_at "go"
  refine ite_n (fun e => (e rfl).elim) fun _ => ?_
  have ho3 := hS3.o
  have hm3 := hS3.m
  have mm3 := hM3.m
  walk_at "go"
  intro p4 H4 hp4 km s4
  have hm4 : Rd H4 z.ma (.dK (mkK mk)) := .inl (s4 _ _ mm3)
  refine ⟨p4, _, rfl, km, fun H5 p5 ts s5 hp5 _ _ kl kp => ?_⟩
  have hm5 : Rd H5 z.ma (.dK (mkK mk)) := .inl (s5 _ _ (s4 _ _ mm3))
  have rw1 : Rows K H5 p5 ((sortM mk).map rowM) := ⟨ts, kl, pair_rows kp⟩
  walk_at "go"
  refine ⟨mkKeys mk, by rw [List.length_map]; exact hml, fun ys p perm srt hp => ?_⟩
  have e := names_sorted nd perm srt
  subst e
  have k6 := upd_same (H := H5) (a := p) (o := HO.lst (((sortM mk).map fun m => sS [m.1]).map V.str))
  have s6 := Same.new (o := HO.lst (((sortM mk).map fun m => sS [m.1]).map V.str)) hp
  generalize upd H5 p (HO.lst (((sortM mk).map fun m => sS [m.1]).map V.str)) = H6 at k6 s6 ⊢
  rw [List.map_map] at k6
  have mm6 := s6 _ _ (s5 _ _ (s4 _ _ mm3))
  walk_at "go"
  intro D hD
  have pl := (sortM_perm mk).length_eq
  refine lc_it (walk_list (xs := (sortM mk).map ((V.str) ∘ fun m => sS [m.1]))) (fun i H' => Hold (Same H6 H' ∧ ∃ us : List Addr, H' D = some (.lst (us.map V.ref)) ∧ us.length = i ∧ Paired (fun t (r : List FD) => H' t = some (.tup (r.map FD.v))) us (((sortM mk).take i).map rowM))) (.mk ⟨Same.new hD, [], upd_same, rfl, .nil⟩) (fun i H' _ q => SqL.of (q.out.1 _ _ k6)) (fun i x H7 H8 hi pv y => ?_) fun H7 pv => ?_
  · obtain ⟨rfl, hx⟩ := y
    obtain ⟨s7, us, hD7, hus, hpa⟩ := pv.out
    obtain ⟨m, hmi, rfl⟩ := map_get hx
    have dg := dget_mk (s7 _ _ mm6) nd ((sortM_perm mk).subset (List.mem_of_getElem? hmi))
    walk_at "go"
    intro U hU
    have s8 := Same.new (o := .tup [(V.str ∘ fun m : Mk1 => sS [m.1]) m, .int (m.2 : Nat)]) hU
    have kU := upd_same (H := H8) (a := U) (o := .tup [(V.str ∘ fun m : Mk1 => sS [m.1]) m, .int (m.2 : Nat)])
    have hD8 := s8 _ _ hD7
    have nUD : U ≠ D := fun z => by rw [z, hD7] at hU; cases hU
    have il : i < (sortM mk).length := (List.getElem?_eq_some_iff.mp hmi).1
    generalize upd H8 U (.tup [(V.str ∘ fun m : Mk1 => sS [m.1]) m, .int (m.2 : Nat)]) = H9 at s8 kU hD8 ⊢
    refine ⟨_, hD8, small20 (by rw [List.length_map]; omega), .mk ⟨(s7.trans s8).updN hD, us ++ [U], by rw [upd_same, List.map_append]; rfl, by rw [List.length_append, hus]; rfl, ?_⟩⟩
    rw [take_snoc hmi, List.map_append]
    refine paired_snoc (R := fun t (r : List FD) => (upd H9 D _) t = some (.tup (r.map FD.v))) ?_ (paired_imp (fun a b e => ?_) hpa)
    · rw [upd_ne nUD]
      exact kU
    · rw [upd_ne (fun z => by rw [z, hD7] at e; cases e)]
      exact s8 _ _ e
  · obtain ⟨s7, us, hD7, hus, hpa⟩ := pv.out
    rw [List.length_map, List.take_length] at hpa
    have s67 := s6.trans s7
    have rr := rw1.same s67
    have r2 : Rows K H7 D ((sortM mk).map rowM) := ⟨us, hD7, hpa⟩
    have rok2 : rowsOk ((sortM mk).map rowM) = true := rowsM_ok fun m hm => hat m ((sortM_perm mk).subset hm)
    refine ⟨_, _, _, _, rfl, rfl, rr, r2, rok2, rok2, ?_⟩
    rw [decide_eq_true rfl]
    exact h _ ((((((sT.trans s1).trans s3).trans s4).trans s5)).trans s67)
end
end Qe

namespace Qe
open PySem PySem.Spec PyProof.Rows L2 He
/-! several clauses that each keep the exception under one name -/
def wClauses (K : PySem.W.Frag) (i : Nat) (Wo : WX) (D : Ends) : List (Value × (Addr → Value → Option Addr → TS)) → WX
  | [] => Wo
  | (c, ts9) :: r => fun cl9 d σ H => ∃ b, PySem.W.exmOne K cl9 c = some b ∧ (b = true → ∀ a, H a = none → ts9 a cl9 d { nx := fun σa Ha => D.nx (σa.set i none) Ha, rt := D.rt, bk := fun σa Ha => D.bk (σa.set i none) Ha, ct := fun σa Ha => D.ct (σa.set i none) Ha } (σ.set i (some (.ref a))) H) ∧ (b = false → wClauses K i Wo D r cl9 d σ H)
inductive Clauses (X : Cx) (n : Str) : List ExceptHandler → List (Value × (Addr → Value → Option Addr → TS)) → Prop
  | nil : Clauses X n [] []
  | cons {x : Str} {c : Value} {ts9 : Addr → Value → Option Addr → TS} {b9 : Stmt} {suite : List Stmt} {np pos' : Pos} {hcs : List ExceptHandler} {l : List (Value × (Addr → Value → Option Addr → TS))} (hn9 : Names X x c)
      (hsu9 : ∀ (a : Addr) (oe : Obj) (cl9 : Value) (d : Option Addr) (pn : List (Addr × Obj)), Zc cl9 d oe → (∃ vs, oe.data = .fields vs) → PSs (X.suite a ((a, oe) :: pn)) (b9 :: suite) (ts9 a cl9 d)) (r : Clauses X n hcs l) :
      Clauses X n (.ExceptHandler (some (.Name x np)) (some n) (b9 :: suite) pos' :: hcs) ((c, ts9) :: l)
section
variable {X : Cx} {n : Str} {i : Nat} {body : List Stmt} {h₀ : ExceptHandler} {hcs : List ExceptHandler} {l : List (Value × (Addr → Value → Option Addr → TS))} {pos : Pos} {tb9 : WX → TS} {Wo : WX}
theorem ps_try_clauses (hst : X.stack = X.env :: X.outer) (hfr0 : X.env.frame = some X.env.locals) (hN : X.N.Nodup) (hi : X.N[i]? = some n) (hln : X.env.kindOf n = some .local) (tks : Takes X Wo)
    (hb : ∀ (W : WX) (pn : List (Addr × Obj)) (xe : Value → Shared → Prop), Takes (X.tr pn xe) W → PassesOwn (model X.prog X.w) X.A X.env xe → PSs (X.tr pn xe) body (tb9 W))
    (hcl : Clauses X n (h₀ :: hcs) l) : PS X (.Try body (h₀ :: hcs) [] [] pos) (fun D σ H => tb9 (wClauses X.K i Wo D l) D σ H) := by
  refine PS.mk fun pins s σ H D I h => ?_
  have ok9 := I.ok
  have hfr1 : X.A.frames = some (X.env :: X.outer) := by rw [ok9.frames, hst]
  refine wpAny_Try_except ?_
  refine wpAny_mono ((hb (wClauses X.K i Wo D l) (X.pn ++ pins) (fun e s₁ => wpAny (model X.prog X.w) X.A (noteFrame e X.env) (fun _ s₂ => wpAny (model X.prog X.w) X.A (setFlight e none) (fun _ s₃ =>
    wpAny (model X.prog X.w) X.A (handleBy e X.env (h₀ :: hcs)) (SP X pins D) X.xe s₃) X.xe s₂) X.xe s₁) (fun u sa xx9 => ?_) PassesOwn.looking).run [] s σ H D (I.toTry _) h) (fun f sn sp9 => ?_) (fun e sn he9 => he9)
  · -- the catch
    obtain ⟨a, B, sI, pins', σa, Ha, cl9, d, rfl, Jt, nb9, ks, sk9, na9, os9, ag9, w⟩ := xx9
    have J : Inv X pins σa Ha sI := Jt.ofTry ok9
    have sk8 : Sky B (X.env :: X.outer) a (Zc cl9 d) X.env.locals sa.heap := by rw [← hst]; exact sk9
    show wpAny _ X.A (noteFrame (Value.ref a) X.env) _ _ _
    refine Sky.land Zc.steady hfr1 hfr0 sk8 fun ha la ka => ?_
    have Ja : Inv X pins σa Ha { sa with heap := ha } := J.landed nb9 la.1 (ks.trans ka) os9 ag9
    obtain ⟨xa, va4, oa, za, fa⟩ := la.there
    have noFr : ∀ {h : Heap} {o : Obj} {vs : Array Value}, h.FunFrames B (X.env :: X.outer) → h.get? a = some o → o.data = .fields vs → a ∉ frs (X.env :: X.outer) := fun {h o vs} ff e dd hm9 => by
      obtain ⟨_, o', e', hnf⟩ := ff.mem hm9
      rw [e] at e'; cases e'
      exact hnf _ dd
    have nofr := noFr la.2.2.1 oa fa
    have noL : a ≠ X.env.locals := fun z => nofr (List.mem_filterMap.mpr ⟨X.env, List.mem_cons_self, by rw [hfr0, z]⟩)
    have noF : a ∉ X.fs := fun hm9 => by
      obtain ⟨e, he9, q⟩ := List.mem_filterMap.mp hm9
      exact nofr (List.mem_filterMap.mpr ⟨e, List.mem_cons_of_mem _ he9, q⟩)
    have Sa := Ja.suite oa fa na9 noL noF
    have loc9 : Loc X.env.scope n := .inl hln
    have run9 : ∀ {hds' : List ExceptHandler} {l' : List (Value × (Addr → Value → Option Addr → TS))}, Clauses X n hds' l' → wClauses X.K i Wo D l' cl9 d σa Ha →
        wpAny (model X.prog X.w) X.A (handleBy (.ref a) X.env hds') (SP X pins D) X.xe { sa with heap := ha } := by
      intro hds' l' hk9
      induction hk9 with
      | nil =>
        intro w
        refine wpAny_handleBy_nil ?_
        obtain ⟨k1, k2, k3, oe, vs, T, oT, ts', he9, hz9, hd9, h1, hr⟩ := id la
        unfold PySem.passOn
        refine wpAny_bind (wpAny_field he9 hd9 h1 ?_)
        rw [if_neg (show ¬ ((Value.ref T == Value.none) = true) by simp)]
        have fin9 : wpAny (model X.prog X.w) X.A (setFlight (.ref a) X.env.frame) (fun _ s4 => wpAny (model X.prog X.w) X.A (throw (.ref a) : Sem Flow) (SP X pins D) X.xe s4) X.xe { sa with heap := ha } := by
          rw [hfr0]
          refine HandSPX.setFlight_upZ la fun hb4 hh4 kb => wpAny_throw (tks _ _ ?_)
          exact ⟨a, B, sI, pins, σa, Ha, cl9, d, rfl, J, nb9, (ks.trans ka).trans kb, .inr (.inr (by rw [hst]; exact hh4)), na9, os9, ag9, w⟩
        first
          | exact wpAny_bind (wpAny_pure (wpAny_bind fin9))
          | exact wpAny_bind fin9
      | @cons x c ts9 b9 suite np pos' hds2 l2 hn9 hsu9 r ih9 =>
        intro w
        obtain ⟨b, ex9, yes9, no9⟩ := w
        refine wpAny_handleBy_cons (codeAny_handlers_test ?_) (fun q => by cases q)
        have lt9 : PySem.W.Looks (model X.prog X.w) ha (typeOf (.ref a)) cl9 := fun A Q E s k q => wpAny_typeOf_ref (k _ _ oa) (by rw [za.1]; exact q)
        have lm9 := PySem.W.exm_one (M := model X.prog X.w) (Ja.kIn) lt9 ex9
        have tst : ∀ {Q : Value → Shared → Prop} {E : Value → Shared → Prop}, Q c { sa with heap := ha } → wpAny (model X.prog X.w) (X.A.mark (some (.ref a))) (eval (.Name x np) X.env) Q E { sa with heap := ha } := fun {Q E} q => by
          obtain ⟨hg9, hdbg, hm9 | ⟨hm9, hv, hnn⟩⟩ := hn9
          · exact ld_glob (X := X.suite a ((a, xa) :: (X.pn ++ pins))) Sa hg9 hm9 q hdbg
          · exact ld_blt (X := X.suite a ((a, xa) :: (X.pn ++ pins))) Sa hg9 hm9 hv q hnn hdbg
        refine tst (lm9.here ?_)
        cases b with
        | true =>
          apply codeAny_handlers_suite_as
          refine HandSPX.lands_againZ la fun hb4 lb kb => ?_
          have Jb : Inv X pins σa Ha { sa with heap := hb4 } := J.landed nb9 lb.1 ((ks.trans ka).trans kb) os9 ag9
          obtain ⟨xb, vb, ob4, zb, fb⟩ := lb.there
          have Sb := Jb.suite ob4 fb na9 noL noF
          refine store_ok (X := X.suite a ((a, xb) :: (X.pn ++ pins))) (v := .ref a) Sb hN hi loc9 rfl (fun sc5 Sc => ?_) (.inr hln)
          refine wpAny_mono ((hsu9 a xb cl9 d (X.pn ++ pins) zb ⟨_, fb⟩).run [] sc5 _ Ha _ Sc (yes9 rfl a na9)) (fun f sd6 sp9 => ?_) (fun _ _ z => False.elim z)
          have done9 : ∀ {σd : L2.St} {Hd : Hp} {Q : Shared → Prop}, Inv (X.suite a ((a, xb) :: (X.pn ++ pins))) [] σd Hd sd6 → (∀ se, Inv X pins (σd.set i none) Hd se → Q se) →
              wpAny (model X.prog X.w) X.A (do bindName X.env n .none; unbindBehindTheSuite X.env n pos') (fun _ se => Q se) X.xe sd6 := fun {σd Hd Q} Sd hq => gone_ok (Sd.unsuite ok9) hN hi hln hq
          cases f with
          | next =>
            obtain ⟨σd, Hd, Sd, qd⟩ := sp9
            exact done9 Sd fun se Je => ⟨_, _, Je, qd⟩
          | brk =>
            obtain ⟨σd, Hd, Sd, qd⟩ := sp9
            exact done9 Sd fun se Je => ⟨_, _, Je, qd⟩
          | cont =>
            obtain ⟨σd, Hd, Sd, qd⟩ := sp9
            exact done9 Sd fun se Je => ⟨_, _, Je, qd⟩
          | ret u =>
            obtain ⟨vd, σd, Hd, Sd, rd6, qd⟩ := sp9
            exact done9 Sd fun se Je => ⟨_, _, _, Je, rd6, qd⟩
        | false =>
          show wpAny _ X.A (handleBy (Value.ref a) X.env hds2) _ _ _
          exact ih9 (no9 rfl)
    exact run9 hcl w
  · cases f with
    | next =>
      obtain ⟨σa, Ha, Jt, q⟩ := sp9
      exact wpAny_execs_nil ⟨σa, Ha, Jt.ofTry ok9, q⟩
    | brk =>
      obtain ⟨σa, Ha, Jt, q⟩ := sp9
      exact ⟨σa, Ha, Jt.ofTry ok9, q⟩
    | cont =>
      obtain ⟨σa, Ha, Jt, q⟩ := sp9
      exact ⟨σa, Ha, Jt.ofTry ok9, q⟩
    | ret u =>
      obtain ⟨v, σa, Ha, Jt, r, q⟩ := sp9
      exact ⟨v, σa, Ha, Jt.ofTry ok9, r, q⟩
end
end Qe

namespace Qe
open PySem PySem.Spec PyProof.Rows L2 He
local macro_rules | `(tactic| walk_at "lk") => `(tactic| first
  | assumption
  | exact upd_same
  | (refine (upd_ne (by assumption)).trans ?_; walk_at "lk"))
local macro_rules | `(tactic| walk_at "sd") => `(tactic| first
  | rfl
  | assumption
  | exact SqL.of (by walk_at "lk")
  | exact .inl (SqL.of (by assumption))
  | exact SqT.of (by assumption)
  | exact ⟨_, SqL.of (by assumption)⟩
  | exact .inr (SqT.of (by assumption))
  | exact .inl ⟨rfl, _, SqL.of (by assumption)⟩
  | exact upd_same
  | (refine (upd_ne (by assumption)).trans ?_; walk_at "lk")
  | exact ⟨_, rfl⟩
  | exact NN.none
  | exact NN.some (by omega)
  | exact lt1
  | exact lt2
  | exact lt3
  | exact lt4
  | exact sz0
  | exact sz1
  | exact sz2
  | exact sz3
  | exact sz4
  | exact small20 (by first | omega | (rw [List.length_map]; omega))
  | exact True.intro
  | omega
  | (dsimp only [List.length_cons, List.length_nil]; omega))
local macro_rules | `(tactic| walk_at "go") => `(tactic| first
  | ((with_reducible refine tSeq_i ?_); walk_at "go")
  | ((with_reducible refine gName_i ?_); walk_at "go")
  | ((with_reducible refine tNext_i ?_); walk_at "go")
  | ((with_reducible refine iteT ?_); walk_at "go")
  | ((with_reducible refine iteF ?_); walk_at "go")
  | (with_reducible refine (show tLockE _ _ _ _ from ?_))
  | (with_reducible refine (show tLock _ _ _ _ from ?_))
  | (with_reducible refine (show (∃ W : Nat → Nat → L2.St → Hp → Prop, _) from ?_))
  | (with_reducible refine (show C8.tCut _ _ _ _ _ from ?_))
  | (with_reducible refine (show tWhile _ _ _ _ _ from ?_))
  | (apply Exists.intro; walk_at "go")
  | (apply And.intro; (focus (walk_at "sd")); walk_at "go")
  | skip)

section
variable {P : Program} {w : World} {K : PySem.W.Frag}
      {mg : Str → Option Value} {base : Heap}

def sp_law_did (K : PySem.W.Frag) : Sp := S3 fun a b c H Q _ => ∃ (k : Int) (s : Addr) (z : SesA), a = .int k ∧ b = .ref s ∧ H s = some (.ins (ga K "Session") z.dx (sesF z)) ∧
  (k = 0 → ∀ E : XK, (∀ cls d H', Efail K Q cls d H' → E cls d H') → sp_Session_do K [b, c] H Q E) ∧ (k = 1 → ∀ E : XK, (∀ cls d H', Efail K Q cls d H' → E cls d H') → sp_Session_batch K [b, c] H Q E) ∧ (k ≠ 0 → k ≠ 1 → ∀ E : XK, (∀ cls d H', Efail K Q cls d H' → E cls d H') → sp_Session_preview K [b, c] H Q E)
theorem ok_law_did (T : Tx K mg) : Fx P w K mg base CX0 6 (A_law_did K) (sp_law_did K) := by
  obtain ⟨fd, F⟩ := T.D_law_did
  refine fx_of F sc_law_did (F.bindsN fun _ _ _ _ _ _ us hl => match us, hl with | [_, _, _], _ => rfl) S3.len fun cdv A outer s H vs Q E hr h => ?_
  obtain ⟨a0, a1, a2, rfl, h⟩ := h
  refine ⟨_, PSs.nox (pss_one (ps_try_clauses (Wo := fun _ _ _ _ => False) (i := 3) rfl rfl sc_law_did.nd rfl rfl (fun u s2 ⟨_, _, _, _, _, _, _, _, _, _, _, _, _, _, _, _, w⟩ => w.elim) (fun W pn xe tk po => (pss_cons (ps_if (pt_cmpR op_eqI (pv 0) pe_int (nomark _)) (pss_one (ps_ret (pmethS (ok_Session_do T) T.c_Session T.m_Session_do hr (by decide) (fun σ => passAt tk σ) (pv 1) (pa_cons (pv 2) pa_nil)))) pss_nil)
    (pss_one (ps_ret (pe_ifExp (pt_cmpR op_eqI (pv 0) pe_int (nomark _)) (pmethS (ok_Session_batch T) T.c_Session T.m_Session_batch hr (by decide) (fun σ => passAt tk σ) (pv 1) (pa_cons (pv 2) pa_nil)) (pmethS (ok_Session_preview T) T.c_Session T.m_Session_preview hr (by decide) (fun σ => passAt tk σ) (pv 1) (pa_cons (pv 2) pa_nil)))))))
    (.cons ⟨rfl, rfl, .inl T.g_StepFailed⟩ (fun a oe cls dd pn hz hf2 => pss_one (ps_ret (pe_lst (pa_cons (pe_sC [102, 97, 105, 108, 101, 100] (by decide +kernel)) (pa_cons (pe_xf T.x_StepFailed.xf T.x_StepFailed.noN hz hf2 (pv 3)) pa_nil)))))
    (.cons ⟨rfl, rfl, .inl T.g_LimitExceeded⟩ (fun a oe cls dd pn hz hf2 => pss_never)
    (.cons ⟨rfl, rfl, .inl T.g_InvalidSequence⟩ (fun a oe cls dd pn hz hf2 => pss_never) .nil))))), ?_⟩
  obtain ⟨k, s, z, rfl, rfl, hs, h0, h1, h2⟩ := h
  have cl := T.c_Session
  have fin : ∀ (σ : L2.St) (D : Ends), D.rt = Q → σ.length = 4 → ∀ cls d H', Efail K Q cls d H' → WE (wClauses K 3 (fun _ _ _ _ => False) D
      [(.ref (ga K "StepFailed"), fun a cls dd => tRet (tLst (tCons (tC (vS [102, 97, 105, 108, 101, 100])) (tCons (tXf a cls dd (ga K "StepFailed") "position" (tVar 3)) tNil)))), (.ref (ga K "LimitExceeded"), fun a cls dd => tNever), (.ref (ga K "InvalidSequence"), fun a cls dd => tNever)]) σ cls d H' := fun σ D hD hl cls d H' ⟨e1, dd, i, e2, e3, e4⟩ => by
    subst e1
    subst e2
    refine ⟨true, T.e_StepFailed_StepFailed, fun _ a ha => ?_, fun z => by cases z⟩
    have l3 : (σ.set 3 (some (V.ref a)))[3]? = some (some (V.ref a)) := by
      rw [List.getElem?_set_self (by omega)]
    rw [← hD] at e4
    refine ⟨_, l3, rfl, rfl, dd, _, _, rfl, e3, rfl, ?_⟩
    exact ⟨sz2, e4⟩
  walk_at "go"
  refine ite_d (fun e => ?_) fun e => ?_
  · refine ⟨_, rfl, s, z.dx, sesF z, rfl, hs, rfl, _, rfl, h0 e _ fun cls d H' zz => ?_⟩
    exact fin [some (.int k), some (.ref s), some a2, none] _ (by rfl) rfl cls d H' zz
  · walk_at "go"
    refine ite_d (fun e1 => ?_) fun e1 => ?_
    · refine ⟨_, rfl, s, z.dx, sesF z, rfl, hs, rfl, _, rfl, h1 e1 _ fun cls d H' zz => ?_⟩
      exact fin [some (.int k), some (.ref s), some a2, none] _ (by rfl) rfl cls d H' zz
    · refine ⟨_, rfl, s, z.dx, sesF z, rfl, hs, rfl, _, rfl, h2 e e1 _ fun cls d H' zz => ?_⟩
      exact fin [some (.int k), some (.ref s), some a2, none] _ (by rfl) rfl cls d H' zz
end
end Qe

namespace Qe
open PySem PySem.Spec PyProof.Rows L2 He
/-! ## the law's pool, session and model together, all above the heap H0 -/
structure Stt where
  qs : List (List Nat)
  log : List Step
  ms : List Mk1
  at_ : List (Nat × Nat)
structure Both (K : PySem.W.Frag) (H0 H : Hp) (p s d : Addr) (c : SesA) (z : MdA) (A B : Stt) : Prop where
  f : Same H0 H
  pl : Pool H p
  S : isSes K H s c A.qs A.log A.ms A.at_
  M : isMod K H d z B.qs B.log B.ms B.at_
  p0 : H0 p = none
  s0 : H0 s = none
  m0 : H0 c.ma = none
  a0 : H0 c.aa = none
  d0 : H0 d = none
  dm : d ≠ c.ma
  mm : z.ma ≠ c.ma
  qa : z.qa ≠ c.aa
  la : z.la ≠ c.aa
  aa : z.aa ≠ c.aa
theorem Pool.ne {H : Hp} {p x : Addr} {o : HO} (h : Pool H p) (hx : H x = some o) (n : ∀ b c : Int, o ≠ .lst [.int b, .int c]) : x ≠ p := by
  obtain ⟨b, c, e, _⟩ := h
  exact ne_of hx e (n b c)
theorem lst_vS {qs : List (List Nat)} (b c : Int) : HO.lst (qs.map vS) ≠ .lst [.int b, .int c] := fun e => by
  have e := HO.lst.inj e
  cases qs with
  | nil => cases e
  | cons q r => injection e with e1 _; cases e1
theorem lst_vT {st : List Step} (b c : Int) : HO.lst (st.map vT) ≠ .lst [.int b, .int c] := fun e => by
  have e := HO.lst.inj e
  cases st with
  | nil => cases e
  | cons q r => injection e with e1 _; cases e1
theorem lst_ref {ts : List Addr} (b c : Int) : HO.lst (ts.map V.ref) ≠ .lst [.int b, .int c] := fun e => by
  have e := HO.lst.inj e
  cases ts with
  | nil => cases e
  | cons q r => injection e with e1 _; cases e1
section
variable {K : PySem.W.Frag} {H0 H H' : Hp} {p s d : Addr} {c c' : SesA} {z z' : MdA} {A B A' B' : Stt}
theorem Both.same (h : Both K H0 H p s d c z A B) (e : Same H H') : Both K H0 H' p s d c z A B :=
  ⟨h.f.trans e, h.pl.same e, h.S.same e, h.M.same e, h.p0, h.s0, h.m0, h.a0, h.d0, h.dm, h.mm, h.qa, h.la, h.aa⟩
theorem Rows.ne {a p : Addr} {rs : List (List FD)} (h : Rows K H a rs) (hp : Pool H p) : a ≠ p := by
  obtain ⟨ts, h1, _⟩ := h
  exact hp.ne h1 lst_ref
/-- the pool drawn from -/
theorem Both.pool (h : Both K H0 H p s d c z A B) (e : But p H H') (hp : Pool H' p) : Both K H0 H' p s d c z A B := by
  obtain ⟨x, y, hx, _⟩ := id h.pl
  have g : ∀ {b o}, H b = some o → (∀ i j : Int, o ≠ .lst [.int i, .int j]) → H' b = some o := fun {b o} k n => e _ _ k (h.pl.ne k n)
  refine ⟨fun b o k => e _ _ (h.f _ _ k) (ne_of_none k h.p0), hp, ⟨g h.S.o (by intros; intro z; cases z), g h.S.q lst_vS, g h.S.l lst_vT, g h.S.m (by intros; intro z; cases z), h.S.a.butx e (h.S.a.ne h.pl) hx (by intros; intro z; cases z), h.S.nq, h.S.nl⟩,
    ⟨g h.M.o (by intros; intro z; cases z), g h.M.q lst_vS, g h.M.l lst_vT, g h.M.m (by intros; intro z; cases z), h.M.a.butx e (h.M.a.ne h.pl) hx (by intros; intro z; cases z), h.M.nm⟩, h.p0, h.s0, h.m0, h.a0, h.d0, h.dm, h.mm, h.qa, h.la, h.aa⟩
/-- the session with some steps more -/
theorem Both.ses (h : Both K H0 H p s d c z A B) (hS : isSes K H' s c' A'.qs A'.log A'.ms A'.at_) (e1 : c'.ma = c.ma) (e2 : c'.aa = c.aa) (fr : Fr c s H H') : Both K H0 H' p s d c' z A' B := by
  obtain ⟨ts, ha, _⟩ := id h.S.a
  have g : ∀ {b o}, H b = some o → b ≠ c.ma → b ≠ c.aa → (∀ x, o ≠ .ins (ga K "Session") c.dx x) → H' b = some o := fun {b o} k n1 n2 n => fr _ _ k (ne_of k h.S.o (n _)) n1 n2
  obtain ⟨x, y, hx, hr⟩ := id h.pl
  refine ⟨fun b o k => fr _ _ (h.f _ _ k) (ne_of_none k h.s0) (ne_of_none k h.m0) (ne_of_none k h.a0),
    ⟨x, y, g hx (ne_of hx h.S.m (by intro z; cases z)) (h.S.a.ne h.pl).symm (by intros; intro z; cases z), hr⟩, hS,
    ⟨g h.M.o h.dm (ne_of h.M.o ha (by intro z; cases z)) (by intros; intro z; cases z), g h.M.q (ne_of h.M.q h.S.m (by intro z; cases z)) h.qa (by intros; intro z; cases z),
      g h.M.l (ne_of h.M.l h.S.m (by intro z; cases z)) h.la (by intros; intro z; cases z), g h.M.m h.mm (ne_of h.M.m ha (by intro z; cases z)) (by intros; intro z; cases z), ?_, h.M.nm⟩,
    h.p0, h.s0, e1 ▸ h.m0, e2 ▸ h.a0, h.d0, e1 ▸ h.dm, e1 ▸ h.mm, e2 ▸ h.qa, e2 ▸ h.la, e2 ▸ h.aa⟩
  obtain ⟨us, hu, _⟩ := id h.M.a
  exact h.M.a.but fr ⟨ne_of hu h.S.o (by intro z; cases z), ne_of hu h.S.m (by intro z; cases z), h.aa⟩ h.S.o h.S.m ha (by intros; intro z; cases z) (by intros; intro z; cases z) (by intros; intro z; cases z)
theorem Both.sesTo (h : Both K H0 H p s d c z A B) (t : SesTo K H s c A'.qs A'.log A'.ms A'.at_ H') : ∃ c', Both K H0 H' p s d c' z A' B := by
  obtain ⟨c', _, e2, e3, hS, fr⟩ := t
  exact ⟨c', h.ses hS e2 e3 fr⟩
/-- the session cut back: its marks are new -/
theorem Both.sesCut (h : Both K H0 H p s d c z A B) (t : SesCut K H s c A'.qs A'.log A'.ms A'.at_ H') : ∃ c', Both K H0 H' p s d c' z A' B := by
  obtain ⟨c', _, e2, hm, hS, b⟩ := t
  have g : ∀ {b' o}, H b' = some o → (∀ x, o ≠ .ins (ga K "Session") c.dx x) → H' b' = some o := fun {b' o} k n => b _ _ k (ne_of k h.S.o (n _))
  obtain ⟨x, y, hx, hr⟩ := id h.pl
  obtain ⟨us, hu, _⟩ := id h.M.a
  exact ⟨c', fun b' o k => b _ _ (h.f _ _ k) (ne_of_none k h.s0), ⟨x, y, g hx (by intros; intro z; cases z), hr⟩, hS,
    ⟨g h.M.o (by intros; intro z; cases z), g h.M.q (by intros; intro z; cases z), g h.M.l (by intros; intro z; cases z), g h.M.m (by intros; intro z; cases z), h.M.a.butx b (ne_of hu h.S.o (by intro z; cases z)) h.S.o (by intros; intro z; cases z), h.M.nm⟩,
    h.p0, h.s0, h.f.free hm, e2 ▸ h.a0, h.d0, ne_of_none h.M.o hm, ne_of_none h.M.m hm, e2 ▸ h.qa, e2 ▸ h.la, e2 ▸ h.aa⟩
/-- the model changed -/
theorem Both.mod (h : Both K H0 H p s d c z A B) (hM : isMod K H' d z' B'.qs B'.log B'.ms B'.at_) (b : But d H H') (n1 : z'.ma ≠ c.ma) (n2 : z'.qa ≠ c.aa) (n3 : z'.la ≠ c.aa) (n4 : z'.aa ≠ c.aa) : Both K H0 H' p s d c z' A B' := by
  have g : ∀ {b' o}, H b' = some o → (∀ x, o ≠ .dK x) → H' b' = some o := fun {b' o} k n => b _ _ k (ne_of k h.M.o (n _))
  obtain ⟨x, y, hx, hr⟩ := id h.pl
  obtain ⟨us, hu, _⟩ := id h.S.a
  exact ⟨fun b' o k => b _ _ (h.f _ _ k) (ne_of_none k h.d0), ⟨x, y, g hx (by intros; intro z; cases z), hr⟩,
    ⟨g h.S.o (by intros; intro z; cases z), g h.S.q (by intros; intro z; cases z), g h.S.l (by intros; intro z; cases z), b _ _ h.S.m h.dm.symm, h.S.a.butx b (ne_of hu h.M.o (by intro z; cases z)) h.M.o (by intros; intro z; cases z), h.S.nq, h.S.nl⟩,
    hM, h.p0, h.s0, h.m0, h.a0, h.d0, h.dm, n1, n2, n3, n4⟩
end
end Qe

namespace Qe
open PySem PySem.Spec PyProof.Rows L2 He
/-! ## a state that the law's turns can reach -/
structure Fine (q0 : List Nat) (n : Nat) (A : Stt) (q : List Nat) : Prop where
  past : Past A.qs A.log q0 q
  ok : ∀ s ∈ A.log, s.ok
  l0 : q0.length ≤ 4
  i0 : q0.all isIt = true
  ll : A.log.length ≤ 6 * n
  al : A.at_.length ≤ n
  nd : (A.ms.map (·.1)).Nodup
  ab : ∀ m ∈ A.ms, (m.1 = 97 ∨ m.1 = 98) ∧ m.2 ≤ A.log.length
  n25 : n ≤ 25
theorem two_ab : ∀ {l : List Nat}, l.Nodup → (∀ x ∈ l, x = 97 ∨ x = 98) → l.length ≤ 2
  | [], _, _ => Nat.zero_le _
  | [_], _, _ => Nat.le_succ _
  | [_, _], _, _ => Nat.le_refl _
  | a :: b :: c :: r, nd, h => by
    have ha := h a (by simp)
    have hb := h b (by simp)
    have hc := h c (by simp)
    rw [List.nodup_cons, List.nodup_cons] at nd
    have n1 : a ≠ b := fun e => nd.1 (by rw [e]; simp)
    have n2 : a ≠ c := fun e => nd.1 (by rw [e]; simp)
    have n3 : b ≠ c := fun e => nd.2.1 (by rw [e]; simp)
    omega
section
variable {q0 q r : List Nat} {n : Nat} {A : Stt}
theorem Fine.two (h : Fine q0 n A q) : A.ms.length ≤ 2 := by
  have := two_ab h.nd fun x hx => by
    obtain ⟨m, hm, e⟩ := List.mem_map.mp hx
    rw [← e]
    exact (h.ab m hm).1
  rw [List.length_map] at this
  exact this
theorem Fine.it (h : Fine q0 n A q) : q.all isIt = true := runS_it h.ok h.i0 h.past.last
theorem Fine.ql (h : Fine q0 n A q) : q.length ≤ 154 := by
  have := runS_len h.past.last
  have := h.l0
  have := h.ll
  have := h.n25
  omega
theorem Fine.gl (h : Fine q0 n A q) : A.log.length ≤ 150 := by
  have := h.ll
  have := h.n25
  omega
theorem Fine.qsl (h : Fine q0 n A q) : A.qs.length ≤ 151 := by
  have := h.gl
  have := h.past.len
  omega
theorem Fine.wait {at_ : List (Nat × Nat)} (h : Fine q0 n A q) (hn : n < 25) (ha : at_.length ≤ A.at_.length + 1) : Fine q0 (n + 1) ⟨A.qs, A.log, A.ms, at_⟩ q := by
  have := h.ll
  have := h.al
  exact ⟨h.past, h.ok, h.l0, h.i0, by show A.log.length ≤ _; omega, by show at_.length ≤ _; omega, h.nd, h.ab, hn⟩
theorem Fine.run {st : List Step} {at_ : List (Nat × Nat)} (h : Fine q0 n A q) (hn : n < 25) (ha : at_.length ≤ A.at_.length + 1) (ok : ∀ s ∈ st, s.ok) (hl : st.length ≤ 6) (e : runS q st = some r) : Fine q0 (n + 1) ⟨A.qs ++ traceR q st, A.log ++ st, A.ms, at_⟩ r := by
  have := h.ll
  have := h.al
  refine ⟨past_run h.past e, fun s hs => ?_, h.l0, h.i0, by show (A.log ++ st).length ≤ _; rw [List.length_append]; omega, by show at_.length ≤ _; omega, h.nd, fun m hm => ⟨(h.ab m hm).1, ?_⟩, hn⟩
  · rcases List.mem_append.mp hs with z | z
    · exact h.ok s z
    · exact ok s z
  · have := (h.ab m hm).2
    show m.2 ≤ (A.log ++ st).length
    rw [List.length_append]; omega
theorem Fine.cut {k : Nat} (h : Fine q0 n A q) (hn : n < 25) (hk : k ≤ A.log.length) : ∃ r, A.qs[k]? = some r ∧ (A.qs.take (k + 1)).getLast? = some r ∧ Fine q0 (n + 1) ⟨A.qs.take (k + 1), A.log.take k, A.ms.filter fun m => decide (m.2 ≤ k), A.at_⟩ r := by
  obtain ⟨r, p, e⟩ := h.past.cut k hk
  have := h.ll
  have := h.al
  refine ⟨r, e, p.lastq, p, fun s hs => h.ok s (List.mem_of_mem_take hs), h.l0, h.i0, by show (A.log.take k).length ≤ _; rw [List.length_take]; omega, by show A.at_.length ≤ _; omega, List.Sublist.nodup (List.Sublist.map _ List.filter_sublist) h.nd, fun m hm => ?_, hn⟩
  obtain ⟨hm1, hm2⟩ :=
        List.mem_filter.mp hm
  refine ⟨(h.ab m hm1).1, ?_⟩
  have := of_decide_eq_true hm2
  show m.2 ≤ (A.log.take k).length
  rw [List.length_take]; omega
theorem Fine.put {a : Nat} (h : Fine q0 n A q) (hn : n < 25) (ha : a = 97 ∨ a = 98) : Fine q0 (n + 1) ⟨A.qs, A.log, putM A.ms a A.log.length, A.at_⟩ q := by
  have := h.ll
  have := h.al
  refine ⟨h.past, h.ok, h.l0, h.i0, by show A.log.length ≤ _; omega, by show A.at_.length ≤ _; omega, putM_nodup h.nd, fun m hm => ?_, hn⟩
  rcases putM_mem hm with e | e
  · rw [e]; exact ⟨ha, Nat.le_refl _⟩
  · exact h.ab m e
end
/-- the promise of a turn -/
def TurnSp (K : PySem.W.Frag) : Sp := S3 fun a b e H Q _ => ∃ (H0 : Hp) (p s d : Addr) (c : SesA) (z : MdA) (A : Stt) (q0 q : List Nat) (n : Nat), a = .ref p ∧ b = .ref s ∧ e = .ref d ∧
  Both K H0 H p s d c z A A ∧ Fine q0 n A q ∧ n < 25 ∧ ∀ c' z' A' q' H', Both K H0 H' p s d c' z' A' A' → Fine q0 (n + 1) A' q' → Q (.bl true) H'
theorem trace_one {q r : List Nat} {s : Step} (e : after q s = some r) : traceR q [s] = [r] := by
  show (match after q s with | some r => r :: traceR r [] | none => []) = _
  rw [e]; rfl
theorem fail_no {q qk qi : List Nat} {st : List Step} {k i : Nat} {s : Step} (h : runS q (st.take k) = some qk) (hi : i < k) (e1 : runS q (st.take i) = some qi) (e2 : st[i]? = some s) (e3 : after qi s = none) : False := by
  obtain ⟨r, e⟩ := runS_take h (i + 1)
  rw [List.take_take, Nat.min_eq_left hi, take_snoc e2, runS_snoc, e1] at e
  rw [show (some qi).bind (fun q => after q s) = after qi s from rfl, e3] at e
  cases e
/-- what the doors make of the session -/
def outA (r : Nat) (A : Stt) (q : List Nat) (st : List Step) (k : Nat) (ok : Bool) : Stt :=
  ⟨if r < 2 ∧ ok = true then A.qs ++ traceR q st else A.qs, if r < 2 ∧ ok = true then A.log ++ st else A.log, A.ms, if r = 1 then A.at_ ++ [(st.length, k)] else A.at_⟩
def Told (K : PySem.W.Frag) (H0 : Hp) (p s d : Addr) (z : MdA) (A : Stt) (r : Nat) (q : List Nat) (st : List Step) (k : Nat) (qk : List Nat) (f f2 : Addr) (pv tv : V) (H : Hp) : Prop :=
  ∃ (ok : Bool) (c : SesA), Both K H0 H p s d c z (outA r A q st k ok) A ∧
    ((ok = true ∧ k = st.length ∧ pv = .non ∧ tv = vS qk) ∨ (ok = false ∧ ∃ g g' : Addr, pv = .ref g ∧ tv = .ref g' ∧ H g = some (.lst [vS failW, .int (k : Nat)]) ∧ H g' = some (.lst [vS failW, .int (k : Nat)]))) ∧
    H f2 = some (.lst (([q] ++ traceR q (st.take k)).map vS)) ∧ StL H f st
section
variable {K : PySem.W.Frag} {H0 H H' : Hp} {p s d f f2 : Addr} {c : SesA} {z : MdA} {A : Stt} {r : Nat} {q qk : List Nat} {st : List Step} {k : Nat}
theorem told_keep {A' : Stt} (B : Both K H0 H p s d c z A A) (t : SesTo K H s c A'.qs A'.log A'.ms A'.at_ H') : (∃ c', Both K H0 H' p s d c' z A' A) ∧ ∀ b xs, H b = some (.lst xs) → b ≠ c.aa → H' b = some (.lst xs) := by
  refine ⟨B.sesTo t, fun b xs e n => ?_⟩
  obtain ⟨c', _, _, _, _, fr⟩ := t
  exact fr _ _ e (ne_of e B.S.o (by intro z; cases z)) (ne_of e B.S.m (by intro z; cases z)) n
theorem told_win (B : Both K H0 H p s d c z A A) (k2 : H f2 = some (.lst (([q] ++ traceR q (st.take k)).map vS))) (n2 : f2 ≠ c.aa) (hst : StL H f st) (nf : f ≠ c.aa) (hk : k = st.length)
    (t : SesTo K H s c (outA r A q st k true).qs (outA r A q st k true).log (outA r A q st k true).ms (outA r A q st k true).at_ H') : Told K H0 p s d z A r q st k qk f f2 .non (vS qk) H' := by
  obtain ⟨⟨c', B'⟩, e⟩ := told_keep B t
  exact ⟨true, c', B', .inl ⟨rfl, hk, rfl, rfl⟩, e _ _ k2 n2, e _ _ hst nf⟩
theorem told_fail {g : Addr} (B : Both K H0 H p s d c z A A) (k2 : H f2 = some (.lst (([q] ++ traceR q (st.take k)).map vS))) (n2 : f2 ≠ c.aa) (hst : StL H f st) (nf : f ≠ c.aa) (kg : H g = some (.lst [vS failW, .int (k : Nat)])) (ng : g ≠ c.aa)
    (t : SesTo K H s c (outA r A q st k false).qs (outA r A q st k false).log (outA r A q st k false).ms (outA r A q st k false).at_ H') {g' : Addr} (hg : H' g' = none) : Told K H0 p s d z A r q st k qk f f2 (.ref g) (.ref g') (upd H' g' (.lst [vS failW, .int (k : Nat)])) := by
  obtain ⟨⟨c', B'⟩, e⟩ := told_keep B t
  have s2 := Same.new (o := .lst [vS failW, .int (k : Nat)]) hg
  exact ⟨false, c', B'.same s2, .inr ⟨rfl, g, g', rfl, rfl, s2 _ _ (e _ _ kg ng), upd_same⟩, s2 _ _ (e _ _ k2 n2), s2 _ _ (e _ _ hst nf)⟩
theorem fail_aa (B : Both K H0 H p s d c z A A) {g : Addr} {k : Nat} (kg : H g = some (.lst [vS failW, .int (k : Nat)])) : g ≠ c.aa := by
  obtain ⟨ts, ha, _⟩ := B.S.a
  refine ne_of kg ha fun e => ?_
  have e := HO.lst.inj e
  cases ts with
  | nil => cases e
  | cons t r => injection e with e1 _; cases e1
end
end Qe

namespace Qe
open PySem PySem.Spec PyProof.Rows L2 He
local macro_rules | `(tactic| walk_at "lk") => `(tactic| first
  | assumption
  | exact upd_same
  | (refine (upd_ne (by assumption)).trans ?_; walk_at "lk"))
local macro_rules | `(tactic| walk_at "sd") => `(tactic| first
  | rfl
  | assumption
  | exact SqL.of (by walk_at "lk")
  | exact .inl (SqL.of (by assumption))
  | exact SqT.of (by assumption)
  | exact ⟨_, SqL.of (by assumption)⟩
  | exact .inr (SqT.of (by assumption))
  | exact .inl ⟨rfl, _, SqL.of (by assumption)⟩
  | exact upd_same
  | (refine (upd_ne (by assumption)).trans ?_; walk_at "lk")
  | exact ⟨_, rfl⟩
  | exact NN.none
  | exact NN.some (by omega)
  | exact lt1
  | exact lt2
  | exact lt3
  | exact lt4
  | exact sz0
  | exact sz1
  | exact sz2
  | exact sz3
  | exact sz4
  | exact small20 (by first | omega | (rw [List.length_map]; omega))
  | exact True.intro
  | omega
  | (dsimp only [List.length_cons, List.length_nil]; omega))
local macro_rules | `(tactic| walk_at "go") => `(tactic| first
  | ((with_reducible refine tSeq_i ?_); walk_at "go")
  | ((with_reducible refine gName_i ?_); walk_at "go")
  | ((with_reducible refine tNext_i ?_); walk_at "go")
  | ((with_reducible refine iteT ?_); walk_at "go")
  | ((with_reducible refine iteF ?_); walk_at "go")
  | (with_reducible refine (show tLockE _ _ _ _ from ?_))
  | (with_reducible refine (show tLock _ _ _ _ from ?_))
  | (with_reducible refine (show (∃ W : Nat → Nat → L2.St → Hp → Prop, _) from ?_))
  | (with_reducible refine (show C8.tCut _ _ _ _ _ from ?_))
  | (with_reducible refine (show tWhile _ _ _ _ _ from ?_))
  | (apply Exists.intro; walk_at "go")
  | (apply And.intro; (focus (walk_at "sd")); walk_at "go")
  | skip)

section
variable {P : Program} {w : World} {K : PySem.W.Frag}
      {mg : Str → Option Value} {base : Heap}

def sp_law_turn (K : PySem.W.Frag) : Sp := TurnSp K
theorem ok_law_turn (T : Tx K mg) : Fx P w K mg base CX0 7 (A_law_turn K) (sp_law_turn K) := by
  obtain ⟨fd, F⟩ := T.D_law_turn
  refine fx_of F sc_law_turn (F.bindsN fun _ _ _ _ _ _ us hl => match us, hl with | [_, _, _], _ => rfl) S3.len fun cdv A outer s H vs Q E hr h => ?_
  obtain ⟨a0, a1, a2, rfl, h⟩ := h
  refine ⟨_, PSs.nox (pss_cons (ps_par (i := 3) (j := 4) rfl sc_law_turn.nd rfl rfl (by decide) rfl rfl (pa_cons (pe_ix ix_list (pe_dget (hu_of hr) (pv 2) pe_str (fun _ _ => rfl)) (pe_un un_neg pe_int) (fun _ _ => rfl)) (pa_cons (pcall (ok_law_draw T) T.g_law_draw hr (by decide) rfl pass0 (pa_cons (pv 0) (pa_cons pe_int pa_nil))) pa_nil)) (by rfl))
    (C8.pss_cut (ps_set (i := 5) sc_law_turn.nd rfl (.inl rfl) (pe_ifExp (pt_cmpR op_eqI (pv 4) pe_int (nomark _)) (pe_lst (pa_cons (pcall (ok_law_any_step T) T.g_law_any_step hr (by decide) rfl pass0 (pa_cons (pv 0) (pa_cons (pv 3) pa_nil))) pa_nil)) (pcall (ok_law_any_steps T) T.g_law_any_steps hr (by decide) rfl pass0 (pa_cons (pv 0) (pa_cons (pv 3) (pa_cons pe_int pa_nil))))))
    (C8.pss_cut (ps_asg (pcall (ok_law_runs T) T.g_law_runs hr (by decide) rfl pass0 (pa_cons (pv 2) (pa_cons (pv 5) pa_nil))) (pg_tup rfl (pgs_cons (pg_name (i := 6) sc_law_turn.nd rfl (.inl rfl)) (pgs_cons (pg_name (i := 7) sc_law_turn.nd rfl (.inl rfl)) pgs_nil))))
    (C8.pss_cut (ps_set (i := 8) sc_law_turn.nd rfl (.inl rfl) (pcall (ok_law_did T) T.g_law_did hr (by decide) rfl pass0 (pa_cons (pv 4) (pa_cons (pv 1) (pa_cons (pe_ifExp (pt_cmpR op_eqI (pv 4) pe_int (nomark _)) (pe_ix ix_list (pv 5) pe_int (fun _ _ => rfl)) (pv 5)) pa_nil)))))
    (C8.pss_cut (ps_if (pt_cmpR (OpR.or op_neW (op_neLF hr.units)) (pv 8) (pe_ifExp (pt_cmpR op_isN (pv 7) pe_non (nomark _)) (pe_ix ix_list (pv 6) (pe_un un_neg pe_int) (fun _ _ => rfl)) (pv 7)) (nomark _)) (pss_one (ps_ret pe_bl)) pss_nil)
    (C8.pss_cut (ps_if (pt_cmpR op_eqI (pv 4) pe_int (nomark _)) (pss_one (ps_dput (hu_of hr) (pv 2) pe_str (pe_op op_cat (pe_dget (hu_of hr) (pv 2) pe_str (fun _ _ => rfl)) (pe_lst (pa_cons (pe_tup (pa_cons (pe_callB call_len_seq rfl T.f_len boot_len (pa_cons (pv 5) pa_nil)) (pa_cons (pe_op op_sub (pe_callB call_len_seq rfl T.f_len boot_len (pa_cons (pv 6) pa_nil)) pe_int) pa_nil))) pa_nil))) rfl)) pss_nil)
    (pss_cons (ps_if (PW.pt (pw_and (pt_cmpR op_isN (pv 7) pe_non (nomark _)) (pw_and1 (pt_cmpR op_lt (pv 4) pe_int (nomark _))))) (pss_one (ps_expr (pcall (ok_law_add T) T.g_law_add hr (by decide) rfl pass0 (pa_cons (pv 2) (pa_cons (pv 6) (pa_cons (pv 5) pa_nil)))))) pss_nil)
    (pss_one (ps_ret pe_bl))))))))), ?_⟩
  obtain ⟨H0, p, s, d, c, z, A, q0, q, n, rfl, rfl, rfl, B0, fn, hn, h⟩ := h
  have g1 := mod_q B0.M.o
  have hq0 := B0.M.q
  have hlast := fn.past.lastq
  have hla := last_map hlast
  have hp0 := B0.pl
  have hql := fn.ql
  have hit := fn.it
  walk_at "go"
  intro r H1 hr0 hp1 b1
  have hr3 : r < 3 := hr0
  have B1 := B0.pool b1 hp1
  clear hr0 hq0 g1 hp0
  walk_at "go"
  refine ⟨fun σ' H' => Hold (∃ f st x6 x7 x8, StL H' f st ∧ st.length ≤ 6 ∧ (∀ s ∈ st, s.ok) ∧ (r = 0 → ∃ s0, st = [s0]) ∧ f ≠ c.aa ∧ Both K H0 H' p s d c z A A ∧ σ' = [some (.ref p), some (.ref s), some (.ref d), some (vS q), some (.int (r : Nat)), some (.ref f), x6, x7, x8]), ?_, fun σ' H2 pv => ?_⟩
  · have l5 : q.length ≤ 5000 := by omega
    have l4 : q.length ≤ 4000 := by omega
    have l6 : 6 ≤ 50 := by omega
    walk_at "go"
    refine ite_d (fun e => ?_) fun e => ?_
    · walk_at "go"
      intro st0 H2 hst hp2 b2
      have B2 := B1.pool b2 hp2
      walk_at "go"
      intro f hf
      refine .mk ⟨f, [st0], _, _, _, upd_same, by show 1 ≤ 6; omega, fun x hx => by rw [List.mem_singleton.mp hx]; exact hst, fun _ => ⟨_, rfl⟩, B2.S.aa hf, B2.same (Same.new hf), rfl⟩
    · refine ⟨_, rfl, _, rfl, _, _, _, rfl, p, q, 6, rfl, rfl, rfl, l6, hp1, l4, hit, ?_⟩
      intro f st H2 hf hst hl hok hp2 b2
      refine .mk ⟨f, st, _, _, _, hst, hl, hok, fun z => (e (by omega)).elim, B1.S.aa hf, B1.pool b2 hp2, rfl⟩
  obtain ⟨f, st, x6, x7, x8, hst, hl, hok, h1, nf, B2, rfl⟩ := pv.out
  clear pv B1 b1 hp1
  refine ⟨fun σ' H' => Hold (∃ f2 pv k qk, runS q (st.take k) = some qk ∧ k ≤ st.length ∧ H' f2 = some (.lst (([q] ++ traceR q (st.take k)).map vS)) ∧ f2 ≠ c.aa ∧
    ((k = st.length ∧ pv = .non) ∨ (∃ g s1, pv = .ref g ∧ H' g = some (.lst [vS failW, .int (k : Nat)]) ∧ st[k]? = some s1 ∧ after qk s1 = none)) ∧ StL H' f st ∧ Both K H0 H' p s d c z A A ∧
    σ' = [some (.ref p), some (.ref s), some (.ref d), some (vS q), some (.int (r : Nat)), some (.ref f), some (.ref f2), some pv, x8]), ?_, fun σ' H3 pv => ?_⟩
  · have ho := B2.M.o
    have hq2 := B2.M.q
    have l1 : st.length ≤ 100 := by omega
    have l2 : q.length + st.length ≤ 2100 := by omega
    walk_at "go"
    refine ⟨fun r2 e2 f2 t H3 hf2 k2 kt s3 => ?_, fun i qi s1 e1 e2 e3 f2 g t H3 hf2 k2 kg kt s3 => ?_⟩
    · walk_at "go"
      refine .mk ⟨f2, _, st.length, r2, by rw [List.take_length]; exact e2, Nat.le_refl _, by rw [List.take_length]; exact k2, B2.S.aa hf2, .inl ⟨rfl, rfl⟩, s3 _ _ hst, B2.same s3, rfl⟩
    · walk_at "go"
      refine .mk ⟨f2, _, i, qi, e1, Nat.le_of_lt (List.getElem?_eq_some_iff.mp e2).1, k2, B2.S.aa hf2, .inr ⟨g, s1, rfl, kg, e2, e3⟩, s3 _ _ hst, B2.same s3, rfl⟩
  obtain ⟨f2, pv7, k, qk, hk, hkl, k2, nf2, alt, hst3, B3, rfl⟩ := pv.out
  clear pv B2 hst
  have fit : fits q st := fits_of (by omega)
  refine ⟨fun σ' H' => Hold (∃ tv, Told K H0 p s d z A r q st k qk f f2 pv7 tv H' ∧ σ' = [some (.ref p), some (.ref s), some (.ref d), some (vS q), some (.int (r : Nat)), some (.ref f), some (.ref f2), some pv7, some tv]), ?_, fun σ' H4 pv => ?_⟩
  · have ho3 := B3.S.o
    have lq := fn.qsl
    have lg := fn.gl
    have la := fn.al
    have n25 := fn.n25
    obtain rfl | rfl | rfl : r = 0 ∨ r = 1 ∨ r = 2 := by omega
    · obtain ⟨s0, rfl⟩ := h1 rfl
      walk_at "go"
      refine ⟨fun _ E hE => ?_, fun e => absurd e (by decide), fun e => (e rfl).elim⟩
      refine ⟨_, _, rfl, s, c, A.qs, A.log, A.ms, A.at_, q, s0, rfl, rfl, hok _ (by simp), B3.S, hlast, by omega, by omega, fit, fun r2 e2 H' t => ?_, fun e2 dd H' hd kd t => ?_⟩
      · rcases alt with ⟨e3, rfl⟩ | ⟨g, s1, rfl, kg, e3, e4⟩
        · subst e3
          obtain rfl : r2 = qk := by
            have : runS q [s0] = some qk := hk
            rw [runS_one, e2] at this
            exact Option.some.inj this
          refine .mk ⟨_, told_win B3 k2 nf2 hst3 nf rfl ?_, rfl⟩
          rw [show (outA 0 A q [s0] [s0].length true) = ⟨A.qs ++ [r2], A.log ++ [s0], A.ms, A.at_⟩ from by unfold outA; rw [trace_one e2]; rfl]
          exact t
        · exfalso
          exact fail_no (k := 1) (st := [s0]) (show runS q [s0] = some r2 from e2) (List.getElem?_eq_some_iff.mp e3).1 hk e3 e4
      · refine hE _ _ _ ⟨rfl, dd, 0, rfl, kd, fun g' hg' => ?_⟩
        rcases alt with ⟨e3, rfl⟩ | ⟨g, s1, rfl, kg, e3, e4⟩
        · exfalso
          subst e3
          have : runS q [s0] = some qk := hk
          rw [runS_one, e2] at this
          cases this
        · obtain rfl : k = 0 := by
            have := (List.getElem?_eq_some_iff.mp e3).1
            rw [List.length_singleton] at this
            omega
          exact .mk ⟨_, told_fail (r := 0) B3 k2 nf2 hst3 nf kg (fail_aa B3 kg) t hg', rfl⟩
    · walk_at "go"
      refine ⟨fun _ E hE => ?_, fun _ e => (e rfl).elim⟩
      refine ⟨_, _, rfl, s, c, A.qs, A.log, A.ms, A.at_, q, f, st, rfl, rfl, B3.S, hst3, nf, hlast, by omega, by omega, by omega, by omega, by omega, hok, fit, fun r2 e2 H' t => ?_, fun i qi s0 e2 e5 e6 dd H' hd kd t => ?_⟩
      · rcases alt with ⟨e3, rfl⟩ | ⟨g, s1, rfl, kg, e3, e4⟩
        · subst e3
          obtain rfl : r2 = qk := by
            rw [List.take_length, e2] at hk
            exact Option.some.inj hk
          exact .mk ⟨_, told_win B3 k2 nf2 hst3 nf rfl t, rfl⟩
        · exfalso
          exact fail_no (k := st.length) (by rw [List.take_length]; exact e2) (List.getElem?_eq_some_iff.mp e3).1 hk e3 e4
      · refine hE _ _ _ ⟨rfl, dd, i, rfl, kd, fun g' hg' => ?_⟩
        have il := (List.getElem?_eq_some_iff.mp e5).1
        rcases alt with ⟨e3, rfl⟩ | ⟨g, s1, rfl, kg, e3, e4⟩
        · exfalso
          exact fail_no hk (by omega) e2 e5 e6
        · obtain rfl : i = k := by
            rcases Nat.lt_trichotomy i k with z | z | z
            · exact (fail_no hk z e2 e5 e6).elim
            · exact z
            · exact (fail_no e2 z hk e3 e4).elim
          exact .mk ⟨_, told_fail (r := 1) B3 k2 nf2 hst3 nf kg (fail_aa B3 kg) t hg', rfl⟩
    · walk_at "go"
      intro _ _ E hE
      refine ⟨_, _, rfl, s, c, A.qs, A.log, A.ms, A.at_, q, f, st, rfl, rfl, B3.S, hst3, nf, hlast, by omega, by omega, by omega, hok, fit, fun r2 e2 H' t => ?_, fun i qi s0 e2 e5 e6 dd H' hd kd t => ?_⟩
      · rcases alt with ⟨e3, rfl⟩ | ⟨g, s1, rfl, kg, e3, e4⟩
        · subst e3
          obtain rfl : r2 = qk := by
            rw [List.take_length, e2] at hk
            exact Option.some.inj hk
          exact .mk ⟨_, told_win B3 k2 nf2 hst3 nf rfl t, rfl⟩
        · exfalso
          exact fail_no (k := st.length) (by rw [List.take_length]; exact e2) (List.getElem?_eq_some_iff.mp e3).1 hk e3 e4
      · refine hE _ _ _ ⟨rfl, dd, i, rfl, kd, fun g' hg' => ?_⟩
        have il := (List.getElem?_eq_some_iff.mp e5).1
        rcases alt with ⟨e3, rfl⟩ | ⟨g, s1, rfl, kg, e3, e4⟩
        · exfalso
          exact fail_no hk (by omega) e2 e5 e6
        · obtain rfl : i = k := by
            rcases Nat.lt_trichotomy i k with z | z | z
            · exact (fail_no hk z e2 e5 e6).elim
            · exact z
            · exact (fail_no e2 z hk e3 e4).elim
          exact .mk ⟨_, told_fail (r := 2) B3 k2 nf2 hst3 nf kg (fail_aa B3 kg) t hg', rfl⟩
  obtain ⟨tv, ⟨ok, c4, B4, al4, k24, hst4⟩, rfl⟩ := pv.out
  clear pv B3 hst3 k2
  refine ⟨fun σ' H' => Hold (Same H4 H' ∧ σ' = [some (.ref p), some (.ref s), some (.ref d), some (vS q), some (.int (r : Nat)), some (.ref f), some (.ref f2), some pv7, some tv]), ?_, fun σ' H5 pv => ?_⟩
  · rcases al4 with ⟨e1, e2, rfl, rfl⟩ | ⟨e1, g, g', rfl, rfl, kg, kg'⟩
    · have hla4 := last_map (trace_last (qs := [q]) rfl hk)
      walk_at "go"
      refine .inl ⟨_, _, rfl, rfl, _, rfl, ite_n (fun e => (e rfl).elim) fun _ => ?_⟩
      exact .mk ⟨Same.refl _, rfl⟩
    · walk_at "go"
      refine .inr ⟨g', g, [.s failW, .i k], [.s failW, .i k], rfl, rfl, kg', kg, rfl, rfl, _, rfl, ite_n (fun e => (e rfl).elim) fun _ => ?_⟩
      exact .mk ⟨Same.refl _, rfl⟩
  obtain ⟨s5, rfl⟩ := pv.out
  clear pv
  have B5 := B4.same s5
  have k25 := s5 _ _ k24
  have hst5 : StL H5 f st := s5 _ _ hst4
  clear B4 k24 hst4 alt hlast hla hql hit
  have lenE : ((([q] ++ traceR q (st.take k)).map vS).length : Int) - 1 = ((k : Nat) : Int) := by
    rw [List.length_map, List.length_append, trace_len hk, List.length_take, Nat.min_eq_left hkl, List.length_singleton]
    omega
  refine ⟨fun σ' H' => Hold (∃ z', Both K H0 H' p s d c4 z' (outA r A q st k ok) ⟨A.qs, A.log, A.ms, if r = 1 then A.at_ ++ [(st.length, k)] else A.at_⟩ ∧ H' f2 = some (.lst (([q] ++ traceR q (st.take k)).map vS)) ∧ StL H' f st ∧
    σ' = [some (.ref p), some (.ref s), some (.ref d), some (vS q), some (.int (r : Nat)), some (.ref f), some (.ref f2), some pv7, some tv]), ?_, fun σ' H6 pv => ?_⟩
  · have ga := mod_a B5.M.o
    have ho := B5.M.o
    have lal := fn.al
    walk_at "go"
    refine ite_d (fun e => ?_) fun e => ?_
    · have e : r = 1 := by omega
      obtain ⟨ts, ha, hb⟩ := B5.M.a
      have tl : ts.length = A.at_.length := by
        have := Paired.length hb
        rw [List.length_map] at this
        exact this
      walk_at "go"
      intro t ht
      have eT : HO.tup [V.int ((st.map vT).length : Int), V.int (((([q] ++ traceR q (st.take k)).map vS).length : Int) - 1)] = HO.tup ((rowA (st.length, k)).map FD.v) := by rw [lenE, List.length_map]; rfl
      rw [eT]
      have s6 := Same.new (o := HO.tup ((rowA (st.length, k)).map FD.v)) ht
      have kt := upd_same (H := H5) (a := t) (o := HO.tup ((rowA (st.length, k)).map FD.v))
      generalize upd H5 t (HO.tup ((rowA (st.length, k)).map FD.v)) = H6 at s6 kt ⊢
      walk_at "go"
      intro l hl6
      have s0 := Same.new (o := .lst [V.ref t]) hl6
      have s7 := s6.trans s0
      have kt7 := s0 _ _ kt
      have kl := upd_same (H := H6) (a := l) (o := .lst [V.ref t])
      clear s0
      generalize upd H6 l (.lst [V.ref t]) = H7 at s7 kt7 kl ⊢
      have ha7 := s7 _ _ ha
      have lz : (ts.map V.ref).length + [V.ref t].length < sizeLine := by rw [List.length_map]; exact small20 (by show ts.length + 1 ≤ 20000; omega)
      walk_at "go"
      intro m hm
      have s0 := Same.new (o := .lst (ts.map V.ref ++ [V.ref t])) hm
      have s8 := s7.trans s0
      have kt8 := s0 _ _ kt7
      have km := upd_same (H := H7) (a := m) (o := .lst (ts.map V.ref ++ [V.ref t]))
      have nma := (B5.S.same s7).aa hm
      have nmd := ne_new (s7 _ _ ho) hm
      clear s0
      generalize upd H7 m (.lst (ts.map V.ref ++ [V.ref t])) = H8 at s8 kt8 km ⊢
      have dp := put_a m (s8 _ _ ho)
      walk_at "go"
      have nqd : z.qa ≠ d := ne_of B5.M.q ho (by intro z; cases z)
      have nld : z.la ≠ d := ne_of B5.M.l ho (by intro z; cases z)
      have nfd : f ≠ d := ne_of hst5 ho (by intro z; cases z)
      have nf2d : f2 ≠ d := ne_of k25 ho (by intro z; cases z)
      have ntd : t ≠ d := ne_of kt8 (s8 _ _ ho) (by intro z; cases z)
      refine .mk ⟨{ z with aa := m }, B5.mod ⟨upd_same, (upd_ne nqd).trans (s8 _ _ B5.M.q), (upd_ne nld).trans (s8 _ _ B5.M.l), (upd_ne B5.M.nm).trans (s8 _ _ B5.M.m), ?_, B5.M.nm⟩ (But.same s8).upd B5.mm B5.qa B5.la nma, (upd_ne nf2d).trans (s8 _ _ k25), (upd_ne nfd).trans (s8 _ _ hst5), rfl⟩
      rw [if_pos e, List.map_append]
      exact Rows.snoc (H := H5) hb ((upd_ne nmd).trans km) ((upd_ne ntd).trans kt8) fun b l e => (upd_ne (ne_of e ho (by intro z; cases z))).trans (s8 _ _ e)
    · walk_at "go"
      refine .mk ⟨z, ?_, k25, hst5, rfl⟩
      rw [if_neg (fun z => e (by omega))]
      exact B5
  obtain ⟨z', B6, k26, hst6, rfl⟩ := pv.out
  clear pv B5 k25 hst5
  have lal := fn.al
  have lq := fn.qsl
  have lg := fn.gl
  rcases al4 with ⟨rfl, rfl, rfl, rfl⟩ | ⟨rfl, g, g', rfl, rfl, kg, kg'⟩
  · rw [List.take_length] at hk k26
    have l1 : A.qs.length + (traceR q st).length ≤ 5000 := by rw [trace_len hk]; omega
    have l2 : A.log.length + st.length ≤ 5000 := by omega
    have hM := B6.M
    walk_at "go"
    have at1 : (if r = 1 then A.at_ ++ [(st.length, st.length)] else A.at_).length ≤ A.at_.length + 1 := by split <;> simp
    refine ite_d (fun e => ?_) fun e => ?_
    · have e : r < 2 := by omega
      walk_at "go"
      intro q2 l2 H7 hM7 hq2 hl2 b7
      have B7 := B6.mod (B' := ⟨A.qs ++ traceR q st, A.log ++ st, A.ms, if r = 1 then A.at_ ++ [(st.length, st.length)] else A.at_⟩) hM7 b7 B6.mm (B6.S.aa hq2) (B6.S.aa hl2) B6.aa
      rw [show outA r A q st st.length true = ⟨A.qs ++ traceR q st, A.log ++ st, A.ms, if r = 1 then A.at_ ++ [(st.length, st.length)] else A.at_⟩ from by unfold outA; rw [if_pos ⟨e, rfl⟩, if_pos ⟨e, rfl⟩]] at B7
      walk_at "go"
      exact h _ _ _ _ _ B7 (fn.run hn at1 hok hl hk)
    · have e : ¬ r < 2 := fun z => e (by omega)
      rw [show outA r A q st st.length true = ⟨A.qs, A.log, A.ms, if r = 1 then A.at_ ++ [(st.length, st.length)] else A.at_⟩ from by unfold outA; rw [if_neg (fun z => e z.1), if_neg (fun z => e z.1)]] at B6
      walk_at "go"
      exact h _ _ _ _ _ B6 (fn.wait hn at1)
  · have at1 : (if r = 1 then A.at_ ++ [(st.length, k)] else A.at_).length ≤ A.at_.length + 1 := by split <;> simp
    rw [show outA r A q st k false = ⟨A.qs, A.log, A.ms, if r = 1 then A.at_ ++ [(st.length, k)] else A.at_⟩ from by unfold outA; rw [if_neg (fun z => by cases z.2), if_neg (fun z => by cases z.2)]] at B6
    walk_at "go"
    refine ite_d (fun e => by cases e) fun _ => ?_
    walk_at "go"
    exact h _ _ _ _ _ B6 (fn.wait hn at1)
end
end Qe

namespace Qe
open PySem PySem.Spec PyProof.Rows L2 He
/-! ## what the look effects of a session's log are -/
theorem tail_pre {k1 k2 k : Col} (i1 : k1.inv) (t : Tail k1 k2 k) : k1.p.drop k1.t <+: k2.p ++ k1.p.drop k1.t := by
  by_cases e : k2.p = []
  · rw [e]; exact List.prefix_rfl
  · have h := prefix_drop (t.ok e) k1.t
    have z : (k1.p.take k1.t).length = k1.t := by rw [List.length_take, Nat.min_eq_left i1.t1]
    have y : (k1.p.take k1.t ++ k2.p).drop k1.t = k2.p := by rw [List.drop_append, z, Nat.sub_self, List.drop_zero, List.drop_of_length_le (Nat.le_of_eq z), List.nil_append]
    rw [t.p, if_neg e, y] at h
    exact h.trans (List.prefix_append _ _)
/-- the effect of the whole log -/
theorem right_all {q0 q : List Nat} {n : Nat} {A : Stt} (h : Fine q0 n A q) : ∃ k, colR Col0 A.log = some k ∧ k.inv ∧ Fit q0 q k ∧ k.p.length ≤ 2000 ∧ k.w.length ≤ 2000 := by
  obtain ⟨k, e, f⟩ := fit_run Col0.inv (fit0 q0) h.ok h.past.last
  have := colR_len e
  have := h.gl
  have c0 : Col0.p.length = 0 := rfl
  have c1 : Col0.w.length = 0 := rfl
  exact ⟨k, e, colR_inv Col0.inv h.ok e, f, by omega, by omega⟩
/-- the effects up to a mark and since -/
theorem right_at {q0 q : List Nat} {n : Nat} {A : Stt} {k : Col} (h : Fine q0 n A q) (e : colR Col0 A.log = some k) {j : Nat} (hj : j ≤ A.log.length) : ∃ k1 k2 r, colR Col0 (A.log.take j) = some k1 ∧ k1.inv ∧ k1.p.length ≤ 2000 ∧ k1.w.length ≤ 2000 ∧ colR Col0 (A.log.drop j) = some k2 ∧ k2.inv ∧ k2.p.length ≤ 2000 ∧ k2.w.length ≤ 2000 ∧
    A.qs[j]? = some r ∧ isQ r ∧ Fit r q k2 ∧ (effOf k1).comp (effOf k2) = effOf k ∧ k1.p.drop k1.t <+: k2.p ++ k1.p.drop k1.t := by
  obtain ⟨r, e1, e2⟩ := h.past.at_ j hj
  have ok1 : ∀ s ∈ A.log.take j, s.ok := fun s hs => h.ok s (List.mem_of_mem_take hs)
  have ok2 : ∀ s ∈ A.log.drop j, s.ok := fun s hs => h.ok s (List.mem_of_mem_drop hs)
  obtain ⟨k1, c1, _⟩ := fit_run Col0.inv (fit0 q0) ok1 e1
  have i1 := colR_inv Col0.inv ok1 c1
  have e3 : runS r (A.log.drop j) = some q := by
    have := h.past.last
    rw [← List.take_append_drop j A.log] at this
    obtain ⟨r2, z1, z2⟩ := runS_split this
    rw [e1] at z1
    cases z1
    exact z2
  obtain ⟨k2, c2, f2⟩ := fit_run Col0.inv (fit0 r) ok2 e3
  have c3 : colR k1 (A.log.drop j) = some k := by
    rw [← List.take_append_drop j A.log, colR_app, c1] at e
    exact e
  obtain ⟨k3, c4, t, i3⟩ := tail_run i1 Col0.inv i1 (tail0 i1) ok2 c3
  rw [c2] at c4
  cases c4
  have := h.gl
  have l1 := colR_len c1
  have l2 := colR_len c2
  have z0 : Col0.p.length = 0 := rfl
  have z1 : Col0.w.length = 0 := rfl
  rw [List.length_take] at l1
  rw [List.length_drop] at l2
  have lr := runS_len e1
  rw [List.length_take] at lr
  have := h.l0
  exact ⟨k1, k2, r, c1, i1, by omega, by omega, c2, i3, by omega, by omega, e2, ⟨by omega, runS_it ok1 h.i0 e1⟩, f2, comp_eq i1 i3 t, tail_pre i1 t⟩
theorem fit_apply {q0 q : List Nat} {k : Col} (f : Fit q0 q k) : (q0 ++ (effOf k).w).drop (effOf k).t = q := f.now.symm
/-- a session seen while one dict is written -/
theorem isSes.butd {K : PySem.W.Frag} {H H' : Hp} {s y : Addr} {c : SesA} {qs : List (List Nat)} {log : List Step} {mk : List Mk1} {at_ : List (Nat × Nat)} {kvs : List (Key × V)} (h : isSes K H s c qs log mk at_) (b : But y H H') (hy : H y = some (.dK kvs)) (n : c.ma ≠ y) : isSes K H' s c qs log mk at_ := by
  obtain ⟨ts, ha, _⟩ := id h.a
  exact ⟨b _ _ h.o (ne_of h.o hy (by intro z; cases z)), b _ _ h.q (ne_of h.q hy (by intro z; cases z)), b _ _ h.l (ne_of h.l hy (by intro z; cases z)), b _ _ h.m n, h.a.butx b (ne_of ha hy (by intro z; cases z)) hy (by intros; intro z; cases z), h.nq, h.nl⟩
theorem isSes.butF {K : PySem.W.Frag} {H H' : Hp} {s y : Addr} {c : SesA} {qs : List (List Nat)} {log : List Step} {mk : List Mk1} {at_ : List (Nat × Nat)} {o : Obj} {u : HO} (h : isSes K H s c qs log mk at_) (b : But y H H') (hy : H y = some (.frz o u)) : isSes K H' s c qs log mk at_ := by
  obtain ⟨ts, ha, _⟩ := id h.a
  exact ⟨b _ _ h.o (ne_of h.o hy (by intro z; cases z)), b _ _ h.q (ne_of h.q hy (by intro z; cases z)), b _ _ h.l (ne_of h.l hy (by intro z; cases z)), b _ _ h.m (ne_of h.m hy (by intro z; cases z)), h.a.butx b (ne_of ha hy (by intro z; cases z)) hy (by intros; intro z; cases z), h.nq, h.nl⟩
/-- marks set at the end, one by one -/
def atEnd (l : List Mk1) (e : Nat) : List Mk1 := l.map fun m => (m.1, e)
theorem atEnd_keys (l : List Mk1) (e : Nat) : (atEnd l e).map (·.1) = l.map (·.1) := by unfold atEnd; rw [List.map_map]; rfl
theorem atEnd_put {l : List Mk1} {i e : Nat} {m : Mk1} (nd : (l.map (·.1)).Nodup) (h : l[i]? = some m) : putM (atEnd (l.take i) e) m.1 e = atEnd (l.take (i + 1)) e := by
  rw [putM_new fun x hx => ?_]
  · rw [take_snoc h]
    unfold atEnd
    rw [List.map_append]; rfl
  · obtain ⟨y, hy, rfl⟩ := List.mem_map.mp hx
    exact take_ne nd h y hy
/-- all marks stand at the end: told twice -/
theorem atEnd_all {l : List Mk1} (nd : (l.map (·.1)).Nodup) (e : Nat) : ((atEnd l e).all fun m => decide (mLook l m.1 = some m.2)) = decide ((l.map (·.2)).filter (fun x => !decide (x = e)) = []) := by
  rw [Bool.eq_iff_iff, List.all_eq_true, decide_eq_true_iff, List.filter_eq_nil_iff]
  refine ⟨fun h x hx => ?_, fun h m hm => ?_⟩
  · obtain ⟨m, hm, rfl⟩ := List.mem_map.mp hx
    have := of_decide_eq_true (h (m.1, e) (List.mem_map.mpr ⟨m, hm, rfl⟩))
    rw [mLook_of nd (p := m.2) hm] at this
    rw [Option.some.inj this]
    simp
  · obtain ⟨y, hy, rfl⟩ := List.mem_map.mp hm
    have := h y.2 (List.mem_map.mpr ⟨y, hy, rfl⟩)
    refine decide_eq_true ?_
    show mLook l y.1 = some e
    rw [mLook_of nd (p := y.2) hy]
    simp at this
    rw [this]
end Qe

namespace Qe
open PySem PySem.Spec PyProof.Rows L2 He
local macro_rules | `(tactic| walk_at "lk") => `(tactic| first
  | assumption
  | exact upd_same
  | (refine (upd_ne (by assumption)).trans ?_; walk_at "lk"))
local macro_rules | `(tactic| walk_at "sd") => `(tactic| first
  | rfl
  | assumption
  | exact SqL.of (by walk_at "lk")
  | exact .inl (SqL.of (by assumption))
  | exact SqT.of (by assumption)
  | exact ⟨_, SqL.of (by assumption)⟩
  | exact .inr (SqT.of (by assumption))
  | exact .inl ⟨rfl, _, SqL.of (by assumption)⟩
  | exact upd_same
  | (refine (upd_ne (by assumption)).trans ?_; walk_at "lk")
  | exact ⟨_, rfl⟩
  | exact NN.none
  | exact NN.some (by omega)
  | exact lt1
  | exact lt2
  | exact lt3
  | exact lt4
  | exact sz0
  | exact sz1
  | exact sz2
  | exact sz3
  | exact sz4
  | exact small20 (by first | omega | (rw [List.length_map]; omega))
  | exact True.intro
  | omega
  | (dsimp only [List.length_cons, List.length_nil]; omega))
local macro_rules | `(tactic| walk_at "go") => `(tactic| first
  | ((with_reducible refine tSeq_i ?_); walk_at "go")
  | ((with_reducible refine gName_i ?_); walk_at "go")
  | ((with_reducible refine tNext_i ?_); walk_at "go")
  | ((with_reducible refine iteT ?_); walk_at "go")
  | ((with_reducible refine iteF ?_); walk_at "go")
  | (with_reducible refine (show tLockE _ _ _ _ from ?_))
  | (with_reducible refine (show tLock _ _ _ _ from ?_))
  | (with_reducible refine (show (∃ W : Nat → Nat → L2.St → Hp → Prop, _) from ?_))
  | (with_reducible refine (show C8.tCut _ _ _ _ _ from ?_))
  | (with_reducible refine (show tWhile _ _ _ _ _ from ?_))
  | (apply Exists.intro; walk_at "go")
  | (apply And.intro; (focus (walk_at "sd")); walk_at "go")
  | skip)

section
variable {P : Program} {w : World} {K : PySem.W.Frag}
      {mg : Str → Option Value} {base : Heap}

def sp_law_move (K : PySem.W.Frag) : Sp := TurnSp K
theorem ok_law_move (T : Tx K mg) : Fx P w K mg base CX0 8 (A_law_move K) (sp_law_move K) := by
  obtain ⟨fd, F⟩ := T.D_law_move
  refine fx_of F sc_law_move (F.bindsN fun _ _ _ _ _ _ us hl => match us, hl with | [_, _, _], _ => rfl) S3.len fun cdv A outer s H vs Q E hr h => ?_
  obtain ⟨a0, a1, a2, rfl, h⟩ := h
  refine ⟨_, PSs.nox (pss_cons (ps_par (i := 3) (j := 4) rfl sc_law_move.nd rfl rfl (by decide) rfl rfl (pa_cons (pcall (ok_law_draw T) T.g_law_draw hr (by decide) rfl pass0 (pa_cons (pv 0) (pa_cons pe_int pa_nil))) (pa_cons (pe_callB call_len_seq rfl T.f_len boot_len (pa_cons (pe_dget (hu_of hr) (pv 2) pe_str (fun _ _ => rfl)) pa_nil)) pa_nil)) (by rfl))
    (pss_cons (ps_if (pt_cmpR op_lt (pv 3) pe_int (nomark _)) (pss_one (ps_ret (pcall (ok_law_turn T) T.g_law_turn hr (by decide) rfl pass0 (pa_cons (pv 0) (pa_cons (pv 1) (pa_cons (pv 2) pa_nil)))))) pss_nil)
    (C8.pss_cut (ps_if (PW.pt (pw_and (pt_cmpR op_eqI (pv 3) pe_int (nomark _)) (pw_and1 (pt_cmpR op_gt (pv 4) pe_int (nomark _))))) (pss_cons (ps_set (i := 5) sc_law_move.nd rfl (.inl rfl) (pe_op op_add pe_int (pcall (ok_law_draw T) T.g_law_draw hr (by decide) rfl pass0 (pa_cons (pv 0) (pa_cons (pv 4) pa_nil)))))
    (pss_cons (ps_expr (pcall (ok_law_cut T) T.g_law_cut hr (by decide) rfl pass0 (pa_cons (pv 2) (pa_cons (pe_op op_sub (pv 4) (pv 5)) pa_nil))))
    (pss_one (ps_ret (pe_cmpR op_eqW (pmethK (ok_Session_undo T) T.c_Session T.m_Session_undo hr (by decide) pass0 (pv 1) (pk_cons (pv 5) pk_nil)) (pe_ix ix_list (pe_dget (hu_of hr) (pv 2) pe_str (fun _ _ => rfl)) (pe_un un_neg pe_int) (fun _ _ => rfl)) (nomark _)))))) pss_nil)
    (pss_cons (ps_set (i := 6) sc_law_move.nd rfl (.inl rfl) (pe_ix ix_strW (pe_sC [97, 98] (by decide +kernel)) (pcall (ok_law_draw T) T.g_law_draw hr (by decide) rfl pass0 (pa_cons (pv 0) (pa_cons pe_int pa_nil))) (fun _ _ => rfl)))
    (C8.pss_cut (ps_if (PW.pt (pw_and (pt_cmpR op_eqI (pv 3) pe_int (nomark _)) (pw_and1 (pt_cmp (pc_din (hu_of hr) (pv 6) (pe_dget (hu_of hr) (pv 2) pe_str (fun _ _ => rfl))))))) (pss_cons (ps_expr (pcall (ok_law_cut T) T.g_law_cut hr (by decide) rfl pass0 (pa_cons (pv 2) (pa_cons (pe_dget (hu_of hr) (pe_dget (hu_of hr) (pv 2) pe_str (fun _ _ => rfl)) (pv 6) (fun _ _ => rfl)) pa_nil))))
    (pss_one (ps_ret (pe_cmpR op_eqW (pmeth (ok_Session_rewind T) T.c_Session T.m_Session_rewind hr (by decide) pass0 (pv 1) (pa_cons (pv 6) pa_nil)) (pe_ix ix_list (pe_dget (hu_of hr) (pv 2) pe_str (fun _ _ => rfl)) (pe_un un_neg pe_int) (fun _ _ => rfl)) (nomark _))))) pss_nil)
    (pss_cons (ps_set (i := 7) sc_law_move.nd rfl (.inl rfl) (pe_callTy call_dictD rfl T.f_dict boot_dict (pa_cons (pe_dget (hu_of hr) (pv 2) pe_str (fun _ _ => rfl)) pa_nil)))
    (pss_cons (ps_dput (hu_of hr) (pv 7) (pv 6) (pv 4) rfl)
    (pss_cons (ps_dput (hu_of hr) (pv 2) pe_str (pv 7) rfl)
    (pss_one (ps_ret (pe_cmpR op_isN (pmeth (ok_Session_mark T) T.c_Session T.m_Session_mark hr (by decide) pass0 (pv 1) (pa_cons (pv 6) pa_nil)) pe_non (nomark _)))))))))))), ?_⟩
  obtain ⟨H0, p, s, d, c, z, A, q0, q, n, rfl, rfl, rfl, B0, fn, hn, h⟩ := h
  have hp0 := B0.pl
  have lg := fn.gl
  have lm := fn.two
  have cl := T.c_Session
  walk_at "go"
  intro r H1 hr0 hp1 b1
  have hr6 : r < 6 := hr0
  have B1 := B0.pool b1 hp1
  clear hr0 hp0
  have g1 := mod_l B1.M.o
  have hl1 := B1.M.l
  walk_at "go"
  rw [List.length_map]
  refine ite_d (fun e => ?_) fun e => ?_
  · refine ⟨_, rfl, _, rfl, _, rfl, _, _, _, rfl, H0, p, s, d, c, z, A, q0, q, n, rfl, rfl, rfl, B1, fn, hn, h⟩
  walk_at "go"
  refine ⟨fun σ' H' => Hold (H' = H1 ∧ ∃ x5 x6 x7, σ' = [some (.ref p), some (.ref s), some (.ref d), some (.int (r : Nat)), some (.int (A.log.length : Nat)), x5, x6, x7]), ?_, fun σ' H2 pv => ?_⟩
  · walk_at "go"
    refine ite_d (fun e3 => ?_) fun e3 => ?_
    · walk_at "go"
      refine ite_d (fun e4 => ?_) fun e4 => ?_
      · have n0 : 0 < A.log.length := by omega
        have n1 : A.log.length < 100000 := by omega
        walk_at "go"
        intro k H2 hk0 hp2 b2
        have hk : k < A.log.length := hk0
        have B2 := B1.pool b2 hp2
        obtain ⟨q1, e5, e6, f2⟩ := fn.cut hn (k := A.log.length - (1 + k)) (Nat.sub_le _ _)
        have hM2 := B2.M
        have nd := fn.nd
        have l64 : A.ms.length ≤ 64 := by omega
        have n5 : A.log.length - (1 + k) ≤ 5000 := by omega
        have eI : V.int ((A.log.length : Int) - (1 + (k : Int))) = V.int ((A.log.length - (1 + k) : Nat) : Int) := congrArg V.int (by omega)
        walk_at "go"
        intro q2 l2 m2 H3 hM3 hq2 hl2 hm2 b3
        have B3 := B2.mod (B' := ⟨A.qs.take (A.log.length - (1 + k) + 1), A.log.take (A.log.length - (1 + k)), A.ms.filter fun m => decide (m.2 ≤ A.log.length - (1 + k)), A.at_⟩) hM3 b3 (ne_new B2.S.m hm2) (B2.S.aa hq2) (B2.S.aa hl2) B2.aa
        have ho3 := B3.S.o
        have hS3 := B3.S
        have eI2 : V.int (1 + (k : Int)) = V.int ((1 + k : Nat) : Int) := congrArg V.int (by omega)
        have k1 : 1 ≤ 1 + k := by omega
        have k2 : 1 + k ≤ A.log.length := by omega
        walk_at "go"
        intro H4 sc
        obtain ⟨c', B4⟩ := B3.sesCut (A' := ⟨A.qs.take (A.log.length - (1 + k) + 1), A.log.take (A.log.length - (1 + k)), A.ms.filter fun m => decide (m.2 ≤ A.log.length - (1 + k)), A.at_⟩) sc
        have g4 := mod_q B4.M.o
        have hq4 := B4.M.q
        have la4 := last_map e6
        walk_at "go"
        rw [decide_eq_true rfl]
        exact h _ _ _ _ _ B4 f2
      · walk_at "go"
        exact .mk ⟨rfl, _, _, _, rfl⟩
    · walk_at "go"
      exact .mk ⟨rfl, _, _, _, rfl⟩
  obtain ⟨rfl, x5, x6, x7, rfl⟩ := pv.out
  clear pv
  walk_at "go"
  intro r2 H3 hr2 hp3 b3
  have hr2 : r2 < 2 := hr2
  have B3 := B1.pool b3 hp3
  obtain ⟨a, ea, hab⟩ : ∃ a, atI [97, 98] (r2 : Int) = some a ∧ (a = 97 ∨ a = 98) := by
    obtain rfl | rfl : r2 = 0 ∨ r2 = 1 := by omega
    · exact ⟨97, rfl, .inl rfl⟩
    · exact ⟨98, rfl, .inr rfl⟩
  walk_at "go"
  refine ⟨fun σ' H' => Hold (H' = H3 ∧ ∃ x5 x7, σ' = [some (.ref p), some (.ref s), some (.ref d), some (.int (r : Nat)), some (.int (A.log.length : Nat)), x5, some (vS [a]), x7]), ?_, fun σ' H4 pv => ?_⟩
  · have g3 := mod_m B3.M.o
    have hm3 := B3.M.m
    have dg := dget_any a hm3
    cases em : mLook A.ms a with
    | none =>
      rw [em] at dg
      walk_at "go"
      refine ite_d (fun e3 => ?_) fun e3 => ?_
      · walk_at "go"
        exact .mk ⟨rfl, _, _, rfl⟩
      · walk_at "go"
        exact .mk ⟨rfl, _, _, rfl⟩
    | some pl =>
      rw [em] at dg
      have dg : DGet H3 z.ma (vS [a]) (some (V.int (pl : Nat))) := dg
      have hmm := mLook_mem em
      obtain ⟨q1, e5, e6, f2⟩ := fn.cut hn (k := pl) (fn.ab _ hmm).2
      have hpl := (fn.ab _ hmm).2
      have hM2 := B3.M
      have nd := fn.nd
      have l64 : A.ms.length ≤ 64 := by omega
      have n5 : pl ≤ 5000 := by omega
      walk_at "go"
      refine ite_d (fun e3 => ?_) fun e3 => ?_
      · walk_at "go"
        intro q2 l2 m2 H5 hM5 hq2 hl2 hm2 b5
        have B5 := B3.mod (B' := ⟨A.qs.take (pl + 1), A.log.take pl, A.ms.filter fun m => decide (m.2 ≤ pl), A.at_⟩) hM5 b5 (ne_new B3.S.m hm2) (B3.S.aa hq2) (B3.S.aa hl2) B3.aa
        have ho5 := B5.S.o
        have hS5 := B5.S
        have low : isLow a = true := by rcases hab with rfl | rfl <;> rfl
        have eA : vS [a] = vS [((a, pl) : Mk1).1] := rfl
        walk_at "go"
        intro H6 sc
        obtain ⟨c', B6⟩ := B5.sesCut (A' := ⟨A.qs.take (pl + 1), A.log.take pl, A.ms.filter fun m => decide (m.2 ≤ pl), A.at_⟩) sc
        have g6 := mod_q B6.M.o
        have hq6 := B6.M.q
        have la6 := last_map e6
        walk_at "go"
        rw [decide_eq_true rfl]
        exact h _ _ _ _ _ B6 f2
      · walk_at "go"
        exact .mk ⟨rfl, _, _, rfl⟩
  obtain ⟨rfl, x5, x7, rfl⟩ := pv.out
  clear pv
  have g3 := mod_m B3.M.o
  have hm3 := B3.M.m
  have rd3 : Rd H4 z.ma (.dK (mkK A.ms)) := .inl hm3
  walk_at "go"
  intro m1 hm1
  have k1 := upd_same (H := H4) (a := m1) (o := .dK (mkK A.ms))
  have s1 := Same.new (o := .dK (mkK A.ms)) hm1
  have nmd := ne_new B3.M.o hm1
  have nmm := ne_new B3.S.m hm1
  generalize upd H4 m1 (.dK (mkK A.ms)) = H5 at k1 s1 ⊢
  have dp := dput_mk a A.log.length k1 (by omega)
  have s6 : Same H4 (upd H5 m1 (.dK (mkK (putM A.ms a A.log.length)))) := fun b o e => (upd_ne (ne_of_none e hm1)).trans (s1 _ _ e)
  have k6 := upd_same (H := H5) (a := m1) (o := .dK (mkK (putM A.ms a A.log.length)))
  generalize upd H5 m1 (.dK (mkK (putM A.ms a A.log.length))) = H6 at s6 k6 dp
  have B6 := B3.same s6
  have dp2 := put_m m1 B6.M.o
  have b7 : But d H6 (upd H6 d (.dK (modE { z with ma := m1 }))) := (But.same (Same.refl _)).upd
  obtain ⟨us, hu, _⟩ := B6.M.a
  have B7 := B6.mod (z' := { z with ma := m1 }) (B' := ⟨A.qs, A.log, putM A.ms a A.log.length, A.at_⟩) ⟨upd_same, b7 _ _ B6.M.q (ne_of B6.M.q B6.M.o (by intro z; cases z)), b7 _ _ B6.M.l (ne_of B6.M.l B6.M.o (by intro z; cases z)), b7 _ _ k6 nmd, B6.M.a.butx b7 (ne_of hu B6.M.o (by intro z; cases z)) B6.M.o (by intros; intro z; cases z), nmd⟩ b7 nmm B6.qa B6.la B6.aa
  have hS7 := B7.S
  have ho7 := hS7.o
  have l15 : A.ms.length ≤ 15 := by omega
  have low : isLow a = true := by rcases hab with rfl | rfl <;> rfl
  walk_at "go"
  intro H8 hS8 fr8
  have B8 := B7.ses (A' := ⟨A.qs, A.log, putM A.ms a A.log.length, A.at_⟩) hS8 rfl rfl fr8
  walk_at "go"
  exact h _ _ _ _ _ B8 (fn.put hn hab)
end
end Qe

namespace Qe
open PySem PySem.Spec PyProof.Rows L2 He
local macro_rules | `(tactic| walk_at "lk") => `(tactic| first
  | assumption
  | exact upd_same
  | (refine (upd_ne (by assumption)).trans ?_; walk_at "lk"))
local macro_rules | `(tactic| walk_at "sd") => `(tactic| first
  | rfl
  | assumption
  | exact SqL.of (by walk_at "lk")
  | exact .inl (SqL.of (by assumption))
  | exact SqT.of (by assumption)
  | exact ⟨_, SqL.of (by assumption)⟩
  | exact .inr (SqT.of (by assumption))
  | exact .inl ⟨rfl, _, SqL.of (by assumption)⟩
  | exact upd_same
  | (refine (upd_ne (by assumption)).trans ?_; walk_at "lk")
  | exact ⟨_, rfl⟩
  | exact NN.none
  | exact NN.some (by omega)
  | exact lt1
  | exact lt2
  | exact lt3
  | exact lt4
  | exact sz0
  | exact sz1
  | exact sz2
  | exact sz3
  | exact sz4
  | exact small20 (by first | omega | (rw [List.length_map]; omega))
  | exact True.intro
  | omega
  | (dsimp only [List.length_cons, List.length_nil]; omega))
local macro_rules | `(tactic| walk_at "go") => `(tactic| first
  | ((with_reducible refine tSeq_i ?_); walk_at "go")
  | ((with_reducible refine gName_i ?_); walk_at "go")
  | ((with_reducible refine tNext_i ?_); walk_at "go")
  | ((with_reducible refine iteT ?_); walk_at "go")
  | ((with_reducible refine iteF ?_); walk_at "go")
  | (with_reducible refine (show tLockE _ _ _ _ from ?_))
  | (with_reducible refine (show tLock _ _ _ _ from ?_))
  | (with_reducible refine (show (∃ W : Nat → Nat → L2.St → Hp → Prop, _) from ?_))
  | (with_reducible refine (show C8.tCut _ _ _ _ _ from ?_))
  | (with_reducible refine (show tWhile _ _ _ _ _ from ?_))
  | (apply Exists.intro; walk_at "go")
  | (apply And.intro; (focus (walk_at "sd")); walk_at "go")
  | skip)

section
variable {P : Program} {w : World} {K : PySem.W.Frag}
      {mg : Str → Option Value} {base : Heap}

def sp_law_right (K : PySem.W.Frag) : Sp := S2 fun a b H Q _ => ∃ (H0 : Hp) (p s d : Addr) (c : SesA) (z : MdA) (A : Stt) (q0 q : List Nat) (n : Nat), a = .ref s ∧ b = .ref d ∧
  Both K H0 H p s d c z A A ∧ Fine q0 n A q ∧ ∀ H', Same H H' → Q (.bl true) H'
theorem ok_law_right (T : Tx K mg) : Fx P w K mg base CX0 8 (A_law_right K) (sp_law_right K) := by
  obtain ⟨fd, F⟩ := T.D_law_right
  refine fx_of F sc_law_right (F.bindsN fun _ _ _ _ _ _ us hl => match us, hl with | [_, _], _ => rfl) S2.len fun cdv A outer s H vs Q E hr h => ?_
  obtain ⟨a0, a1, rfl, h⟩ := h
  refine ⟨_, PSs.nox (pss_cons (ps_asg (pe_tup (pa_cons (pe_dget (hu_of hr) (pv 1) pe_str (fun _ _ => rfl)) (pa_cons (pe_dget (hu_of hr) (pv 1) pe_str (fun _ _ => rfl)) pa_nil))) (pg_tup rfl (pgs_cons (pg_name (i := 2) sc_law_right.nd rfl (.inr rfl)) (pgs_cons (pg_name (i := 3) sc_law_right.nd rfl (.inl rfl)) pgs_nil))))
    (pss_cons (ps_par (i := 4) (j := 5) rfl sc_law_right.nd rfl rfl (by decide) rfl rfl (pa_cons (pcmeth (ok_Session_replayed T) T.cm_replayed hr (by decide) pass0 (pe_glob (v := .ref (ga K "Session")) rfl T.g_Session rfl) (pa_cons (pe_ix ix_list (pv 3) pe_int (fun _ _ => rfl)) (pa_cons (pv 2) pa_nil))) (pa_cons (pmeth0 (ok_Session_total T) T.c_Session T.m_Session_total hr (by decide) passN (pv 0)) pa_nil)) (by rfl))
    (C8.pss_cut (ps_if (PW.pt (pw_or (pt_cmpR op_neW (pprop (ok_Session_queue T) T.c_Session T.p_Session_queue hr (by decide) pass0 (pv 4) rfl) (pprop (ok_Session_queue T) T.c_Session T.p_Session_queue hr (by decide) pass0 (pv 0) rfl) (nomark _)) (pw_or (pt_cmpR (op_neLF hr.units) (pmeth0 (ok_Session_log T) T.c_Session T.m_Session_log hr (by decide) pass0 (pv 4)) (pmeth0 (ok_Session_log T) T.c_Session T.m_Session_log hr (by decide) pass0 (pv 0)) (nomark _)) (pw_or1 (pt_cmpR op_neW (pcall (ok_run_looking T) T.g_run_looking hr (by decide) rfl pass0 (pa_cons (pe_ix ix_list (pv 3) pe_int (fun _ _ => rfl)) (pa_cons (pv 2) pa_nil))) (pe_ix ix_list (pv 3) (pe_un un_neg pe_int) (fun _ _ => rfl)) (nomark _)))))) (pss_one (ps_ret pe_bl)) pss_nil)
    (C8.pss_cut (ps_if (PW.pt (pw_or (pt_cmpR (p_neO (ok_LookEffect_eq T) T.eq_LookEffect hr (by decide) pass0) (pv 5) (pcall (ok_look_effect_of T) T.g_look_effect_of hr (by decide) rfl pass0 (pa_cons (pv 2) pa_nil)) (nomark _)) (pw_or (pt_not (pt_val (pmeth (ok_LookEffect_accepts T) T.c_LookEffect T.m_LookEffect_accepts hr (by decide) pass0 (pv 5) (pa_cons (pe_ix ix_list (pv 3) pe_int (fun _ _ => rfl)) pa_nil)))) (pw_or1 (pt_cmpR op_neW (pmeth (ok_LookEffect_apply T) T.c_LookEffect T.m_LookEffect_apply hr (by decide) pass0 (pv 5) (pa_cons (pe_ix ix_list (pv 3) pe_int (fun _ _ => rfl)) pa_nil)) (pe_ix ix_list (pv 3) (pe_un un_neg pe_int) (fun _ _ => rfl)) (nomark _)))))) (pss_one (ps_ret pe_bl)) pss_nil)
    (pss_cons (ps_lock (ps_for PassesOwn.never rfl (pi_items (pe_dget (hu_of hr) (pv 1) pe_str (fun _ _ => rfl))) (pg_tup rfl (pgs_cons (pg_name (i := 6) sc_law_right.nd rfl (.inl rfl)) (pgs_cons (pg_name (i := 7) sc_law_right.nd rfl (.inl rfl)) pgs_nil))) (pss_cons (ps_set (i := 8) sc_law_right.nd rfl (.inl rfl) (pmeth (ok_Session_since T) T.c_Session T.m_Session_since hr (by decide) passN (pv 0) (pa_cons (pv 6) pa_nil)))
    (pss_cons (ps_if (PW.pt (pw_or (pt_cmpR op_neW (pmeth (ok_LookEffect_apply T) T.c_LookEffect T.m_LookEffect_apply hr (by decide) pass0 (pv 8) (pa_cons (pe_ix ix_list (pv 3) (pv 7) (fun _ _ => rfl)) pa_nil)) (pe_ix ix_list (pv 3) (pe_un un_neg pe_int) (fun _ _ => rfl)) (nomark _)) (pw_or1 (pt_cmpR (p_neO (ok_LookEffect_eq T) T.eq_LookEffect hr (by decide) pass0) (pcall (ok_compose_looks T) T.g_compose_looks hr (by decide) rfl pass0 (pa_cons (pcall (ok_look_effect_of T) T.g_look_effect_of hr (by decide) rfl pass0 (pa_cons (pe_slice sl_listN (pv 2) po_none (po_some (pv 7))) pa_nil)) (pa_cons (pv 8) pa_nil))) (pv 5) (nomark _))))) (pss_one (ps_ret pe_bl)) pss_nil)
    (pss_one (ps_expr (pmeth (ok_Session_mark T) T.c_Session T.m_Session_mark hr (by decide) pass0 (pv 4) (pa_cons (pv 6) pa_nil))))))))
    (pss_one (ps_ret (pe_cmpR op_eqBl (pe_cmpR (p_eqO (ok_Session_eq T) T.eq_Session hr (by decide) pass0) (pv 4) (pv 0) (nomark _)) (pe_cmpR (op_eqLF hr.units) (pe_lock (pe_lc (own := [("_law_size", 7)]) rfl sc_law_right.nd (pi_values (pe_dget (hu_of hr) (pv 1) pe_str (fun _ _ => rfl))) (blkOk_by (N := ["_law_session", "_law_model_here", "_law_log", "_law_queues", "_law_replayed", "_law_total", "_law_name", "_law_size", "_law_part"]) (sc := defScope s_law_right) (by decide +kernel)) (fun _ _ _ _ _ => by exact pg_name (i := 7) sc_law_right.nd rfl (.inl rfl)) (fun _ _ _ _ _ => by exact pts_one (pt_cmpR op_neI (pv 7) (pe_callB (call_len_seqK (K := K) rfl) rfl T.f_len boot_len (pa_cons (pv 2) pa_nil)) (nomark _))) (fun _ _ _ _ _ => by exact (pv 7)))) (pe_lst pa_nil) (nomark _)) (nomark _))))))))), ?_⟩
  obtain ⟨H0, p, s, d, c, z, A, q0, q, n, rfl, rfl, B0, fn, h⟩ := h
  have cl := T.c_Session
  have cl2 := T.c_LookEffect
  have lg := fn.gl
  have lm := fn.two
  have ok := fn.ok
  have hlast := fn.past.lastq
  have hla := last_map hlast
  have hfst : atI (A.qs.map vS) 0 = some (vS q0) := atI_nat (j := 0) (by rw [List.getElem?_map, fn.past.first]; rfl)
  have hrun := fn.past.last
  have l0 := fn.l0
  have iq0 : isQ q0 := ⟨by omega, fn.i0⟩
  have fit : fits q0 A.log := fits_of (by omega)
  obtain ⟨k, hk, ki, kf, kp, kw⟩ := right_all fn
  have hS := B0.S
  have hM := B0.M
  have nmm := B0.mm
  clear B0
  have g1 := mod_l hM.o
  have g2 := mod_q hM.o
  walk_at "go"
  intro T0 hT0
  have sT := Same.new (o := .tup [.ref z.la, .ref z.qa]) hT0
  have kT := upd_same (H := H) (a := T0) (o := .tup [.ref z.la, .ref z.qa])
  generalize upd H T0 (.tup [.ref z.la, .ref z.qa]) = H1 at sT kT ⊢
  have hS1 := hS.same sT
  have hM1 := hM.same sT
  have hq1 := hM1.q
  have hl1 := hM1.l
  have l4 : A.log.length ≤ 400 := by omega
  walk_at "go"
  intro x H2 cx hx hX0 hxm hxa s2
  have hX : isSes K H2 x cx ([q0] ++ traceR q0 A.log) A.log [] [] := hX0
  clear hX0
  have hS2 := hS1.same s2
  have hM2 := hM1.same s2
  have ho2 := hS2.o
  have hl2 := hS2.l
  have l40 : A.log.length ≤ 4000 := by omega
  have hlX : ([q0] ++ traceR q0 A.log).getLast? = some q := trace_last (qs := [q0]) rfl hrun
  generalize [q0] ++ traceR q0 A.log = ql at hX hlX
  walk_at "go"
  refine ⟨fun _ b H3 hb hL s3 => ?_, fun n => (n ⟨kp, kw⟩).elim⟩
  have nbx := ne_new hX.o hb
  have nbm := ne_new hX.m hb
  have nba := hX.aa hb
  have hX3 := hX.same s3
  have hS3 := hS2.same s3
  have hM3 := hM2.same s3
  have s03 : Same H H3 := ((sT.trans s2).trans s3)
  clear hX hS2 hM2 ho2 hl2 hS1 hM1 hq1 hl1 g1 g2
  have eok : (effOf k).ok := effOf_ok ki kp kw
  have kw2 : (effOf k).w.length ≤ 2000 := kw
  have acc := fit_acc kf
  have app := fit_apply kf
  have lok := logD_ok ok
  walk_at "go"
  refine ⟨fun σ' H' => Hold (Same H3 H' ∧ ∃ x6 x7 x8, σ' = [some (.ref s), some (.ref d), some (.ref z.la), some (.ref z.qa), some (.ref x), some (.ref b), x6, x7, x8]), ?_, fun σ' H4 pv => ?_⟩
  · have oX := hX3.o
    have qX := hX3.q
    have oS := hS3.o
    have qS := hS3.q
    walk_at "go"
    refine ite_n (fun e => (e rfl).elim) fun _ => ?_
    have lX := hX3.l
    walk_at "go"
    intro p1 H5 hp1 k1 s5
    have oS5 := s5 _ _ oS
    have lS5 := s5 _ _ hS3.l
    have k2 := k1.fd
    clear k1
    walk_at "go"
    intro p2 H6 hp2 k3 s6
    have k4 := s6 _ _ k2
    have k5 := k3.fd
    have lM := (hM3.same s5).same s6
    have lM6 := lM.l
    have qM6 := lM.q
    clear k3
    walk_at "go"
    refine ite_n (fun e => (e rfl).elim) fun _ => ?_
    walk_at "go"
    intro H7 s7
    have qM7 := s7 _ _ qM6
    walk_at "go"
    refine ite_n (fun e => (e rfl).elim) fun _ => ?_
    exact .mk ⟨(s5.trans s6).trans s7, _, _, _, rfl⟩
  obtain ⟨s4, x6, x7, x8, rfl⟩ := pv.out
  clear pv
  have s04 := s03.trans s4
  have hX4 := hX3.same s4
  have hS4 := hS3.same s4
  have hM4 := hM3.same s4
  have hL4 := hL.same s4
  clear hX3 hS3 hM3 hL s03 s4 s3
  refine ⟨fun σ' H' => Hold (Same H4 H' ∧ ∃ x6 x7 x8, σ' = [some (.ref s), some (.ref d), some (.ref z.la), some (.ref z.qa), some (.ref x), some (.ref b), x6, x7, x8]), ?_, fun σ' H5 pv => ?_⟩
  · have lM := hM4.l
    walk_at "go"
    intro f H5 hf hF s5
    have hL5 := hL4.same s5
    obtain ⟨db, ob5⟩ := id hL5
    obtain ⟨df, of5⟩ := id hF
    walk_at "go"
    intro H6 s6
    rw [decide_eq_true rfl]
    have hM6 := (hM4.same s5).same s6
    have hq6 := hM6.q
    have hL6 := hL5.same s6
    obtain ⟨db6, ob6⟩ := id hL6
    walk_at "go"
    intro H7 s7
    rw [acc]
    have hq7 := s7 _ _ hq6
    have hL7 := hL6.same s7
    obtain ⟨db7, ob7⟩ := id hL7
    walk_at "go"
    intro H8 s8
    rw [app]
    have hq8 := s8 _ _ hq7
    walk_at "go"
    refine ite_n (fun e => (e rfl).elim) fun _ => ?_
    exact .mk ⟨((s5.trans s6).trans s7).trans s8, x6, x7, x8, rfl⟩
  obtain ⟨s5, x6, x7, x8, rfl⟩ := pv.out
  clear pv
  have s05 := s04.trans s5
  have hX5 := hX4.same s5
  have hS5 := hS4.same s5
  have hM5 := hM4.same s5
  have hL5 := hL4.same s5
  clear hX4 hS4 hM4 hL4 s04 s5
  have g5 := mod_m hM5.o
  have m5 := hM5.m
  walk_at "go"
  refine ⟨z.ma, _, m5, True.intro, fun od => ?_⟩
  have b6 : But z.ma H (upd H5 z.ma (.frz od (.dK (mkK A.ms)))) := (But.same s05).upd
  have m6 := upd_same (H := H5) (a := z.ma) (o := .frz od (.dK (mkK A.ms)))
  have b56 : But z.ma H5 (upd H5 z.ma (.frz od (.dK (mkK A.ms)))) := (But.same (Same.refl _)).upd
  have hxma : cx.ma ≠ z.ma := fun e => by rw [e, sT _ _ hM.m] at hxm; cases hxm
  have hX6 := hX5.butd b56 m5 hxma
  obtain ⟨db5, ob5⟩ := id hL5
  have hL6 : isLE K _ b (effOf k) := ⟨db5, b56 _ _ ob5 (ne_of ob5 m5 (by intro z; cases z))⟩
  have hd6 := b56 _ _ hM5.o hM5.nm.symm
  clear ob5 hX5 hS5 hL5
  generalize upd H5 z.ma (.frz od (.dK (mkK A.ms))) = H6 at b6 m6 b56 hX6 hL6 hd6 ⊢
  have g6 := mod_m hd6
  walk_at "go"
  have hx0 : H x = none := by
    cases e : H x with
    | none => rfl
    | some o => rw [sT _ _ e] at hx; cases hx
  have hxm0 : H cx.ma = none := by
    cases e : H cx.ma with
    | none => rfl
    | some o => rw [sT _ _ e] at hxm; cases hxm
  have hxa0 : H cx.aa = none := by
    cases e : H cx.aa with
    | none => rfl
    | some o => rw [sT _ _ e] at hxa; cases hxa
  refine for_it (walk_items (kvs := mkK A.ms)) (fun i σ' H' => Hold (But z.ma H H' ∧ H' z.ma = some (.frz od (.dK (mkK A.ms))) ∧ isLE K H' b (effOf k) ∧ isSes K H' x cx ql A.log (atEnd (A.ms.take i) A.log.length) [] ∧ ∃ x6 x7 x8, σ' = [some (.ref s), some (.ref d), some (.ref z.la), some (.ref z.qa), some (.ref x), some (.ref b), x6, x7, x8]))
    (.mk ⟨b6, m6, hL6, hX6, _, _, _, rfl⟩) (fun i σ' H' _ q => q.out.2.1) (fun i y0 σ' H2 H3 hi pv y => ?_) fun σ' H2 pv => ?_
  · obtain ⟨U, x1, y1, rfl, hU, rfl, e1, e2⟩ := y
    obtain ⟨m, hmi, rfl, rfl⟩ := items_get hi e1 e2
    obtain ⟨bt, mt, hLt, hXt, w6, w7, w8, rfl⟩ := pv.out
    have hU3 : (upd H2 U (.tup [vS [m.1], V.int (m.2 : Nat)])) U = some (.tup [vS [m.1], V.int (m.2 : Nat)]) := upd_same
    have sU := Same.new (o := .tup [vS [m.1], V.int (m.2 : Nat)]) hU
    generalize upd H2 U (.tup [vS [m.1], V.int (m.2 : Nat)]) = H3 at hU3 sU ⊢
    have hmem := List.mem_of_getElem? hmi
    have ab := fn.ab m hmem
    obtain ⟨k1, k2, r, c1, i1, k1p, k1w, c2, i2, k2p, k2w, er, iqr, f2, ec, pre⟩ := right_at fn hk ab.2
    have low : isLow m.1 = true := by rcases ab.1 with e | e <;> rw [e] <;> rfl
    have nd := fn.nd
    have b3 : But z.ma H H3 := fun b o e n => sU _ _ (bt b o e n)
    have hS3 := hS.butd b3 hM.m nmm.symm
    have oS3 := hS3.o
    have lS3 := hS3.l
    have mS3 := hS3.m
    walk_at "go"
    refine ⟨fun _ b2 H4 hb2 hL2 s4 => ?_, fun n => (n ⟨k2p, k2w⟩).elim⟩
    have b4 : But z.ma H H4 := fun b o e n => s4 _ _ (b3 b o e n)
    have hq4 := b4 _ _ hM.q (ne_of hM.q hM.m (by intro z; cases z))
    have hl4 : StL H4 z.la A.log := b4 _ _ hM.l (ne_of hM.l hM.m (by intro z; cases z))
    have hr7 : atI (A.qs.map vS) (m.2 : Nat) = some (vS r) := atI_nat (j := m.2) (by rw [List.getElem?_map, er]; rfl)
    have acc2 := fit_acc f2
    have app2 := fit_apply f2
    have kw22 : (effOf k2).w.length ≤ 2000 := k2w
    obtain ⟨d2, ob2⟩ := id hL2
    walk_at "go"
    intro H5 s5
    rw [app2]
    have hq5 := s5 _ _ hq4
    have hl5 : StL H5 z.la A.log := s5 _ _ hl4
    have b5 : But z.ma H H5 := fun b o e n => s5 _ _ (b4 b o e n)
    have s35 := (s4.trans s5)
    walk_at "go"
    refine ite_n (fun e => (e rfl).elim) fun _ => ?_
    walk_at "go"
    intro p6 hp6
    have e6 : cutN (A.log.map vT) none (some (m.2 : Int)) = (A.log.take m.2).map vT := by rw [List.map_take]; rfl
    rw [e6]
    have k6 : StL (upd H5 p6 (.lst ((A.log.take m.2).map vT))) p6 (A.log.take m.2) := upd_same
    have s6 := Same.new (o := .lst ((A.log.take m.2).map vT)) hp6
    generalize upd H5 p6 (.lst ((A.log.take m.2).map vT)) = H6 at k6 s6 ⊢
    have tl : (A.log.take m.2).length ≤ 400 := by rw [List.length_take]; omega
    have tok : ∀ s ∈ A.log.take m.2, s.ok := fun s hs => fn.ok s (List.mem_of_mem_take hs)
    walk_at "go"
    intro f7 H7 hf7 hF7 s7
    have s57 := s6.trans s7
    have hL7 := hL2.same (s5.trans s57)
    have e1ok : (effOf k1).ok := effOf_ok i1 k1p k1w
    have e2ok : (effOf k2).ok := effOf_ok i2 k2p k2w
    have e3ok : ((effOf k1).comp (effOf k2)).ok := by rw [ec]; exact eok
    have pre7 : (effOf k1).p.drop (effOf k1).t <+: (effOf k2).p ++ (effOf k1).p.drop (effOf k1).t := pre
    walk_at "go"
    intro g8 H8 hg8 hG8 s8
    rw [ec] at hG8
    have s28 : Same H2 H8 := sU.trans ((s4.trans s5).trans (s57.trans s8))
    have hL8 := hLt.same s28
    obtain ⟨dg8, og8⟩ := id hG8
    obtain ⟨db8, ob8⟩ := id hL8
    walk_at "go"
    intro H9 s9
    rw [decide_eq_true rfl]
    have s29 := s28.trans s9
    have hX9 := hXt.same s29
    have oX9 := hX9.o
    have l15 : (atEnd (A.ms.take i) A.log.length).length ≤ 15 := by
      unfold atEnd
      rw [List.length_map, List.length_take]
      omega
    walk_at "go"
    intro HA hXA frA
    rw [atEnd_put nd hmi] at hXA
    have frA' : ∀ b o, H9 b = some o → b ≠ x → b ≠ cx.ma → b ≠ cx.aa → HA b = some o := fun b o e n1 n2 n3 => frA b o e n1 n2 n3
    walk_at "go"
    refine .mk ⟨fun b o e n => frA' _ _ (s29 _ _ (bt b o e n)) (fun z => by rw [z, hx0] at e; cases e) (fun z => by rw [z, hxm0] at e; cases e) (fun z => by rw [z, hxa0] at e; cases e), ?_, ?_, hXA, _, _, _, rfl⟩
    · have ne : ∀ y, H y = none → z.ma ≠ y := fun y hy e => by
        have := hM.m
        rw [e, hy] at this
        cases this
      exact frA' _ _ (s29 _ _ mt) (ne _ hx0) (ne _ hxm0) (ne _ hxa0)
    · obtain ⟨dz, oz⟩ := hLt
      exact ⟨dz, frA' _ _ (s29 _ _ oz) nbx nbm nba⟩
  · obtain ⟨bt, mt, hLt, hXt, w6, w7, w8, rfl⟩ := pv.out
    refine ⟨mt, ?_⟩
    have s7' : Same H (upd H2 z.ma (.dK (mkK A.ms))) := fun b o e => by
      by_cases zz : b = z.ma
      · rw [zz] at e ⊢
        rw [hM.m] at e
        rw [upd_same]
        exact e
      · rw [upd_ne zz]
        exact bt b o e zz
    have hX7 := hXt.butF (H' := upd H2 z.ma (.dK (mkK A.ms))) (fun b o e n => (upd_ne n).trans e) mt
    generalize upd H2 z.ma (.dK (mkK A.ms)) = H7 at s7' hX7 ⊢
    rw [mkK_len, List.take_length] at hX7
    have hS7 := hS.same s7'
    have hM7 := hM.same s7'
    have oX7 := hX7.o
    have oS7 := hS7.o
    have it7 := fn.it
    have nd7 := fn.nd
    have nd8 : ((atEnd A.ms A.log.length).map (·.1)).Nodup := by rw [atEnd_keys]; exact nd7
    have l8 : (atEnd A.ms A.log.length).length < 64 := by unfold atEnd; rw [List.length_map]; omega
    have l9 : A.ms.length = (atEnd A.ms A.log.length).length := by unfold atEnd; rw [List.length_map]
    have hit7 : ∀ m ∈ atEnd A.ms A.log.length, ∃ p, mLook A.ms m.1 = some p := fun m hm => by
      obtain ⟨y, hy, rfl⟩ := List.mem_map.mp hm
      exact ⟨y.2, mLook_of nd7 (p := y.2) hy⟩
    walk_at "go"
    intro H8 s8
    rw [decide_eq_true rfl, decide_eq_true rfl, atEnd_all nd7]
    have hM8 := hM7.same s8
    have g8 := mod_m hM8.o
    have m8 := hM8.m
    walk_at "go"
    intro od2
    have m9 := upd_same (H := H8) (a := z.ma) (o := .frz od2 (.dK (mkK A.ms)))
    have b9 : ∀ b o, H8 b = some o → b ≠ z.ma → (upd H8 z.ma (.frz od2 (.dK (mkK A.ms)))) b = some o := fun b o e n => (upd_ne n).trans e
    generalize upd H8 z.ma (.frz od2 (.dK (mkK A.ms))) = H9 at m9 b9 ⊢
    have g9 := mod_m (b9 _ _ hM8.o hM8.nm.symm)
    have lo9 : StL H9 z.la A.log := b9 _ _ hM8.l (ne_of hM8.l m8 (by intro z; cases z))
    walk_at "go"
    intro D hD
    refine lc_it (walk_values (kvs := mkK A.ms)) (fun i H' => Hold (Same H9 H' ∧ H' D = some (.lst ((((A.ms.take i).map (·.2)).filter fun y => !decide (y = A.log.length)).map fun y => V.int (y : Nat))))) (.mk ⟨Same.new hD, upd_same⟩) (fun i H' _ q => q.out.1 _ _ m9) (fun i y0 H2 H3 hi pv y => ?_) fun H2 pv => ?_
    · obtain ⟨rfl, kk, e3⟩ := y
      obtain ⟨m, hmi, _, rfl⟩ := keys_get e3
      obtain ⟨s2, hD2⟩ := pv.out
      have lo2 : StL H3 z.la A.log := s2 _ _ lo9
      have lz : ((((A.ms.take i).map (·.2)).filter fun y => !decide (y = A.log.length)).map fun y => V.int (y : Nat)).length < sizeLine := by
        have := List.length_filter_le (fun y => !decide (y = A.log.length)) ((A.ms.take i).map (·.2))
        rw [List.length_map, List.length_take] at this
        exact small20 (by rw [List.length_map]; omega)
      have ef : ((A.ms.take (i + 1)).map (·.2)).filter (fun y => !decide (y = A.log.length)) = ((A.ms.take i).map (·.2)).filter (fun y => !decide (y = A.log.length)) ++ [m.2].filter (fun y => !decide (y = A.log.length)) := by rw [take_snoc hmi, List.map_append, List.filter_append]; rfl
      walk_at "go"
      refine ite_n (fun e => ?_) fun e => ?_
      · have e' : (!decide (m.2 = A.log.length)) = true := by rw [decide_eq_false (fun z => e (by rw [z, List.length_map]))]; rfl
        walk_at "go"
        refine .mk ⟨s2.updN hD, ?_⟩
        rw [upd_same, ef, List.filter_cons_of_pos (p := fun y => !decide (y = A.log.length)) e', List.map_append]
        rfl
      · have e' : ¬ (!decide (m.2 = A.log.length)) = true := by
          rw [decide_eq_true (show m.2 = A.log.length by rw [List.length_map] at e; omega)]
          decide
        refine .mk ⟨s2, ?_⟩
        rw [ef, List.filter_cons_of_neg (p := fun y => !decide (y = A.log.length)) e', List.filter_nil, List.append_nil]
        exact hD2
    · obtain ⟨s2, hD2⟩ := pv.out
      rw [mkK_len, List.take_length] at hD2
      refine ⟨s2 _ _ m9, ?_⟩
      have k7 : (upd H2 z.ma (.dK (mkK A.ms))) D = _ := (upd_ne (ne_new m9 hD)).trans hD2
      have s7 : Same H8 (upd H2 z.ma (.dK (mkK A.ms))) := fun b o e => by
        by_cases zz : b = z.ma
        · rw [zz] at e ⊢
          rw [m8] at e
          rw [upd_same]
          exact e
        · rw [upd_ne zz]
          exact s2 _ _ (b9 b o e zz)
      generalize upd H2 z.ma (.dK (mkK A.ms)) = HB at k7 s7 ⊢
      walk_at "go"
      intro p1 hp1
      have sE := Same.new (o := .lst []) hp1
      generalize hfl : ((A.ms.map (·.2)).filter fun y => !decide (y = A.log.length)) = fl at k7 ⊢
      refine ⟨D, p1, fl.map fun y => FD.i (y : Nat), [], rfl, rfl, ?_, upd_same, ?_, rfl, ?_⟩
      · rw [List.map_map]
        exact sE _ _ k7
      · unfold allOk
        rw [List.all_map, List.all_eq_true]
        exact fun _ _ => rfl
      · refine ⟨_, _, rfl, rfl, ?_⟩
        have eb : (true && (true && decide (fl = []))) = decide (fl.map (fun y => FD.i (y : Nat)) = []) := by
          rw [Bool.true_and, Bool.true_and]
          exact decide_eq_decide.mpr List.map_eq_nil_iff.symm
        rw [if_neg Bool.false_ne_true, eb, decide_eq_true rfl]
        exact h _ (((s7'.trans s8).trans s7).trans sE)
end
end Qe

namespace Qe
open PySem PySem.Spec PyProof.Rows L2 He LamX
/-! ## a lambda handed to the def that asks for the limit -/
theorem takes_len {X : Cx} {W : WX} {n : Nat} (tk : Takes X W) (hn : X.N.length = n) : Takes X (fun cls d σ H => σ.length = n → W cls d σ H) := fun u s' ⟨a, B, sI, pins, σ, H, cls, d, e, I, nb, up, sky, na, os, ag, w⟩ =>
  tk u s' ⟨a, B, sI, pins, σ, H, cls, d, e, I, nb, up, sky, na, os, ag, w (I.len.trans hn)⟩
/-- the lambda raises with the limit 2000 -/
def TLim (C : Value) : (XK → Hp → VK → Prop) → Hp → VK → Prop := fun tl H Q =>
  tl (fun cls d H' => cls = C ∧ ∃ dd, d = some dd ∧ H' dd = some (.xd [("limit", .int 2000)]) ∧ Q (.int 2000) H') H (fun _ _ => False)
theorem lim_gives {X : Cx} (T : Tx X.K X.mg) {g : Addr} {cdg : Value} {q : Str} : GivesTo X ["_law_call", "e"] "_law_limited" (defScope s_law_limited) g cdg (defBody s_law_limited) "_law_call" q (TLim (.ref (ga X.K "LimitExceeded"))) := by
  intro f c' s H Q tl act hc h
  refine ⟨_, pss_cons (ps_try_clauses (X := (cxOf C8.CX0 X.prog X.w X.K X.mg X.base ["_law_call", "e"] "_law_limited" (defScope s_law_limited) g cdg X.A X.stack s H C8.E0).nox) (Wo := fun _ _ _ _ => False) (i := 1)
      (tb9 := fun W D σ H => ∃ Ech : XK, (∀ cls d σ' H', Ech cls d H' → σ'.length = 2 → W cls d σ' H') ∧ σ[0]? = some (some (.ref f)) ∧ H c' = some (CodeO c' q) ∧ tl Ech H fun _ H' => D.nx σ H')
      rfl rfl sc_law_limited.nd rfl rfl L2.takes0 (fun W pn xe tk _ => ?_)
      (.cons ⟨rfl, rfl, .inl T.g_LimitExceeded⟩ (fun a oe cls dd pn hz hf2 => pss_one (ps_ret (pe_xf T.x_LimitExceeded.xf T.x_LimitExceeded.noN hz hf2 (pv 1)))) .nil)) pss_never, ?_⟩
  · refine ⟨fun pins s' σ H' D I h' =>
          ?_⟩
    obtain ⟨Ech, hW, h1, h2, h3⟩ :=
          h'
    exact PSs.run (pss_one (ps_expr (act (fun cls d σ H => σ.length = 2 → W cls d σ H) pn xe Ech _ _ (takes_len tk rfl) hW))) pins s' σ H' D I ⟨h1, h2, h3⟩
  · refine ⟨_, fun cls d σ' H' e hl => ?_, rfl, hc, h⟩
    obtain ⟨e1, dd, e2, e3, e4⟩ := e
    subst e1
    subst e2
    refine ⟨true, T.e_LimitExceeded_LimitExceeded, fun _ a ha => ?_, fun z => by cases z⟩
    have l1 : (σ'.set 1 (some (V.ref a)))[1]? = some (some (V.ref a)) := by
      rw [List.getElem?_set_self (by omega)]
    exact ⟨_, l1, rfl, rfl, dd, _, _, rfl, e3, rfl, e4⟩
end Qe

namespace Qe
open PySem PySem.Spec PyProof.Rows L2 He LamX
/-! ## the law's two long sessions -/
def tabsQ (K : PySem.W.Frag) : List (Addr × Str) := [((cT K ("_law_many_steps", none)).2, ("_law_many_steps" : Str) ++ ".<locals>." ++ "<lambda>"), ((cT K ("_law_many_takes", none)).2, ("_law_many_takes" : Str) ++ ".<locals>." ++ "<lambda>")]
section
variable {P : Program} {w : World} {K : PySem.W.Frag}
      {mg : Str → Option Value} {base : Heap}
/-- a def whose code object is named -/
theorem fx_code {CX : CXT} {x qual : Str} {params : Arguments} {body : List Stmt} {scope : Scope} {dvs : List V} {kws : List (Str × V)} {fd : FuncData} {N ps : List Str} {k : Nat} {sp : Sp} (F : FunD K x qual params body scope dvs kws (ga K x) fd) (S : FnScope N ps scope) (b : Binds K fd ps [])
    (len : ∀ vs H Q E, sp vs H Q E →
          vs.length = ps.length)
    (hbody : ∀ (A : Around) (outer : List Env) (s : Shared) (H : Hp) (vs : List V) (Q : VK) (E : XK), Room k (A.deeper (envOfC qual scope s.heap.objs.size (ga K x) (.ref (cT K (x, none)).1))) → sp vs H Q E →
      ∃ t, PSs (cxOf CX P w K mg base N qual scope (ga K x) (.ref (cT K (x, none)).1) A outer s H E) body t ∧ t { nx := fun _ H' => Q .non H', rt := Q } (start N vs) H) : Fx P w K mg base CX (k + 1) (ga K x) sp := by
  have kp := F.kp
  obtain ⟨oc, od, dV, kV, doc, pm, an, cdv, ct, osl, rfl, lk, hcd, _, _⟩ :=
        F.ex
  obtain ⟨c, rfl⟩ := codeIn_ref hcd
  have e : codeOf K (x, none) = c := codeOf_eq (p := (x, none)) lk rfl
  have e2 : (cT K (x, none)).1 = c := e
  rw [e2] at hbody
  exact ⟨_, ps, L2.fn_of lk hcd S len hbody, kp, b⟩
end
theorem keepX {H H' : Hp} (e : ExtN H H') {b : Addr} {o : HO} (h : H b = some o) (n : ∀ ps, o ≠ .tbl ps := by intro ps z; cases z) : H' b = some o := e _ _ h n
section
variable {K : PySem.W.Frag} {H H' : Hp} {s : Addr} {c : SesA} {qs : List (List Nat)} {log : List Step} {mk : List Mk1} {at_ : List (Nat × Nat)}
theorem isSes.ext (h : isSes K H s c qs log mk at_) (e : ExtN H H') : isSes K H' s c qs log mk at_ := by
  obtain ⟨ts, h1, h2⟩ := h.a
  exact ⟨keepX e h.o, keepX e h.q, keepX e h.l, keepX e h.m, ⟨ts, keepX e h1, paired_imp (fun t r q => keepX e q) h2⟩, h.nq, h.nl⟩
theorem isCon.ext {b dx ca : Addr} {cmds : List V} (h : isCon K H b dx ca s cmds) (e : ExtN H H') : isCon K H' b dx ca s cmds := ⟨keepX e h.o, keepX e h.m⟩
/-- a new session's steps leave all older things -/
theorem same_of_fr {H0 : Hp} (f : Same H0 H) (fr : Fr c s H H') (n1 : H0 s = none) (n2 : H0 c.ma = none) (n3 : H0 c.aa = none) : Same H0 H' := fun b o e =>
  fr b o (f b o e) (ne_of_none e n1) (ne_of_none e n2) (ne_of_none e n3)
end
/-! ### text * n -/
theorem repS_sS (l : List Nat) (n : Nat) : repS (sS l) n = sS (List.replicate n l).flatten := rfl
theorem op_mulW {X : Cx} : OpR X (binaryOp .Mult) (fun x y H Q => ∃ (a : List Nat) (n : Nat), x = vS a ∧ y = .int n ∧ 2 ≤ n ∧ n ≤ 10000 ∧ 1 ≤ a.length ∧ a.length ≤ 10000 ∧ a.length * n ≤ 100000 ∧ Q (vS (List.replicate n a).flatten) H) := fun pins s σ H x y v u Q I rx ry ⟨a, n, ea, en, h1, h2, h3, h4, h5, q⟩ =>
  op_mulS pins s σ H x y v u Q I rx ry ⟨sS a, (n : Int), ea, en, by omega, by omega, h3, h4, h5, q⟩
/-! ### only takes -/
def tk1 : Step := (45, 97)
theorem tk_ok (n : Nat) : ∀ s ∈ List.replicate n tk1, s.ok := fun s hs => by
  rw [(List.mem_replicate.mp hs).2]
  exact ⟨.inr (.inl rfl), rfl⟩
theorem tk_run : ∀ (n m : Nat), runS (List.replicate (n + m) 97) (List.replicate n tk1) = some (List.replicate m 97)
  | 0, m => by rw [Nat.zero_add]; rfl
  | n + 1, m => by
    have e : List.replicate (n + 1) tk1 = [tk1] ++ List.replicate n tk1 := rfl
    rw [e, runS_app, runS_one]
    have e2 : after (List.replicate (n + 1 + m) 97) tk1 = some (List.replicate (n + m) 97) := by
      rw [show n + 1 + m = (n + m) + 1 by omega, List.replicate_succ]
      rfl
    rw [e2]
    exact tk_run n m
theorem tk_fits (n m : Nat) (h : n + m ≤ 2100) : fits (List.replicate (n + m) 97) (List.replicate n tk1) := fun i r e => by
  rw [List.take_replicate] at e
  have := tk_run (min i n) (n - min i n + m)
  rw [show min i n + (n - min i n + m) = n + m by omega, e] at this
  have := Option.some.inj this
  rw [this, List.length_replicate]
  omega
theorem tk_col : ∀ n : Nat, colR Col0 (List.replicate n tk1) = some ⟨List.replicate n 97, [], n, n⟩
  | 0 => rfl
  | n + 1 => by
    rw [List.replicate_succ', colR_snoc, tk_col n]
    have e1 : Col.pre ⟨List.replicate n 97, [], n, n⟩ 97 = List.replicate (n + 1) 97 := by
      unfold Col.pre
      rw [if_pos (by rw [List.length_replicate]), List.replicate_succ']
    show Col.add ⟨List.replicate n 97, [], n, n⟩ tk1 = _
    unfold Col.add
    rw [if_neg (by decide)]
    show (if (Col.pre ⟨List.replicate n 97, [], n, n⟩ 97)[n]? ≠ some 97 then none else some (⟨Col.pre ⟨List.replicate n 97, [], n, n⟩ 97, [], if tk1.1 = 45 then n + 1 else n, max n (n + 1 - 0)⟩ : Col)) = _
    rw [e1, if_neg (by rw [List.getElem?_replicate, if_pos (by omega)]; simp), if_pos (show tk1.1 = 45 from rfl), Nat.max_eq_right (by omega)]
    rfl
/-! ### only puts -/
def pt1 (c : Nat) : Step := (43, c)
theorem pt_run : ∀ (l q : List Nat), runS q (l.map pt1) = some (q ++ l)
  | [], q => by rw [List.append_nil]; rfl
  | c :: l, q => by
    have e : (c :: l).map pt1 = [pt1 c] ++ l.map pt1 := rfl
    rw [e, runS_app, runS_one]
    have e2 : after q (pt1 c) = some (q ++ [c]) := rfl
    rw [e2]
    show runS (q ++ [c]) (l.map pt1) = _
    rw [pt_run l, List.append_assoc]
    rfl
theorem pt_col (l : List Nat) : ∀ p : List Nat, colR ⟨[], p, 0, 0⟩ (l.map pt1) = some ⟨[], p ++ l, 0, 0⟩ := by
  induction l with
  | nil => intro p; rw [List.append_nil]; rfl
  | cons c l ih =>
    intro p
    have e : (c :: l).map pt1 = [pt1 c] ++ l.map pt1 := rfl
    rw [e, colR_app]
    have e2 : colR ⟨[], p, 0, 0⟩ [pt1 c] = some ⟨[], p ++ [c], 0, 0⟩ := rfl
    rw [e2]
    show colR ⟨[], p ++ [c], 0, 0⟩ (l.map pt1) = _
    rw [ih, List.append_assoc]
    rfl
theorem pt_ok {l : List Nat} (h : l.all isIt = true) : ∀ s ∈ l.map pt1, s.ok := fun s hs => by
  obtain ⟨c, hc, rfl⟩ := List.mem_map.mp hs
  exact ⟨.inl rfl, List.all_eq_true.mp h c hc⟩
/-- the letters behind n turns -/
def puts50 (n : Nat) : List Nat := (List.range n).flatMap fun t => List.replicate 50 (97 + t % 2)
theorem puts_succ (n : Nat) : puts50 (n + 1) = puts50 n ++ List.replicate 50 (97 + n % 2) := by
  unfold puts50
  rw [List.range_succ, List.flatMap_append]
  simp
theorem puts_len : ∀ n, (puts50 n).length = 50 * n
  | 0 => rfl
  | n + 1 => by rw [puts_succ, List.length_append, puts_len n, List.length_replicate]; omega
theorem puts_it : ∀ n, (puts50 n).all isIt = true
  | 0 => rfl
  | n + 1 => by
    rw [puts_succ, List.all_append, puts_it n, Bool.true_and, List.all_eq_true]
    intro x hx
    rw [(List.mem_replicate.mp hx).2]
    have : n % 2 = 0 ∨ n % 2 = 1 := by omega
    rcases this with e | e <;> rw [e] <;> rfl
theorem rep_flat {α : Type} (a : α) : ∀ n, (List.replicate n [a]).flatten = List.replicate n a
  | 0 => rfl
  | n + 1 => by rw [List.replicate_succ, List.flatten_cons, rep_flat a n]; rfl
/-! ### n takes, n letters: kept shut -/
structure TkF (qA : Nat → List Nat) (sA : Nat → List Step) : Prop where
  def_ : ∀ n, List.replicate n 97 = qA n
  qlen : ∀ n, (qA n).length = n
  slen : ∀ n, (sA n).length = n
  ok : ∀ n, ∀ s ∈ sA n, s.ok
  run : ∀ n m, runS (qA (n + m)) (sA n) = some (qA m)
  fit : ∀ n m, n + m ≤ 2100 → fits (qA (n + m)) (sA n)
  col : ∀ n, colR Col0 (sA n) = some ⟨qA n, [], n, n⟩
  add : ∀ a b, sA a ++ sA b = sA (a + b)
  dropn : ∀ n, (sA n).drop n = []
  zero : sA 0 = []
  one : sA 1 = [tk1]
  vt : ∀ n, List.replicate n (vS [45, 97]) = (sA n).map vT
  it : ∀ n, (qA n).all isIt = true
theorem tkF : ∃ qA sA, TkF qA sA := ⟨fun n => List.replicate n 97, fun n => List.replicate n tk1, fun _ => rfl, fun _ => List.length_replicate, fun _ => List.length_replicate, tk_ok, tk_run, tk_fits, tk_col, fun _ _ => List.replicate_append_replicate,
  fun n => List.drop_of_length_le (Nat.le_of_eq List.length_replicate), rfl, rfl, fun n => by rw [List.map_replicate]; rfl, fun n => by
    rw [List.all_eq_true]
    intro x hx
    rw [(List.mem_replicate.mp hx).2]
    rfl⟩
end Qe

namespace Qe
open PySem PySem.Spec PyProof.Rows L2 He
local macro_rules | `(tactic| walk_at "lk") => `(tactic| first
  | assumption
  | exact upd_same
  | (refine (upd_ne (by assumption)).trans ?_; walk_at "lk"))
local macro_rules | `(tactic| walk_at "sd") => `(tactic| first
  | rfl
  | assumption
  | exact SqL.of (by walk_at "lk")
  | exact .inl (SqL.of (by assumption))
  | exact SqT.of (by assumption)
  | exact ⟨_, SqL.of (by assumption)⟩
  | exact .inr (SqT.of (by assumption))
  | exact .inl ⟨rfl, _, SqL.of (by assumption)⟩
  | exact upd_same
  | (refine (upd_ne (by assumption)).trans ?_; walk_at "lk")
  | exact ⟨_, rfl⟩
  | exact NN.none
  | exact NN.some (by omega)
  | exact lt1
  | exact lt2
  | exact lt3
  | exact lt4
  | exact sz0
  | exact sz1
  | exact sz2
  | exact sz3
  | exact sz4
  | exact small20 (by first | omega | (rw [List.length_map]; omega))
  | exact True.intro
  | omega
  | (dsimp only [List.length_cons, List.length_nil]; omega))
local macro_rules | `(tactic| walk_at "go") => `(tactic| first
  | ((with_reducible refine tSeq_i ?_); walk_at "go")
  | ((with_reducible refine gName_i ?_); walk_at "go")
  | ((with_reducible refine tNext_i ?_); walk_at "go")
  | ((with_reducible refine iteT ?_); walk_at "go")
  | ((with_reducible refine iteF ?_); walk_at "go")
  | (with_reducible refine (show tLockE _ _ _ _ from ?_))
  | (with_reducible refine (show tLock _ _ _ _ from ?_))
  | (with_reducible refine (show (∃ W : Nat → Nat → L2.St → Hp → Prop, _) from ?_))
  | (with_reducible refine (show C8.tCut _ _ _ _ _ from ?_))
  | (with_reducible refine (show tWhile _ _ _ _ _ from ?_))
  | (apply Exists.intro; walk_at "go")
  | (apply And.intro; (focus (walk_at "sd")); walk_at "go")
  | skip)

section
variable {P : Program} {w : World} {K : PySem.W.Frag}
      {mg : Str → Option Value} {base : Heap}

def sp_law_many_takes (K : PySem.W.Frag) : Sp := S0 fun H Q _ => LamX.Tabs (tabsQ K) H ∧ ∀ H', LamX.ExtN H H' → LamX.Tabs (tabsQ K) H' → Q (.bl true) H'
open LamX in
theorem ok_law_many_takes (T : Tx K mg) (TB : LamX.TabB base mg (cT K ("_law_many_takes", none)).1 (cT K ("_law_many_takes", none)).2) (hne : (cT K ("_law_many_steps", none)).2 ≠ (cT K ("_law_many_takes", none)).2) : Fx P w K mg base CX0 15 (A_law_many_takes K) (sp_law_many_takes K) := by
  obtain ⟨fd, F⟩ := T.D_law_many_takes
  obtain ⟨fdL, FL⟩ := T.D_law_limited
  have bL := FL.bindsN (ps := ["_law_call"]) fun _ _ _ _ _ _ us hl => match us, hl with | [_], _ => rfl
  obtain ⟨ocL, odL, dVL, kVL, docL, pmL, anL, cdvL, ctL, oslL, rfl, lkL, hcL, _, _⟩ := FL.ex
  have one : ∀ p ∈ tabsQ K, p.1 = (cT K ("_law_many_takes", none)).2 → p.2 = ("_law_many_takes" : Str) ++ ".<locals>." ++ "<lambda>" := fun p hp e => by
    cases hp with
    | head => exact absurd e hne
    | tail _ hp =>
      cases hp with
      | head => rfl
      | tail _ z => cases z
  refine fx_code F sc_law_many_takes (F.bindsN fun _ _ _ _ _ _ us hl => match us, hl with | [], _ => rfl) S0.len fun A outer s H vs Q E hr h => ?_
  obtain ⟨rfl, hT, h⟩ := h
  refine ⟨_, PSs.nox (pss_cons (ps_set (i := 2) sc_law_many_takes.nd rfl (.inr rfl) (pmake (ok_Session_init T) T.k_Session T.g_Session hr (by decide) rfl pass0 (pa_cons (pe_op op_mulW (pe_sC [97] (by decide +kernel)) pe_int) pa_nil)))
    (pss_cons (ps_expr (pmeth (ok_Session_mark T) T.c_Session T.m_Session_mark hr (by decide) pass0 (pv 2) (pa_cons (pe_sC [109] (by decide +kernel)) pa_nil)))
    (pss_cons (ps_for PassesOwn.never rfl (pi_range1 rfl T.f_range (pa_cons pe_int pa_nil)) (pg_name (i := 0) sc_law_many_takes.nd rfl (.inl rfl)) (pss_one (ps_expr (pmeth (ok_Session_batch T) T.c_Session T.m_Session_batch hr (by decide) passN (pv 2) (pa_cons (pe_op op_rep (pe_lst (pa_cons (pe_sC [45, 97] (by decide +kernel)) pa_nil)) pe_int) pa_nil)))))
    (pss_cons (ps_if (PW.pt (pw_or (pt_cmpR op_neI (pe_callB call_lenW rfl T.f_len boot_len (pa_cons (pprop (ok_LookEffect_prefix T) T.c_LookEffect T.p_LookEffect_prefix hr (by decide) pass0 (pmeth0 (ok_Session_total T) T.c_Session T.m_Session_total hr (by decide) passN (pv 2)) rfl) pa_nil)) pe_int (nomark _)) (pw_or1 (pt_cmpR (p_neO (ok_LookEffect_eq T) T.eq_LookEffect hr (by decide) pass0) (pmeth (ok_Session_since T) T.c_Session T.m_Session_since hr (by decide) passN (pv 2) (pa_cons (pe_sC [109] (by decide +kernel)) pa_nil)) (pmeth0 (ok_Session_total T) T.c_Session T.m_Session_total hr (by decide) passN (pv 2)) (nomark _))))) (pss_one (ps_ret pe_bl)) pss_nil)
    (pss_cons (ps_expr (pmeth (ok_Session_do T) T.c_Session T.m_Session_do hr (by decide) passN (pv 2) (pa_cons (pe_sC [45, 97] (by decide +kernel)) pa_nil)))
    (pss_cons (ps_expr (pmeth (ok_Session_mark T) T.c_Session T.m_Session_mark hr (by decide) pass0 (pv 2) (pa_cons (pe_sC [110] (by decide +kernel)) pa_nil)))
    (pss_cons (ps_set (i := 1) sc_law_many_takes.nd rfl (.inl rfl) (pe_lst (pa_cons (pe_lamcall (T := tabsQ K) (k := 10) rfl T.g_law_limited FL.kp lkL hcL bL sc_law_limited rfl (.inl rfl) (lim_gives T) TB rfl (.tail _ (.head _)) one (hr.mono (by decide)) (lamS_by (sc := defScope s_law_many_takes) (by decide +kernel)) rfl (fun _ _ _ _ _ => rfl) (fun A outer s H E f c' hr2 => by exact (pmeth0 (ok_Session_total T) T.c_Session T.m_Session_total hr2 (by decide) (passes_call (takes_of rfl rfl rfl rfl) fun _ _ _ _ z => z) (pv 2)))) (pa_cons (pe_lamcallD (T := tabsQ K) (k := 10) rfl T.g_law_limited FL.kp lkL hcL bL sc_law_limited rfl (.inl rfl) (lim_gives T) TB rfl (.tail _ (.head _)) one (hr.mono (by decide)) (lamN_by (N := ["_law_turn_here", "_law_found", "_law_session"]) (sc := defScope s_law_many_takes) (by decide +kernel)) (fun _ _ _ _ _ _ _ => ⟨_, rfl, rfl⟩) (fun A outer s H E f c' hr2 => by exact (pmeth (ok_Session_since T) T.c_Session T.m_Session_since hr2 (by decide) (passes_call (takes_of rfl rfl rfl rfl) fun _ _ _ _ z => z) (pv 2) (pa_cons (pe_sC [109] (by decide +kernel)) pa_nil)))) pa_nil))))
    (pss_one (ps_ret (pe_and (pe_cmpR (op_eqLF hr.units) (pv 1) (pe_lst (pa_cons pe_int (pa_cons pe_int pa_nil))) (nomark _)) (pe_one (pe_cmpR op_eqW (pprop (ok_LookEffect_prefix T) T.c_LookEffect T.p_LookEffect_prefix hr (by decide) pass0 (pmeth (ok_Session_since T) T.c_Session T.m_Session_since hr (by decide) passN (pv 2) (pa_cons (pe_sC [110] (by decide +kernel)) pa_nil)) rfl) (pe_sC [] (by decide +kernel)) (nomark _))))))))))))), ?_⟩
  have cl := T.c_Session
  have cl2 := T.c_LookEffect
  obtain ⟨qA, sA, f⟩ := tkF
  have iq : isQ (qA 2100) := ⟨by rw [f.qlen]; exact Nat.le_refl _, f.it _⟩
  walk_at "go"
  rw [rep_flat, f.def_]
  walk_at "go"
  intro x dx hx hdx hnd
  refine ⟨_, _, rfl, x, dx, qA 2100, rfl, rfl, iq, upd_same, fun H1 c hS hdx' hm ha b => ?_⟩
  obtain ⟨m1, m2⟩ := made_none hx hdx hm
  obtain ⟨a1, a2⟩ := made_none hx hdx ha
  have f1 : Same H H1 := fun b' o e => b _ _ ((upd_ne (ne_of_none e hx)).trans ((upd_ne (ne_of_none e hdx)).trans e)) (ne_of_none e hx)
  clear hm ha b hnd hdx
  have ho := hS.o
  have low : isLow 109 = true := rfl
  have l15 : ([] : List Mk1).length ≤ 15 := by decide
  walk_at "go"
  intro H2 hS2 fr2
  have hS2 : isSes K H2 x c [qA 2100] [] [(109, 0)] [] := hS2
  have f2 := same_of_fr f1 fr2 hx m1 a1
  clear hS ho f1 fr2
  walk_at "go"
  refine for_it (walk_range (lo := 0) (n := 40)) (fun i σ' H' => Hold (Same H H' ∧ ∃ (c' : SesA) (qs : List (List Nat)) (at_ : List (Nat × Nat)) (z0 : Option V), c'.ma = c.ma ∧ c'.aa = c.aa ∧ isSes K H' x c' qs (sA (50 * i)) [(109, 0)] at_ ∧ qs.length = 50 * i + 1 ∧ at_.length = i ∧ qs.getLast? = some (qA (2100 - 50 * i)) ∧ σ' = [z0, none, some (.ref x)]))
    (.mk ⟨f2, c, _, _, _, rfl, rfl, by rw [show 50 * 0 = 0 from rfl, f.zero]; exact hS2, rfl, rfl, rfl, rfl⟩) (fun _ _ _ _ _ => trivial) (fun i y σ' H3 H4 hi pv yy => ?_) fun σ' H3 pv => ?_
  · obtain ⟨rfl, rfl⟩ := yy
    obtain ⟨f3, c', qs, at_, z0, e1, e2, hS3, hl, hal, hlast, rfl⟩ := pv.out
    have hi : i < 40 := hi
    have ho3 := hS3.o
    have n1 : -(2 ^ 63 : Int) ≤ 50 := by decide
    have n2 : (50 : Int) < 2 ^ 63 := by decide
    have n3 : [vS [45, 97]].length * (50 : Int).toNat ≤ sizeLine := by decide
    walk_at "go"
    intro l hl5
    have kl := upd_same (H := H4) (a := l) (o := .lst [vS [45, 97]])
    have s5 := Same.new (o := .lst [vS [45, 97]]) hl5
    generalize upd H4 l (.lst [vS [45, 97]]) = H5 at kl s5 ⊢
    walk_at "go"
    intro p6 hp6
    have e6 : (List.replicate (Int.toNat 50) [vS [45, 97]]).flatten = (sA 50).map vT := (rep_flat _ 50).trans (f.vt 50)
    rw [e6]
    have kp : StL (upd H5 p6 (.lst ((sA 50).map vT))) p6 (sA 50) := upd_same
    have s6 := Same.new (o := .lst ((sA 50).map vT)) hp6
    have np : p6 ≠ c'.aa := (hS3.same s5).aa hp6
    generalize upd H5 p6 (.lst ((sA 50).map vT)) = H6 at kp s6 ⊢
    have s46 := s5.trans s6
    have hS6 := hS3.same s46
    have eq1 : 2100 - 50 * i = 50 + (2050 - 50 * i) := by omega
    have lq : (qA (2100 - 50 * i)).length ≤ 2100 := by rw [f.qlen]; omega
    have l1 : qs.length ≤ 5000 := by omega
    have l2 : (sA (50 * i)).length ≤ 5000 := by rw [f.slen]; omega
    have l3 : at_.length ≤ 5000 := by omega
    have l4 : (sA 50).length ≤ 50 := by rw [f.slen]; exact Nat.le_refl _
    have fit : fits (qA (2100 - 50 * i)) (sA 50) := by rw [eq1]; exact f.fit _ _ (by omega)
    have run : runS (qA (2100 - 50 * i)) (sA 50) = some (qA (2050 - 50 * i)) := by rw [eq1]; exact f.run _ _
    have ok50 := f.ok 50
    walk_at "go"
    refine ⟨fun r er H7 t7 => ?_, fun j qj s0 e3 e4 e5 => ?_⟩
    · rw [run] at er
      obtain rfl := Option.some.inj er
      have tl := trace_len run
      have tlast := trace_last hlast run
      obtain ⟨c7, _, d2, d3, hS7, fr⟩ := t7
      rw [f.add] at hS7
      refine .mk ⟨same_of_fr (f3.trans s46) fr hx (by rw [e1]; exact m1) (by rw [e2]; exact a1), c7, _, _, _, d2.trans e1, d3.trans e2, by rw [show 50 * (i + 1) = 50 * i + 50 by omega]; exact hS7, by rw [List.length_append, tl, hl, f.slen]; omega, by rw [List.length_append, hal]; rfl, by rw [show 2100 - 50 * (i + 1) = 2050 - 50 * i by omega]; exact tlast, rfl⟩
    · exfalso
      have lt := (List.getElem?_eq_some_iff.mp e4).1
      exact fail_no (k := (sA 50).length) (by rw [List.take_length]; exact run) lt e3 e4 e5
  · obtain ⟨f3, c', qs, at_, z0, e1, e2, hS3, hl, hal, hlast, rfl⟩ := pv.out
    have hS3 : isSes K H3 x c' qs (sA 2000) [(109, 0)] at_ := hS3
    have hlast : qs.getLast? = some (qA 100) := hlast
    have ho3 := hS3.o
    have mS3 := hS3.m
    have lS3 := hS3.l
    obtain ⟨kk, hkk⟩ : ∃ kk : Col, kk = ⟨qA 2000, [], 2000, 2000⟩ := ⟨_, rfl⟩
    have col : colR Col0 (sA 2000) = some kk := by rw [hkk]; exact f.col 2000
    have col0 : colR Col0 ((sA 2000).drop 0) = some kk := col
    have lg : (sA 2000).length ≤ 4000 := by rw [f.slen]; decide
    have ok2 := f.ok 2000
    have pl : kk.p.length ≤ 2000 := by rw [hkk]; exact Nat.le_of_eq (f.qlen 2000)
    have pw : kk.w.length ≤ 2000 := by rw [hkk]; exact Nat.zero_le _
    have pe : (effOf kk).p.length ≤ 20000 := Nat.le_trans pl (by decide)
    have ee : (((effOf kk).p.length : Nat) : Int) = 2000 := by rw [show (effOf kk).p = kk.p from rfl, hkk]; exact congrArg Int.ofNat (f.qlen 2000)
    have nd1 : (([(109, 0)] : List Mk1).map (·.1)).Nodup := by decide
    have low : isLow 109 = true := rfl
    have kinv := colR_inv Col0.inv ok2 col
    have eok := effOf_ok kinv pl pw
    clear hkk
    walk_at "go"
    refine ⟨fun _ b4 H4 hb4 hL4 s4 => ?_, fun n => (n ⟨pl, pw⟩).elim⟩
    obtain ⟨db4, ob4⟩ := id hL4
    walk_at "go"
    rw [ee]
    walk_at "go"
    have hS4 := hS3.same s4
    have ho4 := hS4.o
    have lS4 := hS4.l
    have mS4 := hS4.m
    have eM : vS [109] = vS [((109, 0) : Mk1).1] := rfl
    have mem1 : ((109, 0) : Mk1) ∈ [((109, 0) : Mk1)] := List.mem_singleton.mpr rfl
    walk_at "go"
    refine ⟨fun _ b5 H5 hb5 hL5 s5 => ?_, fun n => (n ⟨pl, pw⟩).elim⟩
    have hS5 := hS4.same s5
    have ho5 := hS5.o
    have lS5 := hS5.l
    walk_at "go"
    refine ⟨fun _ b6 H6 hb6 hL6 s6 => ?_, fun n => (n ⟨pl, pw⟩).elim⟩
    have hL56 := hL5.same s6
    obtain ⟨d5, o5⟩ := id hL56
    obtain ⟨d6, o6⟩ := id hL6
    walk_at "go"
    intro H7 s7
    rw [decide_eq_true rfl]
    have hS7 := (hS5.same s6).same s7
    have ho7 := hS7.o
    have eT : vS [45, 97] = vT tk1 := rfl
    have tko : tk1.ok := ⟨.inr (.inl rfl), rfl⟩
    have fit1 : fits (qA 100) [tk1] := by rw [← f.one]; exact f.fit 1 99 (by decide)
    have run1 : after (qA 100) tk1 = some (qA 99) := by
      have := f.run 1 99
      rw [f.one, runS_one] at this
      exact this
    have l1 : qs.length ≤ 5000 := by omega
    have l2 : (sA 2000).length ≤ 5000 := by rw [f.slen]; decide
    walk_at "go"
    refine ⟨fun r er H8 t8 => ?_, fun en => by rw [run1] at en; cases en⟩
    rw [run1] at er
    obtain rfl := Option.some.inj er
    obtain ⟨c8, _, d2, d3, hS8, fr8⟩ := t8
    rw [← f.one, f.add] at hS8
    have f8 := same_of_fr (f3.trans (s4.trans (s5.trans (s6.trans s7)))) fr8 hx (by rw [e1]; exact m1) (by rw [e2]; exact a1)
    have ho8 := hS8.o
    have low2 : isLow 110 = true := rfl
    have l152 : [((109, 0) : Mk1)].length ≤ 15 := by decide
    clear hS3 ho3 mS3 lS3 hS4 ho4 lS4 mS4 hS5 ho5 lS5 hS7 ho7 hL4 hL5 hL6 hL56 ob4 o5 o6
    walk_at "go"
    intro H9 hS9 fr9
    have hS9 : isSes K H9 x c8 (qs ++ [qA 99]) (sA 2001) [(109, 0), (110, 2001)] at_ := by
      rw [f.slen] at hS9
      exact hS9
    have f9 := same_of_fr f8 fr9 hx (by rw [d2, e1]; exact m1) (by rw [d3, e2]; exact a1)
    have hT9 := hT.ext f9
    clear hS8 ho8 fr9 fr8
    walk_at "go"
    obtain ⟨k1, hk1⟩ : ∃ k1 : Col, k1 = ⟨qA 2001, [], 2001, 2001⟩ := ⟨_, rfl⟩
    have col1 : colR Col0 (sA 2001) = some k1 := by rw [hk1]; exact f.col 2001
    have col2 : colR Col0 ((sA 2001).drop 0) = some k1 := col1
    have col3 : colR Col0 ((sA 2001).drop 2001) = some Col0 := by rw [f.dropn]; rfl
    have np : ¬(k1.p.length ≤ 2000 ∧ k1.w.length ≤ 2000) := fun y => by
      have := y.1
      rw [hk1, f.qlen] at this
      exact absurd this (by decide)
    clear hk1 col col0 pl pw pe ee kinv eok
    have lg1 : (sA 2001).length ≤ 4000 := by rw [f.slen]; decide
    have ok3 := f.ok 2001
    have nd2 : (([(109, 0), (110, 2001)] : List Mk1).map (·.1)).Nodup := by decide
    have mem2 : ((109, 0) : Mk1) ∈ [((109, 0) : Mk1), (110, 2001)] := .head _
    have mem3 : ((110, 2001) : Mk1) ∈ [((109, 0) : Mk1), (110, 2001)] := .tail _ (.head _)
    have eN : vS [110] = vS [((110, 2001) : Mk1).1] := rfl
    intro HA eA TA
    have hSA := hS9.ext eA
    have hoA := hSA.o
    have lSA := hSA.l
    walk_at "go"
    refine fun _ dd HB hd kd sB => ⟨rfl, dd, rfl, kd, ?_⟩
    have hSB := hSA.same sB
    have tB := TA.ext sB
    walk_at "go"
    intro HC eC TC
    have hSC := hSB.ext eC
    have hoC := hSC.o
    have lSC := hSC.l
    have mSC := hSC.m
    walk_at "go"
    refine fun _ dd2 HD hd2 kd2 sD => ⟨rfl, dd2, rfl, kd2, ?_⟩
    have hSD := hSC.same sD
    walk_at "go"
    intro l hl5
    have kl := upd_same (H := HD) (a := l) (o := .lst [.int 2000, .int 2000])
    have s5 := Same.new (o := .lst [V.int 2000, V.int 2000]) hl5
    generalize upd HD l (.lst [V.int 2000, V.int 2000]) = HE at kl s5 ⊢
    walk_at "go"
    intro l2 hl6
    have kl2 := upd_same (H := HE) (a := l2) (o := .lst [.int 2000, .int 2000])
    have s6 := Same.new (o := .lst [V.int 2000, V.int 2000]) hl6
    have kl3 := s6 _ _ kl
    generalize upd HE l2 (.lst [V.int 2000, V.int 2000]) = HF at kl2 kl3 s6 ⊢
    have sDF := s5.trans s6
    have hSF := hSD.same sDF
    have hoF := hSF.o
    have lSF := hSF.l
    have mSF := hSF.m
    refine ⟨_, _, [.i 2000, .i 2000], [.i 2000, .i 2000], rfl, rfl, kl3, kl2, rfl, rfl, ?_⟩
    rw [decide_eq_true rfl]
    walk_at "go"
    refine ⟨fun _ bG HG hbG hLG sG => ?_, fun n => (n ⟨Nat.zero_le _, Nat.zero_le _⟩).elim⟩
    obtain ⟨dG, oG⟩ := id hLG
    walk_at "go"
    have ep : (effOf Col0).p = [] := rfl
    rw [ep, decide_eq_true rfl]
    refine h _ ?_ ((TC.ext sD).ext (sDF.trans sG))
    exact (((((LamX.ExtN.of f9).trans eA).trans (LamX.ExtN.of sB)).trans eC).trans (LamX.ExtN.of sD)).trans (LamX.ExtN.of (sDF.trans sG))

end
end Qe

namespace Qe
open PySem PySem.Spec PyProof.Rows L2 He LamX
/-! ## the session of puts: kept shut -/
def blk0 (n : Nat) : List Step := (List.replicate 50 (97 + n % 2)).map pt1
structure PuF (u : Nat → List Nat) (lg blk : Nat → List Step) : Prop where
  ulen : ∀ n, (u n).length = 50 * n
  llen : ∀ n, (lg n).length = 50 * n
  blen : ∀ n, (blk n).length = 50
  ok : ∀ n, ∀ s ∈ lg n, s.ok
  bok : ∀ n, ∀ s ∈ blk n, s.ok
  zero : lg 0 = []
  uzero : u 0 = []
  run : ∀ n, runS (u n) (blk n) = some (u (n + 1))
  add : ∀ n, lg n ++ blk n = lg (n + 1)
  vt : ∀ n, List.replicate 50 (vS [43, 97 + n % 2]) = (blk n).map vT
  col : ∀ n, colR Col0 (lg n) = some ⟨[], u n, 0, 0⟩
  dcol : ∀ n, colR Col0 ((lg n).drop 100) = some ⟨[], (u n).drop 100, 0, 0⟩
  it : ∀ n, (u n).all isIt = true
  all : ∀ q n, runS q (lg n) = some (q ++ u n)
  nine : (List.replicate 4 ((List.replicate 50 [97]).flatten ++ (List.replicate 50 [98]).flatten)).flatten ++ (List.replicate 50 [97]).flatten = u 9
theorem puF : ∃ u lg blk, PuF u lg blk := ⟨puts50, fun n => (puts50 n).map pt1, blk0, puts_len, fun n => by rw [List.length_map, puts_len], fun n => by unfold blk0; rw [List.length_map, List.length_replicate],
  fun n => pt_ok (puts_it n), fun n => pt_ok (by
    rw [List.all_eq_true]
    intro x hx
    rw [(List.mem_replicate.mp hx).2]
    have : n % 2 = 0 ∨ n % 2 = 1 := by omega
    rcases this with e | e <;> rw [e] <;> rfl), rfl, rfl, fun n => by rw [puts_succ]; exact pt_run _ _, fun n => by rw [puts_succ, List.map_append]; rfl, fun n => by unfold blk0; rw [List.map_replicate, List.map_replicate]; rfl, fun n => pt_col _ [],
  fun n => by rw [← List.map_drop]; exact pt_col _ [], puts_it, fun q n => pt_run _ _, by decide +kernel⟩
theorem qHF : ∃ hs : List Nat, (List.replicate 2100 [104]).flatten = hs ∧ hs.length = 2100 ∧ hs.all isIt = true ∧ hs ≠ [] := ⟨List.replicate 2100 104, rep_flat _ _, List.length_replicate, by
    rw [List.all_eq_true]
    intro x hx
    rw [(List.mem_replicate.mp hx).2]
    rfl, fun e => by have := congrArg List.length e; rw [List.length_replicate] at this; cases this⟩
/-- the marks of the long session -/
def mk1 (i : Nat) : List Mk1 := if i ≤ 1 then [] else [(109, 100)]
theorem put_acc {u : Nat → List Nat} {lg blk : Nat → List Step} (f : PuF u lg blk) (q : List Nat) (n : Nat) : (effOf ⟨[], u n, 0, 0⟩).acc q = true := by
  obtain ⟨k, e1, e2⟩ := fit_run Col0.inv (fit0 q) (f.ok n) (f.all q n)
  rw [f.col] at e1
  cases e1
  exact fit_acc e2
theorem tabs_but {T : List (Addr × Str)} {H H' : Hp} {l : Addr} {xs : List V} (t : Tabs T H) (b : But l H H') (hl : H l = some (.lst xs)) : Tabs T H' := fun p hp => by
  obtain ⟨ps, h1, h2, h3⟩ := t p hp
  refine ⟨ps, b _ _ h1 (ne_of h1 hl (by intro z; cases z)), h2, fun pos cv hc => ?_⟩
  obtain ⟨c, e, ho⟩ := h3 pos cv hc
  exact ⟨c, e, b _ _ ho (ne_of ho hl (by intro z; cases z))⟩
theorem str_vS (z : Str) : V.str z = vS z.cps.toList := rfl
end Qe

namespace Qe
open PySem PySem.Spec PyProof.Rows L2 He
local macro_rules | `(tactic| walk_at "lk") => `(tactic| first
  | assumption
  | exact upd_same
  | (refine (upd_ne (by assumption)).trans ?_; walk_at "lk"))
local macro_rules | `(tactic| walk_at "sd") => `(tactic| first
  | rfl
  | assumption
  | exact SqL.of (by walk_at "lk")
  | exact .inl (SqL.of (by assumption))
  | exact SqT.of (by assumption)
  | exact ⟨_, SqL.of (by assumption)⟩
  | exact .inr (SqT.of (by assumption))
  | exact .inl ⟨rfl, _, SqL.of (by assumption)⟩
  | exact upd_same
  | (refine (upd_ne (by assumption)).trans ?_; walk_at "lk")
  | exact ⟨_, rfl⟩
  | exact NN.none
  | exact NN.some (by omega)
  | exact lt1
  | exact lt2
  | exact lt3
  | exact lt4
  | exact sz0
  | exact sz1
  | exact sz2
  | exact sz3
  | exact sz4
  | exact small20 (by first | omega | (rw [List.length_map]; omega))
  | exact True.intro
  | omega
  | (dsimp only [List.length_cons, List.length_nil]; omega))
local macro_rules | `(tactic| walk_at "go") => `(tactic| first
  | ((with_reducible refine tSeq_i ?_); walk_at "go")
  | ((with_reducible refine gName_i ?_); walk_at "go")
  | ((with_reducible refine tNext_i ?_); walk_at "go")
  | ((with_reducible refine iteT ?_); walk_at "go")
  | ((with_reducible refine iteF ?_); walk_at "go")
  | (with_reducible refine (show tLockE _ _ _ _ from ?_))
  | (with_reducible refine (show tLock _ _ _ _ from ?_))
  | (with_reducible refine (show (∃ W : Nat → Nat → L2.St → Hp → Prop, _) from ?_))
  | (with_reducible refine (show C8.tCut _ _ _ _ _ from ?_))
  | (with_reducible refine (show tWhile _ _ _ _ _ from ?_))
  | (apply Exists.intro; walk_at "go")
  | (apply And.intro; (focus (walk_at "sd")); walk_at "go")
  | skip)

section
variable {P : Program} {w : World} {K : PySem.W.Frag}
      {mg : Str → Option Value} {base : Heap}

def sp_law_many_steps (K : PySem.W.Frag) : Sp := S0 fun H Q _ => LamX.Tabs (tabsQ K) H ∧ ∀ H', LamX.ExtN H H' → LamX.Tabs (tabsQ K) H' → Q (.bl true) H'
open LamX in
theorem ok_law_many_steps (T : Tx K mg) (TB : LamX.TabB base mg (cT K ("_law_many_steps", none)).1 (cT K ("_law_many_steps", none)).2) (hne : (cT K ("_law_many_steps", none)).2 ≠ (cT K ("_law_many_takes", none)).2) : Fx P w K mg base CX0 15 (A_law_many_steps K) (sp_law_many_steps K) := by
  obtain ⟨fd, F⟩ := T.D_law_many_steps
  obtain ⟨fdL, FL⟩ := T.D_law_limited
  have bL := FL.bindsN (ps := ["_law_call"]) fun _ _ _ _ _ _ us hl => match us, hl with | [_], _ => rfl
  obtain ⟨ocL, odL, dVL, kVL, docL, pmL, anL, cdvL, ctL, oslL, rfl, lkL, hcL, _, _⟩ := FL.ex
  have one : ∀ p ∈ tabsQ K, p.1 = (cT K ("_law_many_steps", none)).2 → p.2 = ("_law_many_steps" : Str) ++ ".<locals>." ++ "<lambda>" := fun p hp e => by
    cases hp with
    | head => rfl
    | tail _ hp =>
      cases hp with
      | head => exact absurd e.symm hne
      | tail _ z => cases z
  refine fx_code F sc_law_many_steps (F.bindsN fun _ _ _ _ _ _ us hl => match us, hl with | [], _ => rfl) S0.len fun A outer s H vs Q E hr h => ?_
  obtain ⟨rfl, hT, h⟩ := h
  refine ⟨_, PSs.nox (pss_cons (ps_set (i := 4) sc_law_many_steps.nd rfl (.inr rfl) (pmake (ok_Session_init T) T.k_Session T.g_Session hr (by decide) rfl pass0 (pa_cons (pe_sC [] (by decide +kernel)) pa_nil)))
    (pss_cons (ps_for PassesOwn.never rfl (pi_range1 rfl T.f_range (pa_cons pe_int pa_nil)) (pg_name (i := 0) sc_law_many_steps.nd rfl (.inl rfl)) (pss_cons (ps_expr (pmeth (ok_Session_batch T) T.c_Session T.m_Session_batch hr (by decide) passN (pv 4) (pa_cons (pe_op op_rep (pe_lst (pa_cons (pe_op op_addW (pe_sC [43] (by decide +kernel)) (pe_ix ix_strW (pe_sC [97, 98] (by decide +kernel)) (pe_op op_mod (pv 0) pe_int) (fun _ _ => rfl))) pa_nil)) pe_int) pa_nil)))
    (C8.pss_cut (ps_if (pt_cmpR op_eqI (pv 0) pe_int (nomark _)) (pss_one (ps_expr (pmeth (ok_Session_mark T) T.c_Session T.m_Session_mark hr (by decide) pass0 (pv 4) (pa_cons (pe_sC [109] (by decide +kernel)) pa_nil)))) pss_nil)
    (C8.pss_cut (ps_if (pt_cmpR op_eqI (pv 0) pe_int (nomark _)) (pss_cons (ps_set (i := 1) sc_law_many_steps.nd rfl (.inl rfl) (pe_op op_addW (pe_op op_mulW (pe_op op_addW (pe_op op_mulW (pe_sC [97] (by decide +kernel)) pe_int) (pe_op op_mulW (pe_sC [98] (by decide +kernel)) pe_int)) pe_int) (pe_op op_mulW (pe_sC [97] (by decide +kernel)) pe_int)))
    (pss_cons (ps_if (PW.pt (pw_or (pt_cmpR op_neW (pprop (ok_LookEffect_puts T) T.c_LookEffect T.p_LookEffect_puts hr (by decide) pass0 (pmeth0 (ok_Session_total T) T.c_Session T.m_Session_total hr (by decide) passN (pv 4)) rfl) (pv 1) (nomark _)) (pw_or1 (pt_cmpR op_neW (pprop (ok_LookEffect_puts T) T.c_LookEffect T.p_LookEffect_puts hr (by decide) pass0 (pmeth (ok_Session_since T) T.c_Session T.m_Session_since hr (by decide) passN (pv 4) (pa_cons (pe_sC [109] (by decide +kernel)) pa_nil)) rfl) (pe_slice sl_strW (pv 1) (po_some pe_int) po_none) (nomark _))))) (pss_one (ps_ret pe_bl)) pss_nil)
    (pss_one (ps_if (pt_cmpR op_neW (pmeth (ok_Console_execute T) T.c_Console T.m_Console_execute hr (by decide) passN (pmake (ok_Console_init T) T.k_Console T.g_Console hr (by decide) rfl pass0 (pa_cons (pv 4) pa_nil)) (pa_cons (pe_op op_addW (pe_sC [116, 114, 121, 32] (by decide +kernel)) (pe_op op_mulW (pe_sC [104] (by decide +kernel)) pe_int)) pa_nil)) (pe_op op_addW (pe_op op_mulW (pe_sC [104] (by decide +kernel)) pe_int) (pv 1)) (nomark _)) (pss_one (ps_ret pe_bl)) pss_nil)))) pss_nil)
    (pss_one (ps_if (PW.pt (pw_and (pt_cmpR op_eqI (pv 0) pe_int (nomark _)) (pw_and1 (pt_cmpR op_neI (pe_callB call_lenW rfl T.f_len boot_len (pa_cons (pprop (ok_LookEffect_puts T) T.c_LookEffect T.p_LookEffect_puts hr (by decide) pass0 (pmeth0 (ok_Session_total T) T.c_Session T.m_Session_total hr (by decide) passN (pv 4)) rfl) pa_nil)) pe_int (nomark _))))) (pss_one (ps_ret pe_bl)) pss_nil))))))
    (pss_cons (ps_set (i := 3) sc_law_many_steps.nd rfl (.inr rfl) (pmake (ok_Console_init T) T.k_Console T.g_Console hr (by decide) rfl pass0 (pa_cons (pv 4) pa_nil)))
    (pss_cons (ps_set (i := 2) sc_law_many_steps.nd rfl (.inl rfl) (pe_lst (pa_cons (pe_lamcall (T := tabsQ K) (k := 10) rfl T.g_law_limited FL.kp lkL hcL bL sc_law_limited rfl (.inl rfl) (lim_gives T) TB rfl (.head _) one (hr.mono (by decide)) (lamS_by (sc := defScope s_law_many_steps) (by decide +kernel)) rfl (fun _ _ _ _ _ => rfl) (fun A outer s H E f c' hr2 => by exact (pmeth0 (ok_Session_total T) T.c_Session T.m_Session_total hr2 (by decide) (passes_call (takes_of rfl rfl rfl rfl) fun _ _ _ _ z => z) (pv 4)))) (pa_cons (pe_lamcallD (T := tabsQ K) (k := 10) rfl T.g_law_limited FL.kp lkL hcL bL sc_law_limited rfl (.inl rfl) (lim_gives T) TB rfl (.head _) one (hr.mono (by decide)) (lamN_by (N := ["_law_turn_here", "_law_puts", "_law_found", "_law_board", "_law_session"]) (sc := defScope s_law_many_steps) (by decide +kernel)) (fun _ _ _ _ _ _ _ => ⟨_, rfl, rfl⟩) (fun A outer s H E f c' hr2 => by exact (pmeth (ok_Console_execute T) T.c_Console T.m_Console_execute hr2 (by decide) (passes_call (takes_of rfl rfl rfl rfl) fun _ _ _ _ z => z) (pv 3) (pa_cons (pe_sC [116, 111, 116, 97, 108] (by decide +kernel)) pa_nil)))) pa_nil))))
    (pss_cons (ps_expr (pe_bm PySem.F.plainAttrs_list PySem.F.slot_list_append PySem.F.type_list_append mt_append (pv 2) (pa_cons (pe_lamcallD (T := tabsQ K) (k := 10) rfl T.g_law_limited FL.kp lkL hcL bL sc_law_limited rfl (.inl rfl) (lim_gives T) TB rfl (.head _) one (hr.mono (by decide)) (lamN_by (N := ["_law_turn_here", "_law_puts", "_law_found", "_law_board", "_law_session"]) (sc := defScope s_law_many_steps) (by decide +kernel)) (fun _ _ _ _ _ _ _ => ⟨_, rfl, rfl⟩) (fun A outer s H E f c' hr2 => by exact (pmeth (ok_Console_execute T) T.c_Console T.m_Console_execute hr2 (by decide) (passes_call (takes_of rfl rfl rfl rfl) fun _ _ _ _ z => z) (pv 3) (pa_cons (pe_sC [116, 114, 121, 32, 97] (by decide +kernel)) pa_nil)))) pa_nil)))
    (pss_cons (ps_if (PW.pt (pw_or (pt_cmpR op_neW (pmeth (ok_Console_execute T) T.c_Console T.m_Console_execute hr (by decide) passN (pv 3) (pa_cons (pe_sC [108, 111, 103] (by decide +kernel)) pa_nil)) (pe_join (pe_sC [32] (by decide +kernel)) (pmeth0 (ok_Session_log T) T.c_Session T.m_Session_log hr (by decide) pass0 (pv 4))) (nomark _)) (pw_or1 (pt_cmpR op_neW (pmeth (ok_Console_execute T) T.c_Console T.m_Console_execute hr (by decide) passN (pv 3) (pa_cons (pe_sC [108, 101, 110, 103, 116, 104] (by decide +kernel)) pa_nil)) (pe_sC [50, 48, 53, 48] (by decide +kernel)) (nomark _))))) (pss_one (ps_ret pe_bl)) pss_nil)
    (pss_one (ps_ret (pe_and (pe_cmpR (op_eqLF hr.units) (pv 2) (pe_op op_rep (pe_lst (pa_cons pe_int pa_nil)) pe_int) (nomark _)) (pe_and (pe_cmpR op_eqI (pe_callB call_lenW rfl T.f_len boot_len (pa_cons (pprop (ok_LookEffect_puts T) T.c_LookEffect T.p_LookEffect_puts hr (by decide) pass0 (pmeth (ok_Session_since T) T.c_Session T.m_Session_since hr (by decide) passN (pv 4) (pa_cons (pe_sC [109] (by decide +kernel)) pa_nil)) rfl) pa_nil)) pe_int (nomark _)) (pe_one (pe_cmpR op_eqI (pe_callB (p_lenO (ok_Console_len T) T.len_Console hr (by decide) pass0) rfl T.f_len boot_len (pa_cons (pv 3) pa_nil)) pe_int (nomark _))))))))))))), ?_⟩
  have cl := T.c_Session
  have cl2 := T.c_LookEffect
  have cl3 := T.c_Console
  have iq : isQ [] := ⟨Nat.zero_le _, rfl⟩
  walk_at "go"
  intro x dx hx hdx hnd
  refine ⟨_, _, rfl, x, dx, [], rfl, rfl, iq, upd_same, fun H1 c hS hdx' hm ha b => ?_⟩
  obtain ⟨m1, m2⟩ := made_none hx hdx hm
  obtain ⟨a1, a2⟩ := made_none hx hdx ha
  have f1 : Same H H1 := fun b' o e => b _ _ ((upd_ne (ne_of_none e hx)).trans ((upd_ne (ne_of_none e hdx)).trans e)) (ne_of_none e hx)
  clear hm ha b hnd hdx
  walk_at "go"
  obtain ⟨u, lg, blk, f⟩ := puF
  obtain ⟨hs, ehs, hsl, hsi, hsn⟩ := qHF
  have eM : vS [109] = vS [((109, 100) : Mk1).1] := rfl
  have low : isLow 109 = true := rfl
  have mem1 : ((109, 100) : Mk1) ∈ [((109, 100) : Mk1)] := List.mem_singleton.mpr rfl
  have nd1 : (([(109, 100)] : List Mk1).map (·.1)).Nodup := by decide
  refine for_it (walk_range (lo := 0) (n := 41)) (fun i σ' H' => Hold (Same H H' ∧ ∃ (c' : SesA) (qs : List (List Nat)) (at_ : List (Nat × Nat)) (z0 z1 : Option V), c'.ma = c.ma ∧ c'.aa = c.aa ∧ isSes K H' x c' qs (lg i) (mk1 i) at_ ∧ qs.length = 50 * i + 1 ∧ at_.length = i ∧ qs.getLast? = some (u i) ∧ σ' = [z0, z1, none, none, some (.ref x)]))
    (.mk ⟨f1, c, _, _, _, _, rfl, rfl, by rw [f.zero]; exact hS, rfl, rfl, by rw [f.uzero]; rfl, rfl⟩) (fun _ _ _ _ _ => trivial) (fun i y σ' H3 H4 hi pv yy => ?_) fun σ' H3 pv => ?_
  · obtain ⟨rfl, rfl⟩ := yy
    obtain ⟨f3, c', qs, at_, z0, z1, e1, e2, hS3, hl, hal, hlast, rfl⟩ := pv.out
    have hi : i < 41 := hi
    have ho3 := hS3.o
    have eC : atI [97, 98] (((0 : Int) + (i : Nat)) % 2) = some (97 + i % 2) := by
      rw [show ((0 : Int) + (i : Nat)) % 2 = ((i % 2 : Nat) : Int) by omega]
      have : i % 2 = 0 ∨ i % 2 = 1 := by omega
      rcases this with e | e <;> rw [e] <;> rfl
    have n1 : -(2 ^ 63 : Int) ≤ 50 := by decide
    have n2 : (50 : Int) < 2 ^ 63 := by decide
    walk_at "go"
    intro l hl5
    have eL : HO.lst [vS ([43] ++ [97 + i % 2])] = HO.lst [vS [43, 97 + i % 2]] := rfl
    rw [eL]
    have kl := upd_same (H := H4) (a := l) (o := .lst [vS [43, 97 + i % 2]])
    have s5 := Same.new (o := .lst [vS [43, 97 + i % 2]]) hl5
    have n3 : [vS [43, 97 + i % 2]].length * (50 : Int).toNat ≤ sizeLine := by show 1 * 50 ≤ sizeLine; decide
    generalize upd H4 l (.lst [vS [43, 97 + i % 2]]) = H5 at kl s5 ⊢
    walk_at "go"
    intro p6 hp6
    have e6 : (List.replicate (Int.toNat 50) [vS [43, 97 + i % 2]]).flatten = (blk i).map vT := (rep_flat _ 50).trans (f.vt i)
    rw [e6]
    have kp : StL (upd H5 p6 (.lst ((blk i).map vT))) p6 (blk i) := upd_same
    have s6 := Same.new (o := .lst ((blk i).map vT)) hp6
    have np : p6 ≠ c'.aa := (hS3.same s5).aa hp6
    generalize upd H5 p6 (.lst ((blk i).map vT)) = H6 at kp s6 ⊢
    have s46 := s5.trans s6
    have hS6 := hS3.same s46
    have lq : (u i).length ≤ 2100 := by rw [f.ulen]; omega
    have l1 : qs.length ≤ 5000 := by omega
    have l2 : (lg i).length ≤ 5000 := by rw [f.llen]; omega
    have l3 : at_.length ≤ 5000 := by omega
    have l4 : (blk i).length ≤ 50 := by rw [f.blen]; exact Nat.le_refl _
    have fit : fits (u i) (blk i) := fits_of (by rw [f.ulen, f.blen]; omega)
    have run := f.run i
    have okb := f.bok i
    walk_at "go"
    refine ⟨fun r er H7 t7 => ?_, fun j qj s0 e3 e4 e5 => ?_⟩
    rotate_left
    · exfalso
      have lt := (List.getElem?_eq_some_iff.mp e4).1
      exact fail_no (k := (blk i).length) (by rw [List.take_length]; exact run) lt e3 e4 e5
    rw [run] at er
    obtain rfl := Option.some.inj er
    have tl := trace_len run
    have tlast := trace_last hlast run
    obtain ⟨c7, _, d2, d3, hS7, fr⟩ := t7
    rw [f.add] at hS7
    have f7 := same_of_fr (f3.trans s46) fr hx (by rw [e1]; exact m1) (by rw [e2]; exact a1)
    have l7 : (qs ++ traceR (u i) (blk i)).length = 50 * (i + 1) + 1 := by rw [List.length_append, tl, hl, f.blen]; omega
    have a7 : (at_ ++ [((blk i).length, (blk i).length)]).length = i + 1 := by rw [List.length_append, hal]; rfl
    generalize qs ++ traceR (u i) (blk i) = qs7 at hS7 l7 tlast
    generalize at_ ++ [((blk i).length, (blk i).length)] = at7 at hS7 a7
    have d2 := d2.trans e1
    have d3 := d3.trans e2
    clear hS3 ho3 hS6 kp kl s5 s6 s46 f3 hl hal hlast fr tl run fit l1 l2 l3 l4 lq e1 e2 eC
    walk_at "go"
    refine ⟨fun σ' H' => Hold (Same H H' ∧ ∃ z1 : Option V, isSes K H' x c7 qs7 (lg (i + 1)) (mk1 (i + 1)) at7 ∧ σ' = [some (.int (0 + (i : Nat))), z1, none, none, some (.ref x)]), ?_, fun σ' H8 pv8 => ?_⟩
    · walk_at "go"
      refine ite_d (fun e => ?_) fun e => ?_
      · obtain rfl : i = 1 := by omega
        have hS7 : isSes K H7 x c7 qs7 (lg 2) [] at7 := hS7
        have ho7 := hS7.o
        have l15 : ([] : List Mk1).length ≤ 15 := by decide
        walk_at "go"
        intro H8 hS8 fr8
        rw [f.llen] at hS8
        exact .mk ⟨same_of_fr f7 fr8 hx (by rw [d2]; exact m1) (by rw [d3]; exact a1), _, hS8, rfl⟩
      · walk_at "go"
        refine .mk ⟨f7, _, ?_, rfl⟩
        rw [show mk1 (i + 1) = mk1 i from by unfold mk1; split <;> split <;> first | rfl | omega]
        exact hS7
    obtain ⟨f8, z18, hS8, rfl⟩ := pv8.out
    clear hS7 f7 pv8
    refine ⟨fun σ' H' => Hold (Same H H' ∧ ∃ z1 : Option V, isSes K H' x c7 qs7 (lg (i + 1)) (mk1 (i + 1)) at7 ∧ σ' = [some (.int (0 + (i : Nat))), z1, none, none, some (.ref x)]), ?_, fun σ' H9 pv9 => ?_⟩
    · walk_at "go"
      refine ite_d (fun e => ?_) fun e => ?_
      · obtain rfl : i = 8 := by omega
        have hS8 : isSes K H8 x c7 qs7 (lg 9) [(109, 100)] at7 := hS8
        have ho8 := hS8.o
        have lS8 := hS8.l
        have mS8 := hS8.m
        have q1 : (List.replicate 50 [97]).flatten.length + (List.replicate 50 [98]).flatten.length ≤ 20000 := by decide
        have q2 : 1 ≤ ((List.replicate 50 [97]).flatten ++ (List.replicate 50 [98]).flatten).length := by decide
        have q3 : ((List.replicate 50 [97]).flatten ++ (List.replicate 50 [98]).flatten).length ≤ 10000 := by decide
        have q4 : ((List.replicate 50 [97]).flatten ++ (List.replicate 50 [98]).flatten).length * 4 ≤ 100000 := by decide
        have q5 : (List.replicate 4 ((List.replicate 50 [97]).flatten ++ (List.replicate 50 [98]).flatten)).flatten.length + (List.replicate 50 [97]).flatten.length ≤ 20000 := by decide +kernel
        have col := f.col 9
        have dcol := f.dcol 9
        have ok9 := f.ok 9
        have lg9 : (lg 9).length ≤ 4000 := by rw [f.llen]; decide
        have ul9 : (u 9).length ≤ 2000 := by rw [f.ulen]; decide
        have ud9 : ((u 9).drop 100).length ≤ 2000 := by rw [List.length_drop, f.ulen]; decide
        have ub9 : (u 9).length ≤ 20000 := by omega
        walk_at "go"
        rw [f.nine]
        refine ⟨fun _ b9 H9 hb9 hL9 s9 => ?_, fun n => (n ⟨Nat.zero_le _, ul9⟩).elim⟩
        obtain ⟨d9, o9⟩ := id hL9
        walk_at "go"
        rw [show (effOf ⟨[], u 9, 0, 0⟩).w = u 9 from rfl]
        refine ite_n (fun e => (e rfl).elim) fun _ => ?_
        have hS9 := hS8.same s9
        have ho9 := hS9.o
        have lS9 := hS9.l
        have mS9 := hS9.m
        walk_at "go"
        refine ⟨fun _ bA HA hbA hLA sA => ?_, fun n => (n ⟨Nat.zero_le _, ud9⟩).elim⟩
        obtain ⟨dA, oA⟩ := id hLA
        walk_at "go"
        rw [show (effOf ⟨[], (u 9).drop 100, 0, 0⟩).w = (u 9).drop 100 from rfl, show cutN (u 9) (some 100) none = (u 9).drop 100 from rfl]
        refine ite_n (fun e => (e rfl).elim) fun _ => ?_
        have hSA := hS9.same sA
        clear hS9 ho9 lS9 mS9 hS8 ho8 lS8 mS8 oA o9
        have h1 : 1 ≤ [104].length := by decide
        have h2 : [116, 114, 121, 32].length + (List.replicate 2100 [104]).flatten.length ≤ 20000 := by rw [ehs, hsl]; decide
        have h3 : (List.replicate 2100 [104]).flatten.length + (u 9).length ≤ 20000 := by rw [ehs, hsl, f.ulen]; decide
        walk_at "go"
        intro x2 dx2 hx2 hdx2 hn2
        have sm : Same HA (upd (upd HA dx2 (.own x2)) x2 (.ins (ga K "Console") dx2 [])) := fun b o e => (upd_ne (ne_of_none e hx2)).trans ((upd_ne (ne_of_none e hdx2)).trans e)
        refine ⟨_, _, rfl, x2, dx2, x, c7, qs7, lg 9, [(109, 100)], at7, rfl, rfl, upd_same, hSA.same sm, fun HB ca s' c'' hC hS' hca b => ?_⟩
        obtain ⟨ca1, ca2⟩ := made_none hx2 hdx2 hca
        have sB : Same HA HB := fun b' o e => b _ _ (sm _ _ e) (ne_of_none e hx2)
        clear b hca
        have hCo := hC.o
        have oS' := hS'.o
        have lS' := hS'.l
        have ne9 : lg 9 ≠ [] := fun e => by have := f.llen 9; rw [e] at this; cases this
        have l0 : ([] : List V).length ≤ 1000 := by decide
        have iqh : isQ hs := ⟨Nat.le_of_eq hsl, hsi⟩
        walk_at "go"
        rw [ehs]
        refine .inr (.inr (.inr ⟨hs, rfl, iqh, hsn, fun _ => ⟨put_acc f hs 9, fun e => ?_, fun HC hC2 bC => ?_⟩, fun n => (n ⟨Nat.zero_le _, ul9⟩).elim⟩))
        · have e2 : hs ++ u 9 = [] := e
          exact hsn (List.append_eq_nil_iff.mp e2).1
        have sC : Same HA HC := fun b o e => bC _ _ (sB _ _ e) (ne_of_none e ca1)
        walk_at "go"
        refine ite_n (fun e => (e (by rw [ehs]; rfl)).elim) fun _ => ?_
        exact .mk ⟨f8.trans (s9.trans (sA.trans sC)), _, hSA.same sC, rfl⟩
      · walk_at "go"
        exact .mk ⟨f8, _, hS8, rfl⟩
    obtain ⟨f9, z19, hS9, rfl⟩ := pv9.out
    clear hS8 f8 pv9
    walk_at "go"
    refine ite_d (fun e => ?_) fun e => ?_
    · obtain rfl : i = 39 := by omega
      have ho9 := hS9.o
      have lS9 := hS9.l
      have col := f.col 40
      have ok40 := f.ok 40
      have lg40 : (lg 40).length ≤ 4000 := by rw [f.llen]; decide
      have ul40 : (u 40).length ≤ 2000 := by rw [f.ulen]; decide
      have lw : (effOf ⟨[], u 40, 0, 0⟩).w.length ≤ 20000 := Nat.le_trans ul40 (by decide)
      have ee : (((effOf ⟨[], u 40, 0, 0⟩).w.length : Nat) : Int) = 2000 := congrArg Int.ofNat (f.ulen 40)
      walk_at "go"
      refine ⟨fun _ bA HA hbA hLA sA => ?_, fun n => (n ⟨Nat.zero_le _, ul40⟩).elim⟩
      obtain ⟨dA, oA⟩ := id hLA
      walk_at "go"
      rw [ee]
      refine ite_n (fun e => (e rfl).elim) fun _ => ?_
      exact .mk ⟨f9.trans sA, c7, qs7, at7, _, z19, d2, d3, hS9.same sA, l7, a7, tlast, rfl⟩
    · walk_at "go"
      exact .mk ⟨f9, c7, qs7, at7, _, z19, d2, d3, hS9, l7, a7, tlast, rfl⟩
  · obtain ⟨f3, c', qs, at_, z0, z1, e1, e2, hS3, hl, hal, hlast, rfl⟩ := pv.out
    have hS3 : isSes K H3 x c' qs (lg 41) [(109, 100)] at_ := hS3
    obtain ⟨k1, hk1⟩ : ∃ k1 : Col, k1 = ⟨[], u 41, 0, 0⟩ := ⟨_, rfl⟩
    have col := f.col 41
    rw [← hk1] at col
    have np : ¬(k1.p.length ≤ 2000 ∧ k1.w.length ≤ 2000) := fun y => by
      have := y.2
      rw [hk1, f.ulen] at this
      exact absurd this (by decide)
    clear hk1
    have ok41 := f.ok 41
    have lg41 : (lg 41).length ≤ 4000 := by rw [f.llen]; decide
    have ne41 : lg 41 ≠ [] := fun e => by have := f.llen 41; rw [e] at this; cases this
    have l0 : ([] : List V).length ≤ 1000 := by decide
    walk_at "go"
    intro x2 dx2 hx2 hdx2 hn2
    have sm : Same H3 (upd (upd H3 dx2 (.own x2)) x2 (.ins (ga K "Console") dx2 [])) := fun b o e => (upd_ne (ne_of_none e hx2)).trans ((upd_ne (ne_of_none e hdx2)).trans e)
    refine ⟨_, _, rfl, x2, dx2, x, c', qs, lg 41, [(109, 100)], at_, rfl, rfl, upd_same, hS3.same sm, fun HB ca s' c'' hC hS' hca b => ?_⟩
    obtain ⟨ca1, ca2⟩ := made_none hx2 hdx2 hca
    have sB : Same H3 HB := fun b' o e => b _ _ (sm _ _ e) (ne_of_none e hx2)
    have hSB := hS3.same sB
    have tB := hT.ext (f3.trans sB)
    clear b hca sm
    walk_at "go"
    intro HC eC TC
    have hSC := hSB.ext eC
    have hCC := hC.ext eC
    have hS'C := hS'.ext eC
    have oSC := hSC.o
    have lSC := hSC.l
    walk_at "go"
    refine fun _ dd HD hd kd sD => ⟨rfl, dd, rfl, kd, ?_⟩
    have tD := TC.ext sD
    walk_at "go"
    intro HE eE TE
    have sCE : LamX.ExtN HC HE := (LamX.ExtN.of sD).trans eE
    have hSE := hSC.ext sCE
    have hCE := hCC.ext sCE
    have hS'E := hS'C.ext sCE
    have oCE := hCE.o
    have oS'E := hS'E.o
    have lS'E := hS'E.l
    walk_at "go"
    refine .inr (.inr (.inl ⟨rfl, np, fun dd2 HF hd2 kd2 sF => ⟨rfl, dd2, rfl, kd2, ?_⟩⟩))
    walk_at "go"
    intro l hl5
    have kl := upd_same (H := HF) (a := l) (o := .lst [.int 2000, .int 2000])
    have s5 := Same.new (o := .lst [V.int 2000, V.int 2000]) hl5
    generalize upd HF l (.lst [V.int 2000, V.int 2000]) = HG at kl s5 ⊢
    have sEG := sF.trans s5
    have tG := TE.ext sEG
    walk_at "go"
    intro HI eI TI
    have sEI : LamX.ExtN HE HI := (LamX.ExtN.of sEG).trans eI
    have hCI := hCE.ext sEI
    have hS'I := hS'E.ext sEI
    have oCI := hCI.o
    have oS'I := hS'I.o
    have lS'I := hS'I.l
    have klI := keepX eI kl
    walk_at "go"
    refine .inr (.inr (.inr ⟨[97], rfl, ⟨by decide, rfl⟩, (fun z => by cases z), fun y => (np y).elim, fun _ dd3 HJ hd3 kd3 sJ => ⟨rfl, dd3, rfl, kd3, ?_⟩⟩))
    have klJ := sJ _ _ klI
    have lz : [V.int 2000, V.int 2000].length < sizeLine := small20 (by show 2 ≤ 20000; omega)
    walk_at "go"
    have b1 : But l HJ (upd HJ l (.lst ([V.int 2000, V.int 2000] ++ [V.int 2000]))) := (But.same (Same.refl _)).upd
    have klK := upd_same (H := HJ) (a := l) (o := .lst ([V.int 2000, V.int 2000] ++ [V.int 2000]))
    have TK := tabs_but (TI.ext sJ) b1 klJ
    generalize upd HJ l (.lst ([V.int 2000, V.int 2000] ++ [V.int 2000])) = HK at b1 klK TK ⊢
    have xFK : LamX.ExtN HF HK := fun b o e n => b1 _ _ (sJ _ _ (eI _ _ (s5 _ _ e) n)) (ne_of_none e hl5)
    have xBK : LamX.ExtN HB HK := ((eC.trans sCE).trans (LamX.ExtN.of sF)).trans xFK
    have x3K : LamX.ExtN H3 HK := (LamX.ExtN.of sB).trans xBK
    have hCK := hC.ext xBK
    have hS'K := hS'.ext xBK
    have oCK := hCK.o
    have oS'K := hS'K.o
    have lS'K := hS'K.l
    walk_at "go"
    refine .inl ⟨rfl, fun HL hCL bL => ?_⟩
    have hCL : isCon K HL x2 dx2 ca s' [vS cLog] := hCL
    have x3L : LamX.ExtN H3 HL := fun b o e n => bL _ _ (x3K b o e n) (ne_of_none e ca1)
    have hSL := hS3.ext x3L
    have nla : c''.la ≠ ca := ne_of lS'K hCK.m (fun e => by
      have e := HO.lst.inj e
      exact ne41 (List.map_eq_nil_iff.mp e))
    have nlc : l ≠ ca := ne_of klK hCK.m (fun e => by cases HO.lst.inj e)
    have oS'L := bL _ _ oS'K (ne_of oS'K hCK.m (by intro z; cases z))
    have lS'L : StL HL c''.la (lg 41) := bL _ _ lS'K nla
    have klL := bL _ _ klK nlc
    have TL := tabs_but TK bL hCK.m
    have oSL := hSL.o
    have lSL := hSL.l
    walk_at "go"
    intro pj HM hpj kj sM
    have e2 : ((lg 41).map fun s => sS [s.1, s.2]).map V.str = (lg 41).map vT := by rw [List.map_map]; rfl
    have k2 : HM pj = some (.lst (((lg 41).map fun s => sS [s.1, s.2]).map V.str)) := by rw [e2]; exact kj
    refine ⟨sS [32], pj, (lg 41).map fun s => sS [s.1, s.2], rfl, rfl, .inl (SqL.of k2), ?_, ?_⟩
    · rw [List.map_map, List.length_map, sumT, f.llen]
      decide
    refine ⟨_, _, str_vS _, str_vS _, _, rfl, ite_n (fun e => (e rfl).elim) fun _ => ?_⟩
    have hCM := hCL.ext (LamX.ExtN.of sM)
    have oCM := hCM.o
    have oS'M := sM _ _ oS'L
    have lS'M : StL HM c''.la (lg 41) := sM _ _ lS'L
    have l1 : [vS cLog].length ≤ 1000 := by decide
    walk_at "go"
    refine .inr (.inl ⟨rfl, fun HN hCN bN => ?_⟩)
    have hCN : isCon K HN x2 dx2 ca s' [vS cLog, vS cLen] := hCN
    have eT : V.str (toString ((lg 41).length : Int)) = vS [50, 48, 53, 48] := by rw [f.llen]; rfl
    rw [eT]
    have x3N : LamX.ExtN H3 HN := fun b o e n => bN _ _ (sM _ _ (x3L b o e n)) (ne_of_none e ca1)
    have hSN := hS3.ext x3N
    have klN := bN _ _ (sM _ _ klL) nlc
    have TN := tabs_but (TL.ext sM) bN hCM.m
    walk_at "go"
    intro l6 hl6
    have kl6 := upd_same (H := HN) (a := l6) (o := .lst [.int 2000])
    have s6 := Same.new (o := .lst [V.int 2000]) hl6
    generalize upd HN l6 (.lst [V.int 2000]) = HO1 at kl6 s6 ⊢
    have n1 : -(2 ^ 63 : Int) ≤ 3 := by decide
    have n2 : (3 : Int) < 2 ^ 63 := by decide
    have n3 : [V.int 2000].length * (3 : Int).toNat ≤ sizeLine := by show 1 * 3 ≤ sizeLine; decide
    walk_at "go"
    intro l7 hl7
    have kl7 : (upd HO1 l7 (.lst (List.replicate (Int.toNat 3) [V.int 2000]).flatten)) l7 = some (.lst ([FD.i 2000, .i 2000, .i 2000].map FD.v)) := upd_same
    have s7 := s6.trans (Same.new (o := .lst (List.replicate (Int.toNat 3) [V.int 2000]).flatten) hl7)
    generalize upd HO1 l7 (.lst (List.replicate (Int.toNat 3) [V.int 2000]).flatten) = HP at kl7 s7 ⊢
    refine ⟨_, _, [.i 2000, .i 2000, .i 2000], [.i 2000, .i 2000, .i 2000], rfl, rfl, s7 _ _ klN, kl7, rfl, rfl, ?_⟩
    rw [decide_eq_true rfl]
    have hSP := hSN.same s7
    have hCP := hCN.ext (LamX.ExtN.of s7)
    have oSP := hSP.o
    have lSP := hSP.l
    have mSP := hSP.m
    have dcol := f.dcol 41
    have dl : ((u 41).drop 100).length = 1950 := by rw [List.length_drop, f.ulen]
    have dl2 : ((u 41).drop 100).length ≤ 2000 := by rw [dl]; decide
    have dl3 : (effOf ⟨[], (u 41).drop 100, 0, 0⟩).w.length ≤ 20000 := Nat.le_trans dl2 (by decide)
    have ee : (((effOf ⟨[], (u 41).drop 100, 0, 0⟩).w.length : Nat) : Int) = 1950 := congrArg Int.ofNat dl
    walk_at "go"
    refine ⟨fun _ bQ HQ hbQ hLQ sQ => ?_, fun n => (n ⟨Nat.zero_le _, dl2⟩).elim⟩
    obtain ⟨dQ, oQ⟩ := id hLQ
    have hCQ := hCP.ext (LamX.ExtN.of sQ)
    have oCQ := hCQ.o
    walk_at "go"
    rw [ee]
    walk_at "go"
    exact h _ ((((LamX.ExtN.of f3).trans x3N).trans (LamX.ExtN.of s7)).trans (LamX.ExtN.of sQ)) (TN.ext (s7.trans sQ))

end
end Qe

namespace Qe
open PySem PySem.Spec PyProof.Rows L2 He
local macro_rules | `(tactic| walk_at "lk") => `(tactic| first
  | assumption
  | exact upd_same
  | (refine (upd_ne (by assumption)).trans ?_; walk_at "lk"))
local macro_rules | `(tactic| walk_at "sd") => `(tactic| first
  | rfl
  | assumption
  | exact SqL.of (by walk_at "lk")
  | exact .inl (SqL.of (by assumption))
  | exact SqT.of (by assumption)
  | exact ⟨_, SqL.of (by assumption)⟩
  | exact .inr (SqT.of (by assumption))
  | exact .inl ⟨rfl, _, SqL.of (by assumption)⟩
  | exact upd_same
  | (refine (upd_ne (by assumption)).trans ?_; walk_at "lk")
  | exact ⟨_, rfl⟩
  | exact NN.none
  | exact NN.some (by omega)
  | exact lt1
  | exact lt2
  | exact lt3
  | exact lt4
  | exact sz0
  | exact sz1
  | exact sz2
  | exact sz3
  | exact sz4
  | exact small20 (by first | omega | (rw [List.length_map]; omega))
  | exact True.intro
  | omega
  | (dsimp only [List.length_cons, List.length_nil]; omega))
local macro_rules | `(tactic| walk_at "go") => `(tactic| first
  | ((with_reducible refine tSeq_i ?_); walk_at "go")
  | ((with_reducible refine gName_i ?_); walk_at "go")
  | ((with_reducible refine tNext_i ?_); walk_at "go")
  | ((with_reducible refine iteT ?_); walk_at "go")
  | ((with_reducible refine iteF ?_); walk_at "go")
  | (with_reducible refine (show tLockE _ _ _ _ from ?_))
  | (with_reducible refine (show tLock _ _ _ _ from ?_))
  | (with_reducible refine (show (∃ W : Nat → Nat → L2.St → Hp → Prop, _) from ?_))
  | (with_reducible refine (show C8.tCut _ _ _ _ _ from ?_))
  | (with_reducible refine (show tWhile _ _ _ _ _ from ?_))
  | (apply Exists.intro; walk_at "go")
  | (apply And.intro; (focus (walk_at "sd")); walk_at "go")
  | skip)

section
variable {P : Program} {w : World} {K : PySem.W.Frag}
      {mg : Str → Option Value} {base : Heap}

def sp_law (K : PySem.W.Frag) : Sp := S1 fun a H Q _ => ∃ (s : Addr) (ns : List Int), a = .ref s ∧ SqL K H s (ns.map V.int) ∧ ns.length ≤ 63 ∧ LamX.Tabs (tabsQ K) H ∧ ∀ H', Q (.bl true) H'
/-- a dict that an expression gives, shut from then on -/
def tFrz (td : TE) : TE := fun σ H Q => td σ H fun x H1 => ∃ (d : Addr) (kvs : List (Key × V)), x = .ref d ∧ H1 d = some (.dK kvs) ∧ ∀ o, Q x (upd H1 d (.frz o (.dK kvs)))
theorem pe_frz {X : Cx} {e : Expr} {td : TE} (he : PE X e td) : PE X e (tFrz td) := by
  refine ⟨fun pins s σ H Q I h => thn (he.run pins s σ H _ I h) fun u s1 ⟨x, H1, I1, rx, d, kvs, ex, hd, q⟩ => ?_⟩
  obtain ⟨od, I2⟩ := I1.lock hd True.intro
  exact ⟨x, _, I2, rx, q od⟩
theorem sqL_extN {H H' : Hp} {a : Addr} {xs : List V} (h : SqL K H a xs) (e : LamX.ExtN H H') : SqL K H' a xs :=
  h.elim (fun h => .inl (h.elim (fun h => .inl (keepX e h)) fun ⟨o, h⟩ => .inr ⟨o, keepX e h⟩)) fun h => .inr h
theorem ok_law (T : Tx K mg) (TB1 : LamX.TabB base mg (cT K ("_law_many_steps", none)).1 (cT K ("_law_many_steps", none)).2) (TB2 : LamX.TabB base mg (cT K ("_law_many_takes", none)).1 (cT K ("_law_many_takes", none)).2) (hne : (cT K ("_law_many_steps", none)).2 ≠ (cT K ("_law_many_takes", none)).2)
    {fd : FuncData} (F : FunD K "law" "law" (defArgs s_law) (defBody s_law) (defScope s_law) [] [] (A_law K) fd) : FnOk P w K mg base CX0 16 (A_law K) fd ["_law_script"] (sp_law K) := by
  refine F.ok sc_law S1.len fun cdv A outer s H vs Q E hr h => ?_
  obtain ⟨a0, rfl, h⟩ := h
  refine ⟨_, PSs.nox (pss_cons (ps_if (PW.pt (pw_or (pt_not (pt_val (pcall0 (ok_law_many_steps T TB1 hne) T.g_law_many_steps hr (by decide) rfl pass0))) (pw_or1 (pt_not (pt_val (pcall0 (ok_law_many_takes T TB2 hne) T.g_law_many_takes hr (by decide) rfl pass0)))))) (pss_one (ps_ret pe_bl)) pss_nil)
    (pss_cons (ps_for PassesOwn.never rfl (pi_range1 rfl T.f_range (pa_cons (pe_callB (call_max2 rfl) rfl T.f_max boot_max (pa_cons pe_int (pa_cons (pe_callB (call_min2 rfl) rfl T.f_min boot_min (pa_cons (pe_callB call_len_seq rfl T.f_len boot_len (pa_cons (pv 0) pa_nil)) (pa_cons pe_int pa_nil))) pa_nil))) pa_nil)) (pg_name (i := 1) sc_law.nd rfl (.inl rfl)) (pss_cons (ps_set (i := 2) sc_law.nd rfl (.inl rfl) (pcall (ok_law_hand T) T.g_law_hand hr (by decide) rfl pass0 (pa_cons (pv 0) (pa_cons (pv 1) pa_nil))))
    (pss_cons (ps_set (i := 3) sc_law.nd rfl (.inl rfl) (pcall (ok_law_word T) T.g_law_word hr (by decide) rfl pass0 (pa_cons (pv 2) (pa_cons (pe_sC [97, 98] (by decide +kernel)) (pa_cons pe_int pa_nil)))))
    (pss_cons (ps_par (i := 4) (j := 5) rfl sc_law.nd rfl rfl (by decide) rfl rfl (pa_cons (pmake (ok_Session_init T) T.k_Session T.g_Session hr (by decide) rfl pass0 (pa_cons (pv 3) pa_nil)) (pa_cons (pcall (ok_law_model T) T.g_law_model hr (by decide) rfl pass0 (pa_cons (pv 3) (pa_cons pe_int pa_nil))) pa_nil)) (by rfl))
    (pss_cons (ps_for PassesOwn.never rfl (pi_range1 rfl T.f_range (pa_cons pe_int pa_nil)) (pg_name (i := 6) sc_law.nd rfl (.inl rfl)) (pss_one (ps_if (PW.pt (pw_or (pt_not (pt_val (pcall (ok_law_move T) T.g_law_move hr (by decide) rfl pass0 (pa_cons (pv 2) (pa_cons (pv 4) (pa_cons (pv 5) pa_nil)))))) (pw_or (pt_not (pt_val (pcall (ok_law_shows T) T.g_law_shows hr (by decide) rfl pass0 (pa_cons (pv 4) (pa_cons (pv 5) pa_nil))))) (pw_or1 (pt_not (pt_val (pcall (ok_law_right T) T.g_law_right hr (by decide) rfl pass0 (pa_cons (pv 4) (pa_cons (pv 5) pa_nil))))))))) (pss_one (ps_ret pe_bl)) pss_nil)))
    (C8.pss_cut (ps_if (pt_cmpR op_gt (pe_callB (p_lenO (ok_Session_len T) T.len_Session hr (by decide) pass0) rfl T.f_len boot_len (pa_cons (pv 4) pa_nil)) pe_int (nomark _)) (pss_one (ps_expr (pmethK (ok_Session_undo T) T.c_Session T.m_Session_undo hr (by decide) pass0 (pv 4) (pk_cons (pe_callB (p_lenO (ok_Session_len T) T.len_Session hr (by decide) pass0) rfl T.f_len boot_len (pa_cons (pv 4) pa_nil)) pk_nil)))) pss_nil)
    (pss_one (ps_if (PW.pt (pw_or (pt_cmpR op_neW (pprop (ok_Session_queue T) T.c_Session T.p_Session_queue hr (by decide) pass0 (pv 4) rfl) (pv 3) (nomark _)) (pw_or1 (pt_cmpR (op_neLF hr.units) ((pe_lc (own := [("_law_name", 7), ("_law_size", 8)]) rfl sc_law.nd (pi_items (pe_frz (pmeth0 (ok_Session_marks T) T.c_Session T.m_Session_marks hr (by decide) pass0 (pv 4)))) (blkOk_by (N := ["_law_script", "_law_k", "_law_pool", "_law_queue", "_law_session", "_law_model_here", "_law_turn_here", "_law_name", "_law_size"]) (sc := defScope s_law) (by decide +kernel)) (fun _ _ _ _ _ => by exact pg_tupK (K := K) 2 rfl rfl (pgs_cons (pg_name (i := 7) sc_law.nd rfl (.inl rfl)) (pgs_cons (pg_name (i := 8) sc_law.nd rfl (.inl rfl)) pgs_nil))) (fun _ _ _ _ _ => by exact pts_one (pt_cmpR op_gt (pv 8) pe_int (nomark _))) (fun _ _ _ _ _ => by exact (pv 7)))) (pe_lst pa_nil) (nomark _))))) (pss_one (ps_ret pe_bl)) pss_nil))))))))
    (pss_one (ps_ret pe_bl)))), ?_⟩
  clear hne TB1 TB2
  obtain ⟨s, ns, rfl, hs, hn, hT, h⟩ := h
  have cl := T.c_Session
  walk_at "go"
  intro H1 x1 T1
  walk_at "go"
  intro H2 x2 T2
  have hs2 := sqL_extN hs (x1.trans x2)
  have hs3 : SqL K H2 s (ns.map V.int) ∨ SqT K H2 s (ns.map V.int) := .inl hs2
  walk_at "go"
  refine for_it (walk_range (lo := 0)) (fun i σ' H' => Hold (SqL K H' s (ns.map V.int) ∧ ∃ z1 z2 z3 z4 z5 z6 z7 z8 : Option V, σ' = [some (.ref s), z1, z2, z3, z4, z5, z6, z7, z8])) (.mk ⟨hs2, _, _, _, _, _, _, _, _, rfl⟩) (fun _ _ _ _ _ => trivial) (fun i y σ' H3 Hb hi pv yy => ?_) fun σ' H3 pv => ?_
  · obtain ⟨rfl, rfl⟩ := yy
    obtain ⟨hsb, z1, z2, z3, z4, z5, z6, z7, z8, rfl⟩ := pv.out
    have hi1 : i < 1000 := by omega
    have eI : V.int (0 + (i : Int)) = V.int (i : Nat) := by rw [Int.zero_add]
    walk_at "go"
    intro p H4 hp4 pl4 s4
    walk_at "go"
    intro w H5 hwl hwi pl5 b5
    have s5 : Same Hb H5 := fun b o e => b5 _ _ (s4 _ _ e) (ne_of_none e hp4)
    have iqw : isQ w := ⟨by omega, hwi⟩
    walk_at "go"
    intro x dx hx hdx hnd
    have sm : Same H5 (upd (upd H5 dx (.own x)) x (.ins (ga K "Session") dx [])) := fun b o e => (upd_ne (ne_of_none e hx)).trans ((upd_ne (ne_of_none e hdx)).trans e)
    refine ⟨_, _, rfl, x, dx, w, rfl, rfl, iqw, upd_same, fun H6 c hS hdx' hm ha b => ?_⟩
    obtain ⟨m1, m2⟩ := made_none hx hdx hm
    obtain ⟨a1, a2⟩ := made_none hx hdx ha
    have s6 : Same H5 H6 := fun b' o e => b _ _ (sm _ _ e) (ne_of_none e hx)
    clear hm ha b sm
    walk_at "go"
    intro d z H7 hd hM q7 l7 mm7 aa7 s7
    have up : ∀ {b}, H5 b = none → Hb b = none := fun {b} e => by
      cases e2 : Hb b with
      | none => rfl
      | some o => rw [s5 _ _ e2] at e; cases e
    have up6 : ∀ {b}, H6 b = none → Hb b = none := fun {b} e => by
      cases e2 : Hb b with
      | none => rfl
      | some o => rw [s6 _ _ (s5 _ _ e2)] at e; cases e
    have B7 : Both K Hb H7 p x d c z ⟨[w], [], [], []⟩ ⟨[w], [], [], []⟩ := ⟨s5.trans (s6.trans s7), (pl5.same s6).same s7, hS.same s7, hM, hp4, up hx, up m1, up a1, up6 hd, ne_new hS.m hd, ne_new hS.m mm7, hS.aa q7, hS.aa l7, hS.aa aa7⟩
    have F7 : Fine w 0 ⟨[w], [], [], []⟩ w := ⟨past0 w, (fun _ z => nomatch z), by omega, hwi, Nat.le_refl _, Nat.le_refl _, List.nodup_nil, (fun _ z => nomatch z), by omega⟩
    clear hS hM q7 l7 mm7 aa7 hd m1 a1 m2 a2 hdx' hnd hdx hx pl5 b5 pl4
    walk_at "go"
    refine for_it (walk_range (lo := 0) (n := 25)) (fun j σ' H' => Hold (∃ (c : SesA) (z : MdA) (A : Stt) (q : List Nat) (y6 : Option V), Both K Hb H' p x d c z A A ∧ Fine w j A q ∧ σ' = [some (.ref s), some (V.int (0 + (i : Int))), some (.ref p), some (vS w), some (.ref x), some (.ref d), y6, z7, z8])) (.mk ⟨c, z, _, _, _, B7, F7, rfl⟩) (fun _ _ _ _ _ => trivial) (fun j y σ' H8 H9 hj pv yy => ?_) fun σ' H8 pv => ?_
    · obtain ⟨rfl, rfl⟩ := yy
      obtain ⟨c8, z8', A8, q8, y6, B8, F8, rfl⟩ := pv.out
      have hj : j < 25 := hj
      clear B7 F7
      walk_at "go"
      intro c9 z9 A9 q9 HA BA FA
      have hSA := BA.S
      have hMA := BA.M
      have lastA := FA.past.lastq
      have okA := FA.ok
      have lgA : A9.log.length ≤ 5000 := Nat.le_trans FA.gl (by decide)
      have alA : A9.at_.length ≤ 5000 := Nat.le_trans FA.al (Nat.le_trans FA.n25 (by decide))
      have ndA := FA.nd
      have tw : A9.ms.length < 64 := Nat.lt_of_le_of_lt FA.two (by decide)
      have lt : ∀ m ∈ A9.ms, m.1 < 1000 := fun m hm => by have := (FA.ab m hm).1; omega
      walk_at "go"
      intro HC sC
      have BC := BA.same sC
      clear BA hSA hMA
      walk_at "go"
      intro HD sD
      walk_at "go"
      exact .mk ⟨c9, z9, A9, q9, _, BC.same sD, FA, rfl⟩
    · obtain ⟨c8, z8', A8, q8, y6, B8, F8, rfl⟩ := pv.out
      have F8 : Fine w 25 A8 q8 := F8
      clear B7 F7
      walk_at "go"
      refine ⟨fun σ' H' => Hold (Same Hb H' ∧ ∃ (c : SesA) (A : Stt), isSes K H' x c A.qs A.log A.ms A.at_ ∧ A.qs.getLast? = some w ∧ (A.ms.map (·.1)).Nodup ∧ A.ms.length ≤ 2 ∧ (∀ m ∈ A.ms, m.2 = 0) ∧
        σ' = [some (.ref s), some (V.int (0 + (i : Int))), some (.ref p), some (vS w), some (.ref x), some (.ref d), y6, z7, z8]), ?_, fun σ' H9 pv9 => ?_⟩
      · have hS8 := B8.S
        have ho8 := hS8.o
        have lS8 := hS8.l
        have nd8 := F8.nd
        have two8 := F8.two
        have l64 : A8.ms.length ≤ 64 := by omega
        have gl8 := F8.gl
        have l63 : (A8.log.length : Int) < 2 ^ 63 := Int.lt_of_lt_of_le (show (A8.log.length : Int) < 1000 by omega) (by decide)
        walk_at "go"
        refine ite_d (fun e => ?_) fun e => ?_
        · have e : 0 < A8.log.length := by omega
          obtain ⟨r, p1, p2⟩ := F8.past.cut 0 (Nat.zero_le _)
          rw [F8.past.first] at p2
          obtain rfl := Option.some.inj p2
          have g1 : 1 ≤ A8.log.length := e
          have g2 : (A8.qs.take (A8.log.length - A8.log.length + 1)).getLast? = some w := by rw [Nat.sub_self]; exact p1.lastq
          refine ⟨_, rfl, x, _, _, rfl, ho8, rfl, ?_⟩
          refine ⟨_, rfl, x, _, _, rfl, ho8, _, rfl, x, c8, A8.log, rfl, ho8, lS8, A8.log.length, rfl, l63, ?_⟩
          refine ⟨rfl, _, _, rfl, x, c8, A8.qs, A8.log, A8.ms, A8.at_, A8.log.length, w, rfl, rfl, hS8, g1, Nat.le_refl _, g2, nd8, l64, fun H9 sc => ?_⟩
          obtain ⟨c9, B9⟩ := B8.sesCut (A' := ⟨A8.qs.take (A8.log.length - A8.log.length + 1), A8.log.take (A8.log.length - A8.log.length), A8.ms.filter fun m => decide (m.2 ≤ A8.log.length - A8.log.length), A8.at_⟩) sc
          refine .mk ⟨B9.f, c9, _, B9.S, g2, List.Sublist.nodup (List.Sublist.map _ List.filter_sublist) nd8, Nat.le_trans (List.length_filter_le _ _) two8, fun m hm => ?_, rfl⟩
          have := of_decide_eq_true (List.mem_filter.mp hm).2
          omega
        · have e0 : A8.log = [] := List.eq_nil_of_length_eq_zero (by omega)
          have hw := F8.past.last
          rw [e0] at hw
          obtain rfl : w = q8 := Option.some.inj hw
          walk_at "go"
          refine .mk ⟨B8.f, c8, A8, hS8, F8.past.lastq, nd8, two8, fun m hm => ?_, rfl⟩
          have := (F8.ab m hm).2
          rw [e0] at this
          exact Nat.le_zero.mp this
      obtain ⟨f9, c9, A9, hS9, last9, nd9, two9, ms9, rfl⟩ := pv9.out
      clear pv9 B8 F8
      have o9 := hS9.o
      have q9 := hS9.q
      have m9 := hS9.m
      have l64 : A9.ms.length < 64 := by omega
      walk_at "go"
      refine ite_n (fun e => (e rfl).elim) fun _ => ?_
      walk_at "go"
      intro p5 HA hpA kA sA
      refine ⟨p5, _, rfl, kA, fun od => ?_⟩
      have k5 := upd_same (H := HA) (a := p5) (o := .frz od (.dK (mkK (sortM A9.ms))))
      have s5 : Same H9 (upd HA p5 (.frz od (.dK (mkK (sortM A9.ms))))) := fun b o e => (upd_ne (ne_of_none e hpA)).trans (sA _ _ e)
      generalize upd HA p5 (.frz od (.dK (mkK (sortM A9.ms)))) = HB at k5 s5 ⊢
      refine ⟨p5, od, _, rfl, k5, fun D hD => ?_⟩
      refine lc_it (walk_items (kvs := mkK (sortM A9.ms))) (fun i H' => Hold (Same HB H' ∧ H' D = some (.lst []))) (.mk ⟨Same.new hD, upd_same⟩) (fun i H' _ q => q.out.1 _ _ k5) (fun i y0 H2 H3 hi pv y => ?_) fun H2 pv => ?_
      · obtain ⟨U, x1, y1, rfl, hU, rfl, e1, e2⟩ := y
        obtain ⟨m, hmi, rfl, rfl⟩ := items_get hi e1 e2
        obtain ⟨s2, hD2⟩ := pv.out
        have hU3 : (upd H2 U (.tup [vS [m.1], V.int (m.2 : Nat)])) U = some (.tup [vS [m.1], V.int (m.2 : Nat)]) := upd_same
        have s3 := s2.trans (Same.new (o := .tup [vS [m.1], V.int (m.2 : Nat)]) hU)
        have hD3 : (upd H2 U (.tup [vS [m.1], V.int (m.2 : Nat)])) D = _ := (upd_ne (ne_of_none hD2 hU)).trans hD2
        generalize upd H2 U (.tup [vS [m.1], V.int (m.2 : Nat)]) = H3 at hU3 s3 hD3 ⊢
        have m0 := ms9 m ((sortM_perm A9.ms).subset (List.mem_of_getElem? hmi))
        walk_at "go"
        refine ite_d (fun e => ?_) fun e => ?_
        · exfalso
          rw [m0] at e
          exact absurd e (by decide)
        · exact .mk ⟨s3, hD3⟩
      · obtain ⟨s2, hD2⟩ := pv.out
        walk_at "go"
        intro l6 hl6
        have s6 := Same.new (o := .lst []) hl6
        refine ⟨D, l6, [], [], rfl, rfl, s6 _ _ hD2, upd_same, rfl, rfl, _, rfl, ite_n (fun e => (e rfl).elim) fun _ => ?_⟩
        exact .mk ⟨sqL_extN hsb (LamX.ExtN.of (f9.trans (s5.trans (s2.trans s6)))), _, _, _, _, _, _, _, _, rfl⟩
  · obtain ⟨hsb, z1, z2, z3, z4, z5, z6, z7, z8, rfl⟩ := pv.out
    walk_at "go"
    exact h _

end
end Qe

namespace Qe
open PySem PySem.Spec
open PyProof.Rows L2 He
theorem law_at {w : World} {K : PySem.W.Frag} {h : Heap} {mg : Str → Option Value} {f : Addr} (X : K.In h) (G : h.Ns mainGlobals mg) (hfa : mg ("law" : Str) = some (.ref f)) (c : SaysQ fa fn tf exQ h K) : LamX.LawAtS PySem.Challenge.rw_queueeffect_k93_whole_sessions_and_their w K CX0 16 63 "_law_script" mg f h := by
  have T := tx_of X G c
  obtain ⟨fd, F⟩ := T.D_law
  have e := hfa.symm.trans T.g_law
  cases e
  have b := FunD.bindsA (ps := ["_law_script"]) F fun _ _ _ _ _ _ us hl => match us, hl with | [_], _ => rfl
  refine ⟨fd, tf.map (cT K), sp_law K, fun p hp => ?_, fun p hp => ?_, fun p hp => ?_, fun s v => b s [v] rfl, fun H a ns hl _ ht hS => ⟨_, rfl, a, ns, rfl, hS, hl, fun p hp => ?_, fun _ => rfl⟩, fun base _ _ hTB => ok_law T (hTB _ (.head _)) (hTB _ (.tail _ (.head _))) T.tabs_ne F⟩
  · obtain ⟨q, hq, rfl⟩ := List.mem_map.mp hp
    exact c.empty q hq
  · obtain ⟨q, hq, rfl⟩ := List.mem_map.mp hp
    exact c.out q hq
  · obtain ⟨q, hq, rfl⟩ := List.mem_map.mp hp
    exact PySem.W.codeHd_of_K X (c.hd q hq)
  · cases hp with
    | head => exact .nil (ht _ (.head _))
    | tail _ hp =>
      cases hp with
      | head => exact .nil (ht _ (.tail _ (.head _)))
      | tail _ z => cases z
end Qe
open PySem PySem.W
open PySem.Calls PyProof.Rows
theorem PySem.Challenge.cw_queueeffect_k93_whole_sessions_and_their_holds : PySem.Challenge.rw_queueeffect_k93_whole_sessions_and_their.Holds := by
  w_on; o_law
  refine HandSHeadRun.head_any (r := QeHead.R) (q := QeHead.qv) (H := QeHead.hk) (ob := QeHead.ob) (M := 20000) (loose := QeHead.names) (d := HandSHeadRun.topDef QeHead.R.prog 81) (kwd := []) QeHead.ob_eq
    (by kernel_rfl) (fun s => by kernel_rfl) QeHead.run (by kernel_rfl) (by kernel_rfl) (by kernel_rfl) (by rfl) (by first | assumption | decide +kernel) (by decide +kernel) ⟨rfl, rfl, rfl, rfl, rfl, by decide +kernel⟩ ?hw ?hc
  case hw => w_witness2
  case hc =>
    refine LamX.walk_ofTsE (l := PySem.Challenge.rw_queueeffect_k93_whole_sessions_and_their) (n := 63) (k := 16) (x := "_law_script") (CX := fun _ => L2.CX0) rfl (by decide) (by kernel_rfl) ⟨rfl, by decide, by decide⟩ ?F (fun _ _ _ _ _ z => z)
    intro w mg fa h Y G hmg0
    obtain ⟨K, KX, c⟩ := Y
    have hmg : mg ("law" : PySem.Str) = some (.ref fa) := by
      have e : (HandSHeadRun.topDef QeHead.R.prog 81).name = ("law" : PySem.Str) := by kernel_rfl
      rw [← e]
      exact hmg0
    exact ⟨K, KX, Qe.law_at KX G hmg c⟩

