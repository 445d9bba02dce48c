import PyProof.Rows.All
import Wide.All
import OpenK.AllK
import Wide.FinOn
import PySem.Challenge.RW_nt0560_01
open PySem PySem.Spec PySem.Calls PySem.W PyProof.Rows Builtin.ObjectAttr Builtin
set_option Elab.async false
namespace Mine
-- part HD2
noncomputable def qv : Program := view PySem.Challenge.pw_nt0560_01 [56]
noncomputable def lo : List Str := PySem.Challenge.pw_nt0560_01.boundNames.filter (fun n => n != Str.ofString "law")
noncomputable def ofL : List Obj → Nat → BT → BT
  | [], _, t => t
  | o :: l, n, t => ofL l (n + 1) (t.ins n o)
/-- the run of the top on a tree of objects, by the library's fast forms of its steps -/
noncomputable def topRunQ (tb : String → Option Builtin) (p : Program) (w : World) (n₀ : Nat) (ann : Option Value) : Nat → SharedT → Thread → Option SharedT
  | 0, _, _ => none
  | n + 1, s, t => match through t with
    | true => some s
    | false => match PySem.W.Fast.tw6613529449190102663 n₀ ann t with
      | false => none
      | true => match PySem.W.Fast.tw10156331382660048174 (PySem.W.Fast.tw11892475500146522536 tb) p w s t with
        | some (s', t') => topRunQ tb p w n₀ ann n s' t'
        | none => none
theorem topRunQ_of {tb : String → Option Builtin} {p : Program} {w : World} {n₀ : Nat} {ann : Option Value} : ∀ {n : Nat} {s r : SharedT} {t : Thread}, topRunQ tb p w n₀ ann n s t = some r → topRun tb p w n₀ ann n s.abs t = some r.abs
  | 0, _, _, _, h => by cases h
  | n + 1, s, r, t, h => by
    unfold topRunQ at h
    unfold topRun
    cases ht : through t with
    | true => rw [ht] at h; cases h; rfl
    | false =>
      rw [ht, ← PySem.W.Fast.te6613529449190102663, ← PySem.W.Fast.te10156331382660048174, ← PySem.W.Fast.te11892475500146522536] at h
      dsimp only at h ⊢
      cases hk : stepOk n₀ ann t with
      | false => rw [hk] at h; cases h
      | true =>
        rw [hk] at h
        dsimp only at h ⊢
        cases hs : stepT (denote tb) p w s t with
        | none => rw [hs] at h; cases h
        | some x =>
          obtain ⟨s2, t2⟩ := x
          rw [hs] at h
          rw [stepT_spec hs]
          exact topRunQ_of h
noncomputable def bootT (w : World) (os : OsState) : SharedT := ⟨ofL (boot_heap w.params).objs.toList 0 .nil, (boot_heap w.params).objs.size, (boot_heap w.params).life, #[], boot_drawn, boot_toks, os⟩
/-- what the top leaves, by one run on a tree from the library's booted heap, and the looks at it -/
theorem left_fast {p q : Program} {loose : List Str} {Xt : Shared → Bool} {α : Type} {Yf : Shared → α} {Ya : World → α} {N : Nat}
    (e : opening p = plainProg p.main.scope.names) (hN : Nat.ble 600 N = true) (f : ∀ s, fenceModules? p s = some s)
    (hB : ∀ w : World, (boot_heap w.params).isNs mainGlobals = true)
    (hH : ∀ w : World, absHeap (ofL (boot_heap w.params).objs.toList 0 .nil) (boot_heap w.params).objs.size (boot_heap w.params).life = boot_heap w.params)
    (run : ∀ (w : World) (os : OsState), (topRunQ PySem.W.Fast.tw14364793385576792824 p w (boot_heap w.params).objs.size ((boot_heap w.params).nsMap mainGlobals "__annotations__") N (bootT w os) (topStub p)).map (fun r => (staticsOk (importedModules p.main.body) (boot_heap w.params) r.abs.heap && namesBound p r.abs.heap && gensDone r.abs && laidKept (boot_heap w.params) r.abs.heap, PySem.W.Fast.tw4187177175401517315 q loose (importedModules p.main.body) Xt true r.abs, Yf r.abs)) = some (true, openGood q loose, Ya w)) :
    LeftO p q loose Xt Yf Ya N := fun w => by
  obtain ⟨⟨h, gs, d, k, os⟩, hs, hv⟩ := Option.map_eq_some_iff.mp (boot_open e hN f w)
  obtain ⟨rfl, rfl, rfl, rfl⟩ : h = boot_heap w.params ∧ gs = Array.mk [] ∧ d = boot_drawn ∧ k = boot_toks := by simpa using hv
  obtain ⟨r, hr, hl⟩ := Option.map_eq_some_iff.mp (run w os)
  obtain ⟨l1, l2⟩ := Prod.mk.inj hl
  obtain ⟨l2, l3⟩ := Prod.mk.inj l2
  rw [← PySem.W.Fast.te4187177175401517315] at l2
  have hr' := topRunQ_of hr
  rw [← PySem.W.Fast.te14364793385576792824] at hr'
  have hs0 : (bootT w os).abs = ⟨boot_heap w.params, Array.mk [], boot_drawn, boot_toks, os⟩ := by
    exact congrArg (fun hp => (⟨hp, Array.mk [], boot_drawn, boot_toks, os⟩ : Shared)) (hH w)
  rw [hs0] at hr'
  have t : topFrom treeTable p w N ⟨boot_heap w.params, Array.mk [], boot_drawn, boot_toks, os⟩ = some r.abs := by
    unfold topFrom
    dsimp only
    rw [hB w, hr']
    show (match _ && _ && _ && _ with | true => some r.abs | false => none) = some r.abs
    rw [l1]
  unfold openEnds
  rw [hs]
  show (topFrom treeTable p w N _).map _ = _
  rw [t]
  exact congrArg some (Prod.ext l2 l3)
set_option maxRecDepth 100000
set_option maxHeartbeats 0
local macro_rules | `(tactic| o_head $H:term) => do
  let hw := Lean.mkIdent `hw
  let hc := Lean.mkIdent `hc
  `(tactic| (refine holds_open (q := qv) (loose := lo) (Xt := fun s => xlAt qv [] s && recOk (RowW.records (OpenRow.toRowW (OpenLaw.row PySem.Challenge.rw_nt0560_01))) s) (XP := XL qv []) (Yf := Hook.obs $H) (Ya := Hook.val $H) (YP := Hook.says $H) (N := 7000) (left_fast (by kernel_rfl) (by kernel_rfl) (fun s => by kernel_rfl) (fun w => by kernel_rfl) (fun w => by kernel_rfl) (fun w os => by kernel_rfl)) (Hook.of $H) (Hook.keeps $H) (fun s e => xl_of s (Bool.and_eq_true_iff.mp e).1) XL.keeps (by rfl) (by rfl) (by rfl) (fun s e => recFacts_of (Bool.and_eq_true_iff.mp e).2) (by rfl) (by first | assumption | decide +kernel) (by decide +kernel) ⟨rfl, rfl, rfl, rfl, rfl, by decide +kernel⟩ ?$hw ?$hc))
/-- the law is well said: look by look, by the library's fast form -/
theorem ws_ok : OpenLaw.wellSaid PySem.Challenge.rw_nt0560_01 = true := by
  refine (congrFun PySem.W.Fast.te9446332074065402090 _).trans ?_
  delta PySem.W.Fast.tw9446332074065402090
  dsimp only
  repeat' (with_reducible refine look_both ?_ ?_)
  all_goals decide +kernel
local macro_rules | `(tactic| o_law) => `(tactic| (refine holds_law ws_ok fun said => ?_))
open_top hd for PySem.Challenge.rw_nt0560_01
theorem room1 {dp a : Nat} (h : dp + a < recursionLimit) : dp < recursionLimit := Nat.lt_of_le_of_lt (Nat.le_add_right _ _) h
theorem room2 {dp a b : Nat} (h : dp + a < recursionLimit) (e : b ≤ a) : dp + b < recursionLimit := Nat.lt_of_le_of_lt (Nat.add_le_add_left e dp) h
theorem room3 {dp a b c : Nat} (h : dp + a < recursionLimit) (e : b + c ≤ a) : dp + b + c < recursionLimit := Nat.lt_of_le_of_lt (by rw [Nat.add_assoc]; exact Nat.add_le_add_left e dp) h
theorem unit2 {un a b : Nat} (h : un + a < cLine) (e : b ≤ a) : un + b < cLine := Nat.lt_of_le_of_lt (Nat.add_le_add_left e un) h
theorem unit3 {un a b c : Nat} (h : un + a < cLine) (e : b + c ≤ a) : un + b + c < cLine := Nat.lt_of_le_of_lt (by rw [Nat.add_assoc]; exact Nat.add_le_add_left e un) h
theorem at1 {Q A : Prop} (h : A ∧ Q) : A := h.1
theorem at2 {P1 Q A : Prop} (h : P1 ∧ A ∧ Q) : A := h.2.1
theorem at3 {P1 P2 Q A : Prop} (h : P1 ∧ P2 ∧ A ∧ Q) : A := h.2.2.1
theorem at4 {P1 P2 P3 Q A : Prop} (h : P1 ∧ P2 ∧ P3 ∧ A ∧ Q) : A := h.2.2.2.1
theorem at5 {P1 P2 P3 P4 Q A : Prop} (h : P1 ∧ P2 ∧ P3 ∧ P4 ∧ A ∧ Q) : A := h.2.2.2.2.1
theorem at6 {P1 P2 P3 P4 P5 Q A : Prop} (h : P1 ∧ P2 ∧ P3 ∧ P4 ∧ P5 ∧ A ∧ Q) : A := h.2.2.2.2.2.1
theorem at7 {P1 P2 P3 P4 P5 P6 Q A : Prop} (h : P1 ∧ P2 ∧ P3 ∧ P4 ∧ P5 ∧ P6 ∧ A ∧ Q) : A := h.2.2.2.2.2.2.1
theorem at8 {P1 P2 P3 P4 P5 P6 P7 Q A : Prop} (h : P1 ∧ P2 ∧ P3 ∧ P4 ∧ P5 ∧ P6 ∧ P7 ∧ A ∧ Q) : A := h.2.2.2.2.2.2.2.1
theorem up1 {a b : Nat} (h : a < b) : a < b + 1 := Nat.lt_succ_of_lt h
theorem up2 {a b : Nat} (h : a < b) : a < b + 1 + 1 := Nat.lt_succ_of_lt (Nat.lt_succ_of_lt h)
theorem lo_tr {a b c : Int} (h : b ≤ c) (k : a < b) : a < c := Int.lt_of_lt_of_le k h
theorem lo_le {a b c : Int} (h : b ≤ c) (k : a ≤ b) : a ≤ c := Int.le_trans k h
local macro_rules | `(tactic| k_ne) => `(tactic| k_extra "k_ne")
local macro_rules | `(tactic| law_fm) => `(tactic| skip)
local macro_rules | `(tactic| omega) => `(tactic| k_extra "omega")
local macro_rules | `(tactic| walk_at $s:str) => `(tactic| k_extra $s)
local macro_rules | `(tactic| k_mem) => `(tactic| k_extra "k_mem")
local macro_rules | `(tactic| news_mem) => `(tactic| k_extra "k_mem")
local macro_rules | `(tactic| k_all) => `(tactic| k_extra "k_all")
local macro_rules | `(tactic| mul_fits) => `(tactic| k_extra "mul_fits")
local macro_rules | `(tactic| k_handed) => `(tactic| k_extra "k_handed")
local macro_rules | `(tactic| k_lt $h:ident) => `(tactic| (have lRaw := $h; replace $h := allLt_of $h; simp only [AllLt, and_true] at $h:ident))
local macro_rules | `(tactic| ktr_room) => `(tactic| k_extra "ktr_room")
local macro_rules | `(tactic| ktr_units) => `(tactic| k_extra "ktr_units")
-- part C1
theorem wsC1_0 : True := by
  w_top off
  k_with_none
  k_with "ktr_room" => first | exact room1 (by assumption) | exact room3 (by assumption) (Nat.le_of_ble_eq_true rfl) | exact room2 (by assumption) (Nat.le_of_ble_eq_true rfl)
  k_with "ktr_units" => first | exact unit3 (by assumption) (Nat.le_of_ble_eq_true rfl) | exact unit2 (by assumption) (Nat.le_of_ble_eq_true rfl)
  k_with "callWith ref" => (k_here; k_dflt (refine' callWith_K ?cwA ?cwB ?_; (case cwA => k_asm); (case cwB => k_is); k_whole))
  k_with "omega" => first | decide | with_reducible assumption | exact Int.lt_of_le_of_lt (by with_reducible assumption) (by decide) | exact Int.lt_of_lt_of_le (by with_reducible assumption) (by decide) | exact Int.le_trans (by with_reducible assumption) (by decide) | exact lo_tr (by with_reducible assumption) (by decide) | exact lo_le (by with_reducible assumption) (by decide) | exact Nat.le_trans (by with_reducible assumption) (by decide) | exact Nat.lt_of_le_of_lt (by with_reducible assumption) (by decide) | lia
  k_with "k_ne" => (refine neN ?_; (try dsimp only); first | decide | with_reducible assumption | exact Ne.symm (by with_reducible assumption) | (refine Nat.ne_of_gt ?_; (first | with_reducible assumption | exact at1 (by with_reducible assumption) | exact at2 (by with_reducible assumption) | exact at3 (by with_reducible assumption) | exact at4 (by with_reducible assumption) | exact at5 (by with_reducible assumption) | exact at6 (by with_reducible assumption) | exact at7 (by with_reducible assumption) | exact at8 (by with_reducible assumption) | exact up1 (by with_reducible assumption) | exact up2 (by with_reducible assumption) | exact up2 (at1 (by with_reducible assumption)) | exact up2 (at2 (by with_reducible assumption)) | exact up2 (at3 (by with_reducible assumption)) | exact up2 (at4 (by with_reducible assumption)) | exact up1 (at1 (by with_reducible assumption)) | exact up1 (at2 (by with_reducible assumption)) | exact up1 (at3 (by with_reducible assumption)) | exact up1 (at4 (by with_reducible assumption)))) | (refine Nat.ne_of_lt ?_; (first | with_reducible assumption | exact at1 (by with_reducible assumption) | exact at2 (by with_reducible assumption) | exact at3 (by with_reducible assumption) | exact at4 (by with_reducible assumption) | exact at5 (by with_reducible assumption) | exact at6 (by with_reducible assumption) | exact at7 (by with_reducible assumption) | exact at8 (by with_reducible assumption) | exact up1 (by with_reducible assumption) | exact up2 (by with_reducible assumption) | exact up2 (at1 (by with_reducible assumption)) | exact up2 (at2 (by with_reducible assumption)) | exact up2 (at3 (by with_reducible assumption)) | exact up2 (at4 (by with_reducible assumption)) | exact up1 (at1 (by with_reducible assumption)) | exact up1 (at2 (by with_reducible assumption)) | exact up1 (at3 (by with_reducible assumption)) | exact up1 (at4 (by with_reducible assumption)))) | omega)
  k_with "mem_go" => first | with_reducible assumption | exact List.Mem.head _ | (refine List.mem_cons_of_mem _ ?_; (k_extra "mem_go"))
  k_with "sub_go" => first | exact fun _ h => h | exact sub_nil | (refine sub_cons ?hSub ?_; (case hSub => (k_extra "mem_go")); (k_extra "sub_go")) | ((fail_if_success (refine sub_cons ?_ ?_)); refine sub_drop ?_; (k_extra "sub_go")) | with_reducible assumption
  k_with "off_go" => first | exact off_nil | with_reducible assumption | (refine off_cons ?hOff ?_; (case hOff => k_ne); (k_extra "off_go")) | exact off_old (by with_reducible assumption) (by (k_extra "sub_go")) | exact off_sub (by with_reducible assumption) (by (k_extra "sub_go"))
  k_with "k_mem" => (k_extra "mem_go")
  k_with "k_all" => (k_extra "off_go")
  trivial
noncomputable abbrev Led := List (Addr × Obj)
noncomputable abbrev Lo : List Str := looseW qv lo ++ List.map (fun x => x.name) (recsOf qv) ++ List.map (fun x => x.1) (litsOf qv) ++ List.map (fun x => x.name) (clssOf qv (looseW qv lo))

/-- a call of the text's def f, from a def's frame: it comes back with R (value, ledger), or, where X, by a SegmentError -/
noncomputable def Ct (w : World) (f : Addr) (vs : List Value) (news : Led) (d u : Nat) (R : Value → Led → Prop) (X : Prop) : Prop :=
  ∀ (mean : ExcName → Option Value) (mg mb : Str → Option Value) (dp un : Nat) (gd : Option (List Code)) (cn : Str) (cs : Scope) (a : Addr) (ccd : Value) (cl : List (Str × Addr)) (outer : List Env) (A₀ : Around) (base h₀ : Heap) (L : Addr) (m : Str → Option Value) (s : Shared) (Q E : Value → Shared → Prop),
    (hd.heap_1 w.params).In h₀ → Below A₀ base outer h₀ → Fr h₀ L s.heap m → News h₀ L s.heap news → Top topProg Lo mean mg mb h₀ → cs.kind = .function → dp + d < recursionLimit → un + u < cLine →
    (∀ v news' h' tk', Fr h₀ L h' m → News h₀ L h' news' → R v news' → Q v { s with heap := h', toks := tk' }) →
    (X → ∀ e t vs g' h' tk', Fr h₀ L g' m → g'.UpToSlots h' → RaisedS base g' (envX cn cs L a ccd cl :: outer) e (.ref 44) t vs news h' → E (.ref e) { s with heap := h', toks := tk' }) →
    wpAny (model PySem.Challenge.rw_nt0560_01.row.prog w) (ktrTop dp un gd cn cs L a ccd cl outer) (call (.ref f) vs) Q E s

/-- what stands behind a call that came back; behind one that raised -/
noncomputable def RetP (P : Prop) : Prop := P
noncomputable def ExcP (P : Prop) : Prop := P
theorem sub_cons {p : Addr × Obj} {l all : Led} (h : p ∈ all) (hs : ∀ q ∈ l, q ∈ all) : ∀ q ∈ p :: l, q ∈ all := fun q hq => (List.mem_cons.mp hq).elim (fun e => e ▸ h) (hs q)
theorem sub_drop {p : Addr × Obj} {l all : Led} (hs : ∀ q ∈ l, q ∈ all) : ∀ q ∈ l, q ∈ p :: all := fun q hq => .tail _ (hs q hq)
theorem sub_nil {all : Led} : ∀ q ∈ ([] : Led), q ∈ all := fun _ h => nomatch h
theorem off_cons {p : Addr × Obj} {l : Led} {I : Addr} (h : p.1 ≠ I) (hs : ∀ q ∈ l, q.1 ≠ I) : ∀ q ∈ p :: l, q.1 ≠ I := fun q hq => (List.mem_cons.mp hq).elim (fun e => e ▸ h) (hs q)
theorem off_nil {I : Addr} : ∀ q ∈ ([] : Led), q.1 ≠ I := fun _ h => nomatch h
theorem off_old {l n : Led} {I : Addr} (l1 : ∀ p ∈ n, p.1 < I) (hs : ∀ q ∈ l, q ∈ n) : ∀ q ∈ l, q.1 ≠ I := fun q hq => Nat.ne_of_lt (l1 q (hs q hq))
theorem off_sub {l n : Led} {I : Addr} (l1 : ∀ p ∈ n, p.1 ≠ I) (hs : ∀ q ∈ l, q ∈ n) : ∀ q ∈ l, q.1 ≠ I := fun q hq => l1 q (hs q hq)
theorem item_news {prog : Program} {w : World} {A : Around} {E : Value → Shared → Prop} {s : Shared} {h₀ : Heap} {L : Addr} {news : Led} {value slice : PySem.Expr} {l : Addr} {vs : List Value} {c : Nat} {k : Int} {u : Tok} {v : Value} {Q : Value → Shared → Prop} (N : News h₀ L s.heap news) (hm : (l, listOf vs.toArray c) ∈ news) (h0 : 0 ≤ k) (hhi : k < 2 ^ 63) (hx : vs[k.toNat]? = some v)
    (hs : subscripted slice false (.ref l) (.int k u) = operate [.ref l, .int k u] (getItem (.ref l) (.int k u))) (h : Q v s) :
    wpAny (model prog w) A (subscriptTail value slice (.ref l) (.int k u)) Q E s :=
  item_litK (News.isList N hm) h0 hhi hx h hs
theorem news_sub {h₀ h : Heap} {L : Addr} {l all : Led} (N : News h₀ L h all) (hs : ∀ q ∈ l, q ∈ all) : News h₀ L h l := fun q hq => N q (hs q hq)
theorem news_ne {h₀ h : Heap} {L a b : Addr} {o p : Obj} {n : List (Addr × Obj)} (N : News h₀ L h n) (ha : (a, o) ∈ n) (hb : (b, p) ∈ n) (hc : o.cls ≠ p.cls) : @Ne Nat a b := by
  intro e
  have h1 := (N _ ha).1
  have h2 := (N _ hb).1
  dsimp only at h1 h2
  rw [show a = b from e] at h1
  exact hc (congrArg Obj.cls (Option.some.inj (h1.symm.trans h2)))
theorem Ct.run {w : World} {f : Addr} {vs : List Value} {news : List (Addr × Obj)} {d u : Nat} {R : Value → List (Addr × Obj) → Prop} {X : Prop} {mean : ExcName → Option Value} {mg mb : Str → Option Value} {dp un : Nat} {gd : Option (List Code)} {cn : Str} {cs : Scope} {a : Addr} {ccd : Value} {cl : List (Str × Addr)} {outer : List Env} {A₀ : Around} {base h₀ : Heap} {L : Addr} {m : Str → Option Value} {s : Shared} {Q E : Value → Shared → Prop}
    (F : Fr h₀ L s.heap m) (N : News h₀ L s.heap news) (C : Ct w f vs news d u R X) (hX : (hd.heap_1 w.params).In h₀) (B : Below A₀ base outer h₀) (T : Top topProg Lo mean mg mb h₀) (hk : cs.kind = .function) (hd : dp + d < recursionLimit) (hu : un + u < cLine)
    (ret : RetP (∀ v news' h' tk', Fr h₀ L h' m → News h₀ L h' news' → R v news' → Q v { s with heap := h', toks := tk' }))
    (exc : ExcP (X → ∀ e t vs g' h' tk', Fr h₀ L g' m → g'.UpToSlots h' → RaisedS base g' (envX cn cs L a ccd cl :: outer) e (.ref 44) t vs news h' → E (.ref e) { s with heap := h', toks := tk' })) :
    wpAny (model PySem.Challenge.rw_nt0560_01.row.prog w) (ktrTop dp un gd cn cs L a ccd cl outer) (call (.ref f) vs) Q E s :=
  C _ _ _ _ _ _ _ _ _ _ _ _ _ _ _ _ _ _ _ _ hX B F N T hk hd hu ret exc
/-- the same, what comes back told by what may be done with it: no name is opened behind the call -/
noncomputable def CtK (w : World) (f : Addr) (vs : List Value) (news : Led) (d u : Nat) (Rk : (Value → Led → Prop) → Prop) (X : Prop) : Prop :=
  ∀ (mean : ExcName → Option Value) (mg mb : Str → Option Value) (dp un : Nat) (gd : Option (List Code)) (cn : Str) (cs : Scope) (a : Addr) (ccd : Value) (cl : List (Str × Addr)) (outer : List Env) (A₀ : Around) (base h₀ : Heap) (L : Addr) (m : Str → Option Value) (s : Shared) (Q E : Value → Shared → Prop),
    (hd.heap_1 w.params).In h₀ → Below A₀ base outer h₀ → Fr h₀ L s.heap m → News h₀ L s.heap news → Top topProg Lo mean mg mb h₀ → cs.kind = .function → dp + d < recursionLimit → un + u < cLine →
    Rk (fun v news' => ∀ h' tk', Fr h₀ L h' m → News h₀ L h' news' → Q v { s with heap := h', toks := tk' }) →
    (X → ∀ e t vs g' h' tk', Fr h₀ L g' m → g'.UpToSlots h' → RaisedS base g' (envX cn cs L a ccd cl :: outer) e (.ref 44) t vs news h' → E (.ref e) { s with heap := h', toks := tk' }) →
    wpAny (model PySem.Challenge.rw_nt0560_01.row.prog w) (ktrTop dp un gd cn cs L a ccd cl outer) (call (.ref f) vs) Q E s
theorem Ct.k {w : World} {f : Addr} {vs : List Value} {news : Led} {d u : Nat} {R : Value → Led → Prop} {Rk : (Value → Led → Prop) → Prop} {X : Prop} (C : Ct w f vs news d u R X) (hR : ∀ φ : Value → Led → Prop, Rk φ → ∀ v n, R v n → φ v n) : CtK w f vs news d u Rk X :=
  fun mean mg mb dp un gd cn cs a ccd cl outer A₀ base h₀ L m s Q E X₀ B F N T hk hd hu ret exc => C mean mg mb dp un gd cn cs a ccd cl outer A₀ base h₀ L m s Q E X₀ B F N T hk hd hu (fun v n h' tk' F' N' r => hR _ ret v n r h' tk' F' N') exc
theorem CtK.run {w : World} {f : Addr} {vs : List Value} {news : List (Addr × Obj)} {d u : Nat} {Rk : (Value → Led → Prop) → Prop} {X : Prop} {mean : ExcName → Option Value} {mg mb : Str → Option Value} {dp un : Nat} {gd : Option (List Code)} {cn : Str} {cs : Scope} {a : Addr} {ccd : Value} {cl : List (Str × Addr)} {outer : List Env} {A₀ : Around} {base h₀ : Heap} {L : Addr} {m : Str → Option Value} {s : Shared} {Q E : Value → Shared → Prop}
    (F : Fr h₀ L s.heap m) (N : News h₀ L s.heap news) (C : CtK w f vs news d u Rk X) (hX : (hd.heap_1 w.params).In h₀) (B : Below A₀ base outer h₀) (T : Top topProg Lo mean mg mb h₀) (hk : cs.kind = .function) (hd : dp + d < recursionLimit) (hu : un + u < cLine)
    (ret : Rk (fun v news' => ∀ h' tk', Fr h₀ L h' m → News h₀ L h' news' → Q v { s with heap := h', toks := tk' }))
    (exc : ExcP (X → ∀ e t vs g' h' tk', Fr h₀ L g' m → g'.UpToSlots h' → RaisedS base g' (envX cn cs L a ccd cl :: outer) e (.ref 44) t vs news h' → E (.ref e) { s with heap := h', toks := tk' })) :
    wpAny (model PySem.Challenge.rw_nt0560_01.row.prog w) (ktrTop dp un gd cn cs L a ccd cl outer) (call (.ref f) vs) Q E s :=
  C _ _ _ _ _ _ _ _ _ _ _ _ _ _ _ _ _ _ _ _ hX B F N T hk hd hu ret exc
theorem CtK.run0 {w : World} {f : Addr} {vs : List Value} {news : List (Addr × Obj)} {d u : Nat} {Rk : (Value → Led → Prop) → Prop} {mean : ExcName → Option Value} {mg mb : Str → Option Value} {dp un : Nat} {gd : Option (List Code)} {cn : Str} {cs : Scope} {a : Addr} {ccd : Value} {cl : List (Str × Addr)} {outer : List Env} {A₀ : Around} {base h₀ : Heap} {L : Addr} {m : Str → Option Value} {s : Shared} {Q E : Value → Shared → Prop}
    (F : Fr h₀ L s.heap m) (N : News h₀ L s.heap news) (C : CtK w f vs news d u Rk False) (hX : (hd.heap_1 w.params).In h₀) (B : Below A₀ base outer h₀) (T : Top topProg Lo mean mg mb h₀) (hk : cs.kind = .function) (hd : dp + d < recursionLimit) (hu : un + u < cLine)
    (ret : Rk (fun v news' => ∀ h' tk', Fr h₀ L h' m → News h₀ L h' news' → Q v { s with heap := h', toks := tk' })) :
    wpAny (model PySem.Challenge.rw_nt0560_01.row.prog w) (ktrTop dp un gd cn cs L a ccd cl outer) (call (.ref f) vs) Q E s :=
  C _ _ _ _ _ _ _ _ _ _ _ _ _ _ _ _ _ _ _ _ hX B F N T hk hd hu ret fun h => h.elim
theorem exc_no {P : Prop} : ExcP (False → P) := fun h => h.elim
section
variable {news : Led} {c : Value} {P : Prop} {x : Int} {ns : List Int}
theorem kVal : ∀ φ : Value → Led → Prop, φ c news → ∀ v n, (v = c ∧ n = news) → φ v n := fun _ h _ _ ⟨e1, e2⟩ => by subst e1 e2; exact h
theorem kValP : ∀ φ : Value → Led → Prop, (P → φ c news) → ∀ v n, (v = c ∧ n = news ∧ P) → φ v n := fun _ h _ _ ⟨e1, e2, p⟩ => by subst e1 e2; exact h p
theorem kBytes : ∀ φ : Value → Led → Prop, (∀ b t, KBw.bInts b = ns → φ (.bytes b t) news) → ∀ v n, ((∃ b t, v = .bytes b t ∧ KBw.bInts b = ns) ∧ n = news) → φ v n := fun _ h _ _ ⟨⟨b, t, e1, q⟩, e2⟩ => by subst e1 e2; exact h b t q
theorem kBytesP : ∀ φ : Value → Led → Prop, (∀ b t, KBw.bInts b = ns → P → φ (.bytes b t) news) → ∀ v n, ((∃ b t, v = .bytes b t ∧ KBw.bInts b = ns) ∧ n = news ∧ P) → φ v n := fun _ h _ _ ⟨⟨b, t, e1, q⟩, e2, p⟩ => by subst e1 e2; exact h b t q p
theorem kInt : ∀ φ : Value → Led → Prop, (∀ t, φ (.int x t) news) → ∀ v n, (∃ t, v = .int x t ∧ n = news) → φ v n := fun _ h _ _ ⟨t, e1, e2⟩ => by subst e1 e2; exact h t
theorem kInt2 : ∀ φ : Value → Led → Prop, (∀ t, φ (.int x t) news) → ∀ v n, ((∃ t, v = .int x t) ∧ n = news) → φ v n := fun _ h _ _ ⟨⟨t, e1⟩, e2⟩ => by subst e1 e2; exact h t
theorem kIntP : ∀ φ : Value → Led → Prop, (∀ t, P → φ (.int x t) news) → ∀ v n, ((∃ t, v = .int x t) ∧ n = news ∧ P) → φ v n := fun _ h _ _ ⟨⟨t, e1⟩, e2, p⟩ => by subst e1 e2; exact h t p
theorem kBool {P : Bool → Prop} : ∀ φ : Value → Led → Prop, (∀ b, P b → φ (.bool b) news) → ∀ v n, ((∃ b, v = .bool b ∧ P b) ∧ n = news) → φ v n := fun _ h _ _ ⟨⟨b, e1, p⟩, e2⟩ => by subst e1 e2; exact h b p
end
noncomputable abbrev srcO (x : Int) (tx : Tok) (y : Int) (ty : Tok) (c : Nat) : Obj := listOf [Value.int x tx, Value.int y ty].toArray c
/-- the list that the law draws from, as the ledger bears it -/
noncomputable def Src (l : Addr) (o : Obj) : Prop := ∃ x tx y ty c, o = srcO x tx y ty c ∧ 0 ≤ x ∧ 0 ≤ y ∧ y < 2147483647

theorem news_front {h₀ h : Heap} {L P : Addr} {o : Obj} {news : Led} {g : Obj → Led} (N : News h₀ L h news) (U : UpdF P o news g) : ∃ rest, News h₀ L h ((P, o) :: rest) ∧ (∀ p ∈ rest, p.1 ≠ P) ∧ ∀ o' h', News h₀ L h' ((P, o') :: rest) → News h₀ L h' (g o') := by
  obtain ⟨own, rest, rfl, hg, h1, h2⟩ := U.split
  refine ⟨own ++ rest, fun p hp => N p ?_, fun p hp => (List.mem_append.mp hp).elim (h1 p) (h2 p), fun o' h' N' p hp => N' p ?_⟩
  · rcases List.mem_cons.mp hp with rfl | hp
    · exact List.mem_append_right _ (.head _)
    · exact (List.mem_append.mp hp).elim (List.mem_append_left _) fun q => List.mem_append_right _ (.tail _ q)
  · rw [hg] at hp
    rcases List.mem_append.mp hp with hp | hp
    · exact .tail _ (List.mem_append_left _ hp)
    · rcases List.mem_cons.mp hp with rfl | hp
      · exact .head _
      · exact .tail _ (List.mem_append_right _ hp)

theorem wsC1_1 : True := by
  w_top off
  k_with_none
  k_with "ktr_room" => first | exact room1 (by assumption) | exact room3 (by assumption) (Nat.le_of_ble_eq_true rfl) | exact room2 (by assumption) (Nat.le_of_ble_eq_true rfl)
  k_with "ktr_units" => first | exact unit3 (by assumption) (Nat.le_of_ble_eq_true rfl) | exact unit2 (by assumption) (Nat.le_of_ble_eq_true rfl)
  k_with "callWith ref" => (k_here; k_dflt (refine' callWith_K ?cwA ?cwB ?_; (case cwA => k_asm); (case cwB => k_is); k_whole))
  k_with "omega" => first | decide | with_reducible assumption | exact Int.lt_of_le_of_lt (by with_reducible assumption) (by decide) | exact Int.lt_of_lt_of_le (by with_reducible assumption) (by decide) | exact Int.le_trans (by with_reducible assumption) (by decide) | exact lo_tr (by with_reducible assumption) (by decide) | exact lo_le (by with_reducible assumption) (by decide) | exact Nat.le_trans (by with_reducible assumption) (by decide) | exact Nat.lt_of_le_of_lt (by with_reducible assumption) (by decide) | lia
  k_with "k_ne" => (refine neN ?_; (try dsimp only); first | decide | with_reducible assumption | exact Ne.symm (by with_reducible assumption) | (refine Nat.ne_of_gt ?_; (first | with_reducible assumption | exact at1 (by with_reducible assumption) | exact at2 (by with_reducible assumption) | exact at3 (by with_reducible assumption) | exact at4 (by with_reducible assumption) | exact at5 (by with_reducible assumption) | exact at6 (by with_reducible assumption) | exact at7 (by with_reducible assumption) | exact at8 (by with_reducible assumption) | exact up1 (by with_reducible assumption) | exact up2 (by with_reducible assumption) | exact up2 (at1 (by with_reducible assumption)) | exact up2 (at2 (by with_reducible assumption)) | exact up2 (at3 (by with_reducible assumption)) | exact up2 (at4 (by with_reducible assumption)) | exact up1 (at1 (by with_reducible assumption)) | exact up1 (at2 (by with_reducible assumption)) | exact up1 (at3 (by with_reducible assumption)) | exact up1 (at4 (by with_reducible assumption)))) | (refine Nat.ne_of_lt ?_; (first | with_reducible assumption | exact at1 (by with_reducible assumption) | exact at2 (by with_reducible assumption) | exact at3 (by with_reducible assumption) | exact at4 (by with_reducible assumption) | exact at5 (by with_reducible assumption) | exact at6 (by with_reducible assumption) | exact at7 (by with_reducible assumption) | exact at8 (by with_reducible assumption) | exact up1 (by with_reducible assumption) | exact up2 (by with_reducible assumption) | exact up2 (at1 (by with_reducible assumption)) | exact up2 (at2 (by with_reducible assumption)) | exact up2 (at3 (by with_reducible assumption)) | exact up2 (at4 (by with_reducible assumption)) | exact up1 (at1 (by with_reducible assumption)) | exact up1 (at2 (by with_reducible assumption)) | exact up1 (at3 (by with_reducible assumption)) | exact up1 (at4 (by with_reducible assumption)))) | omega)
  k_with "mem_go" => first | with_reducible assumption | exact List.Mem.head _ | (refine List.mem_cons_of_mem _ ?_; (k_extra "mem_go"))
  k_with "sub_go" => first | exact fun _ h => h | exact sub_nil | (refine sub_cons ?hSub ?_; (case hSub => (k_extra "mem_go")); (k_extra "sub_go")) | ((fail_if_success (refine sub_cons ?_ ?_)); refine sub_drop ?_; (k_extra "sub_go")) | with_reducible assumption
  k_with "off_go" => first | exact off_nil | with_reducible assumption | (refine off_cons ?hOff ?_; (case hOff => k_ne); (k_extra "off_go")) | exact off_old (by with_reducible assumption) (by (k_extra "sub_go")) | exact off_sub (by with_reducible assumption) (by (k_extra "sub_go"))
  k_with "k_mem" => (k_extra "mem_go")
  k_with "k_all" => (k_extra "off_go")
  k_with "k_all" => assumption
  k_with "mul_fits" => exact PySem.IntMulOk.of_left (PySem.intBits_le_64 (Int.lt_of_lt_of_le (by decide) (fmod_lo _ (by decide))) (Int.lt_of_lt_of_le (fmod_hi _ (by decide)) (by decide)))
  trivial
set_option maxRecDepth 100000 in
set_option maxHeartbeats 8000000 in
theorem take_ct {w : World} {l : Addr} {o : Obj} {news : Led} {g : Obj → Led} {top : Int} {tt : Tok} (U : UpdF l o news g) (hs : Src l o) (h0 : 0 < top) (h1 : top ≤ 100000) :
    Ct w 320 [.ref l, .int top tt] news 3 24 (fun v news' => ∃ x t o', v = .int x t ∧ 0 ≤ x ∧ x < top ∧ Src l o' ∧ news' = g o') False := by
  intro mean mg mb dp un gd cn cs a ccd cl outer A₀ base h₀ L m s Q E
  k_fill
  intro X B F N T hk hd hu hret _
  obtain ⟨rest, N0, hne, back⟩ := news_front N U
  obtain ⟨x, tx, y, ty, c, rfl, hx, hy, hy2⟩ := hs
  clear N U
  have fin : ∀ v t x' tx' y' ty' c' h' tk', 0 ≤ v → v < top → 0 ≤ x' → 0 ≤ y' → y' < 2147483647 → Fr h₀ L h' m → News h₀ L h' ((l, srcO x' tx' y' ty' c') :: rest) → Q (.int v t) {s with heap := h', toks := tk'} :=
    fun v t x' tx' y' ty' c' h' tk' a1 a2 a3 a4 a5 F' N' => hret _ _ h' tk' F' (back _ _ N') ⟨v, t, _, rfl, a1, a2, ⟨x', tx', y', ty', c', rfl, a3, a4, a5⟩, rfl⟩
  clear hret back
  refine wpAny_call ?_
  k_dflt cell_enter
  k_steps
  · refine' fin _ _ _ _ _ _ _ _ _ (fmod_lo _ h0) (fmod_hi _ h0) ?c hy hy2 ?F ?N
    (case F => k_asm); (case N => k_asm)
    rw [Int.fdiv_eq_ediv_of_nonneg _ (Int.le_of_lt h0)]
    exact Int.ediv_nonneg hx (Int.le_of_lt h0)
  · refine' fin _ _ _ _ _ _ _ _ _ (fmod_lo _ h0) (fmod_hi _ h0) hx ?c2 ?d2 ?F2 ?N2
    (case F2 => k_asm); (case N2 => k_asm)
    · exact fmod_lo _ (by decide)
    · exact fmod_hi _ (by decide)
theorem take_ck {w : World} {l : Addr} {o : Obj} {news : Led} {g : Obj → Led} {top : Int} {tt : Tok} (U : UpdF l o news g) (hs : Src l o) (h0 : 0 < top) (h1 : top ≤ 100000) :
    CtK w 320 [.ref l, .int top tt] news 3 24 (fun φ => ∀ x t o', 0 ≤ x → x < top → Src l o' → φ (.int x t) (g o')) False :=
  (take_ct U hs h0 h1).k fun _ h _ _ ⟨x, t, o', e1, a, b, c, e2⟩ => by subst e1 e2; exact h x t o' a b c
-- part C2
theorem wsC2_0 : True := by
  w_top off
  k_with_none
  k_with "ktr_room" => first | exact room1 (by assumption) | exact room3 (by assumption) (Nat.le_of_ble_eq_true rfl) | exact room2 (by assumption) (Nat.le_of_ble_eq_true rfl)
  k_with "ktr_units" => first | exact unit3 (by assumption) (Nat.le_of_ble_eq_true rfl) | exact unit2 (by assumption) (Nat.le_of_ble_eq_true rfl)
  k_with "callWith ref" => (k_here; k_dflt (refine' callWith_K ?cwA ?cwB ?_; (case cwA => k_asm); (case cwB => k_is); k_whole))
  k_with "omega" => first | decide | with_reducible assumption | exact Int.lt_of_le_of_lt (by with_reducible assumption) (by decide) | exact Int.lt_of_lt_of_le (by with_reducible assumption) (by decide) | exact Int.le_trans (by with_reducible assumption) (by decide) | exact lo_tr (by with_reducible assumption) (by decide) | exact lo_le (by with_reducible assumption) (by decide) | exact Nat.le_trans (by with_reducible assumption) (by decide) | exact Nat.lt_of_le_of_lt (by with_reducible assumption) (by decide) | lia
  k_with "k_ne" => (refine neN ?_; (try dsimp only); first | decide | with_reducible assumption | exact Ne.symm (by with_reducible assumption) | (refine Nat.ne_of_gt ?_; (first | with_reducible assumption | exact at1 (by with_reducible assumption) | exact at2 (by with_reducible assumption) | exact at3 (by with_reducible assumption) | exact at4 (by with_reducible assumption) | exact at5 (by with_reducible assumption) | exact at6 (by with_reducible assumption) | exact at7 (by with_reducible assumption) | exact at8 (by with_reducible assumption) | exact up1 (by with_reducible assumption) | exact up2 (by with_reducible assumption) | exact up2 (at1 (by with_reducible assumption)) | exact up2 (at2 (by with_reducible assumption)) | exact up2 (at3 (by with_reducible assumption)) | exact up2 (at4 (by with_reducible assumption)) | exact up1 (at1 (by with_reducible assumption)) | exact up1 (at2 (by with_reducible assumption)) | exact up1 (at3 (by with_reducible assumption)) | exact up1 (at4 (by with_reducible assumption)))) | (refine Nat.ne_of_lt ?_; (first | with_reducible assumption | exact at1 (by with_reducible assumption) | exact at2 (by with_reducible assumption) | exact at3 (by with_reducible assumption) | exact at4 (by with_reducible assumption) | exact at5 (by with_reducible assumption) | exact at6 (by with_reducible assumption) | exact at7 (by with_reducible assumption) | exact at8 (by with_reducible assumption) | exact up1 (by with_reducible assumption) | exact up2 (by with_reducible assumption) | exact up2 (at1 (by with_reducible assumption)) | exact up2 (at2 (by with_reducible assumption)) | exact up2 (at3 (by with_reducible assumption)) | exact up2 (at4 (by with_reducible assumption)) | exact up1 (at1 (by with_reducible assumption)) | exact up1 (at2 (by with_reducible assumption)) | exact up1 (at3 (by with_reducible assumption)) | exact up1 (at4 (by with_reducible assumption)))) | omega)
  k_with "mem_go" => first | with_reducible assumption | exact List.Mem.head _ | (refine List.mem_cons_of_mem _ ?_; (k_extra "mem_go"))
  k_with "sub_go" => first | exact fun _ h => h | exact sub_nil | (refine sub_cons ?hSub ?_; (case hSub => (k_extra "mem_go")); (k_extra "sub_go")) | ((fail_if_success (refine sub_cons ?_ ?_)); refine sub_drop ?_; (k_extra "sub_go")) | with_reducible assumption
  k_with "off_go" => first | exact off_nil | with_reducible assumption | (refine off_cons ?hOff ?_; (case hOff => k_ne); (k_extra "off_go")) | exact off_old (by with_reducible assumption) (by (k_extra "sub_go")) | exact off_sub (by with_reducible assumption) (by (k_extra "sub_go"))
  k_with "k_mem" => (k_extra "mem_go")
  k_with "k_all" => (k_extra "off_go")
  trivial
theorem wsC2_1 : True := by
  w_top off
  k_with_none
  k_with "ktr_room" => first | exact room1 (by assumption) | exact room3 (by assumption) (Nat.le_of_ble_eq_true rfl) | exact room2 (by assumption) (Nat.le_of_ble_eq_true rfl)
  k_with "ktr_units" => first | exact unit3 (by assumption) (Nat.le_of_ble_eq_true rfl) | exact unit2 (by assumption) (Nat.le_of_ble_eq_true rfl)
  k_with "callWith ref" => (k_here; k_dflt (refine' callWith_K ?cwA ?cwB ?_; (case cwA => k_asm); (case cwB => k_is); k_whole))
  k_with "omega" => first | decide | with_reducible assumption | exact Int.lt_of_le_of_lt (by with_reducible assumption) (by decide) | exact Int.lt_of_lt_of_le (by with_reducible assumption) (by decide) | exact Int.le_trans (by with_reducible assumption) (by decide) | exact lo_tr (by with_reducible assumption) (by decide) | exact lo_le (by with_reducible assumption) (by decide) | exact Nat.le_trans (by with_reducible assumption) (by decide) | exact Nat.lt_of_le_of_lt (by with_reducible assumption) (by decide) | lia
  k_with "k_ne" => (refine neN ?_; (try dsimp only); first | decide | with_reducible assumption | exact Ne.symm (by with_reducible assumption) | (refine Nat.ne_of_gt ?_; (first | with_reducible assumption | exact at1 (by with_reducible assumption) | exact at2 (by with_reducible assumption) | exact at3 (by with_reducible assumption) | exact at4 (by with_reducible assumption) | exact at5 (by with_reducible assumption) | exact at6 (by with_reducible assumption) | exact at7 (by with_reducible assumption) | exact at8 (by with_reducible assumption) | exact up1 (by with_reducible assumption) | exact up2 (by with_reducible assumption) | exact up2 (at1 (by with_reducible assumption)) | exact up2 (at2 (by with_reducible assumption)) | exact up2 (at3 (by with_reducible assumption)) | exact up2 (at4 (by with_reducible assumption)) | exact up1 (at1 (by with_reducible assumption)) | exact up1 (at2 (by with_reducible assumption)) | exact up1 (at3 (by with_reducible assumption)) | exact up1 (at4 (by with_reducible assumption)))) | (refine Nat.ne_of_lt ?_; (first | with_reducible assumption | exact at1 (by with_reducible assumption) | exact at2 (by with_reducible assumption) | exact at3 (by with_reducible assumption) | exact at4 (by with_reducible assumption) | exact at5 (by with_reducible assumption) | exact at6 (by with_reducible assumption) | exact at7 (by with_reducible assumption) | exact at8 (by with_reducible assumption) | exact up1 (by with_reducible assumption) | exact up2 (by with_reducible assumption) | exact up2 (at1 (by with_reducible assumption)) | exact up2 (at2 (by with_reducible assumption)) | exact up2 (at3 (by with_reducible assumption)) | exact up2 (at4 (by with_reducible assumption)) | exact up1 (at1 (by with_reducible assumption)) | exact up1 (at2 (by with_reducible assumption)) | exact up1 (at3 (by with_reducible assumption)) | exact up1 (at4 (by with_reducible assumption)))) | omega)
  k_with "mem_go" => first | with_reducible assumption | exact List.Mem.head _ | (refine List.mem_cons_of_mem _ ?_; (k_extra "mem_go"))
  k_with "sub_go" => first | exact fun _ h => h | exact sub_nil | (refine sub_cons ?hSub ?_; (case hSub => (k_extra "mem_go")); (k_extra "sub_go")) | ((fail_if_success (refine sub_cons ?_ ?_)); refine sub_drop ?_; (k_extra "sub_go")) | with_reducible assumption
  k_with "off_go" => first | exact off_nil | with_reducible assumption | (refine off_cons ?hOff ?_; (case hOff => k_ne); (k_extra "off_go")) | exact off_old (by with_reducible assumption) (by (k_extra "sub_go")) | exact off_sub (by with_reducible assumption) (by (k_extra "sub_go"))
  k_with "k_mem" => (k_extra "mem_go")
  k_with "k_all" => (k_extra "off_go")
  k_with "k_all" => assumption
  k_with "call ref" => (k_here; (with_reducible refine (?_ : wpAny _ _ (call (Value.ref 320) _) _ _ _)); k_dflt (refine CtK.run0 (by k_asm) (by k_asm) (take_ck (by k_updF) (by assumption) (by first | decide | omega) (by first | decide | omega)) (by k_asm) (by k_asm) (by k_asm) (by first | rfl | assumption) (by ktr_room) (by ktr_units) (fun x' t' o' b1' b2' s' h' tk' F' N' => ?_)); ((try dsimp only at N')))
  trivial
set_option maxRecDepth 100000 in
set_option maxHeartbeats 8000000 in
theorem near_ct {w : World} {l : Addr} {o : Obj} {news : Led} {g : Obj → Led} {least most : Int} {t1 t2 : Tok} (U : UpdF l o news g) (hs : Src l o) (h0 : 0 ≤ least) (h1 : least ≤ most) (h2 : most ≤ 1000) :
    Ct w 327 [.ref l, .int least t1, .int most t2] news 4 32 (fun v news' => ∃ x t o', v = .int x t ∧ 0 ≤ x ∧ x ≤ most + 1 ∧ Src l o' ∧ news' = g o') False := by
  intro mean mg mb dp un gd cn cs a ccd cl outer A₀ base h₀ L m s Q E
  k_fill
  intro X B F N T hk hd hu hret _
  obtain ⟨rest, N0, hne, back⟩ := news_front N U
  clear N U
  have fin : ∀ v t o' h' tk', Fr h₀ L h' m → News h₀ L h' ((l, o') :: rest) → 0 ≤ v → v ≤ most + 1 → Src l o' → Q (.int v t) {s with heap := h', toks := tk'} :=
    fun v t o' h' tk' F' N' a1 a2 a3 => hret _ _ h' tk' F' (back _ _ N') ⟨v, t, _, rfl, a1, a2, a3, rfl⟩
  clear hret back
  refine wpAny_call ?_
  k_dflt cell_enter
  k_steps
  all_goals exact fin _ _ _ _ _ (by k_asm) (by k_asm) (by omega) (by omega) (by assumption)
theorem near_ck {w : World} {l : Addr} {o : Obj} {news : Led} {g : Obj → Led} {least most : Int} {t1 t2 : Tok} (U : UpdF l o news g) (hs : Src l o) (h0 : 0 ≤ least) (h1 : least ≤ most) (h2 : most ≤ 1000) :
    CtK w 327 [.ref l, .int least t1, .int most t2] news 4 32 (fun φ => ∀ x t o', 0 ≤ x → x ≤ most + 1 → Src l o' → φ (.int x t) (g o')) False :=
  (near_ct U hs h0 h1 h2).k fun _ h _ _ ⟨x, t, o', e1, a, b, c, e2⟩ => by subst e1 e2; exact h x t o' a b c
-- part E1
theorem wsE1_0 : True := by
  w_top off
  k_with_none
  k_with "ktr_room" => first | exact room1 (by assumption) | exact room3 (by assumption) (Nat.le_of_ble_eq_true rfl) | exact room2 (by assumption) (Nat.le_of_ble_eq_true rfl)
  k_with "ktr_units" => first | exact unit3 (by assumption) (Nat.le_of_ble_eq_true rfl) | exact unit2 (by assumption) (Nat.le_of_ble_eq_true rfl)
  k_with "callWith ref" => (k_here; k_dflt (refine' callWith_K ?cwA ?cwB ?_; (case cwA => k_asm); (case cwB => k_is); k_whole))
  k_with "omega" => first | decide | with_reducible assumption | exact Int.lt_of_le_of_lt (by with_reducible assumption) (by decide) | exact Int.lt_of_lt_of_le (by with_reducible assumption) (by decide) | exact Int.le_trans (by with_reducible assumption) (by decide) | exact lo_tr (by with_reducible assumption) (by decide) | exact lo_le (by with_reducible assumption) (by decide) | exact Nat.le_trans (by with_reducible assumption) (by decide) | exact Nat.lt_of_le_of_lt (by with_reducible assumption) (by decide) | lia
  k_with "k_ne" => (refine neN ?_; (try dsimp only); first | decide | with_reducible assumption | exact Ne.symm (by with_reducible assumption) | (refine Nat.ne_of_gt ?_; (first | with_reducible assumption | exact at1 (by with_reducible assumption) | exact at2 (by with_reducible assumption) | exact at3 (by with_reducible assumption) | exact at4 (by with_reducible assumption) | exact at5 (by with_reducible assumption) | exact at6 (by with_reducible assumption) | exact at7 (by with_reducible assumption) | exact at8 (by with_reducible assumption) | exact up1 (by with_reducible assumption) | exact up2 (by with_reducible assumption) | exact up2 (at1 (by with_reducible assumption)) | exact up2 (at2 (by with_reducible assumption)) | exact up2 (at3 (by with_reducible assumption)) | exact up2 (at4 (by with_reducible assumption)) | exact up1 (at1 (by with_reducible assumption)) | exact up1 (at2 (by with_reducible assumption)) | exact up1 (at3 (by with_reducible assumption)) | exact up1 (at4 (by with_reducible assumption)))) | (refine Nat.ne_of_lt ?_; (first | with_reducible assumption | exact at1 (by with_reducible assumption) | exact at2 (by with_reducible assumption) | exact at3 (by with_reducible assumption) | exact at4 (by with_reducible assumption) | exact at5 (by with_reducible assumption) | exact at6 (by with_reducible assumption) | exact at7 (by with_reducible assumption) | exact at8 (by with_reducible assumption) | exact up1 (by with_reducible assumption) | exact up2 (by with_reducible assumption) | exact up2 (at1 (by with_reducible assumption)) | exact up2 (at2 (by with_reducible assumption)) | exact up2 (at3 (by with_reducible assumption)) | exact up2 (at4 (by with_reducible assumption)) | exact up1 (at1 (by with_reducible assumption)) | exact up1 (at2 (by with_reducible assumption)) | exact up1 (at3 (by with_reducible assumption)) | exact up1 (at4 (by with_reducible assumption)))) | omega)
  k_with "mem_go" => first | with_reducible assumption | exact List.Mem.head _ | (refine List.mem_cons_of_mem _ ?_; (k_extra "mem_go"))
  k_with "sub_go" => first | exact fun _ h => h | exact sub_nil | (refine sub_cons ?hSub ?_; (case hSub => (k_extra "mem_go")); (k_extra "sub_go")) | ((fail_if_success (refine sub_cons ?_ ?_)); refine sub_drop ?_; (k_extra "sub_go")) | with_reducible assumption
  k_with "off_go" => first | exact off_nil | with_reducible assumption | (refine off_cons ?hOff ?_; (case hOff => k_ne); (k_extra "off_go")) | exact off_old (by with_reducible assumption) (by (k_extra "sub_go")) | exact off_sub (by with_reducible assumption) (by (k_extra "sub_go"))
  k_with "k_mem" => (k_extra "mem_go")
  k_with "k_all" => (k_extra "off_go")
  trivial
theorem warm {w : World} {h : Heap} : (hd.heap_1 w.params).In h → PySem.Challenge.rw_nt0560_01 = PySem.Challenge.rw_nt0560_01 := by
  k_fill
  intro _
  rfl
noncomputable abbrev segBm : List Value := [.ref 31, .type "Exception", .type "BaseException", .type "object"]
noncomputable abbrev segO (nm q : Str) (bs : List Value) (hdct : Bool) (sn : List Str) (sub : List Value) (ab : Bool) (col : Option Bool) (dd : Option Addr) (k0 k1 k2 k3 k5 : Option Value) : Obj :=
  excClassObj nm q 44 43 bs segBm hdct sn sub ab col dd k0 k1 k2 k3 k5 "Exception.__new__"
theorem segHas : (Value.ref 44 :: segBm).contains (.type "Exception") = true ∧ (Value.ref 44 :: segBm).contains (.type "AttributeError") = false ∧ (Value.ref 44 :: segBm).contains (.type "NameError") = false ∧
    (Value.ref 44 :: segBm).contains (.type "BaseException") = true ∧ (Value.ref 44 :: segBm).contains (.ref 44) = true := by decide +kernel
set_option maxRecDepth 100000 in
theorem segAt {w : World} {h : Heap} (X : (hd.heap_1 w.params).In h) : h.get? 44 = some (segO "SegmentError" "SegmentError" [.ref 31] true [] [] false none none (some (.ref 35)) none (some (.str "SegmentError" 218)) (some (.str "SegmentError" 226)) (some (.bool true))) ∧ findIn (hd.heap_1 w.params) (.ref 44) "__init__" = some (some (.ref 28)) ∧ typeIn (hd.heap_1 w.params) (.ref 28) = some (.type "function") := by
  refine ⟨X 44 _ ?_, ?_, ?_⟩
  · k_dflt k_is
  · k_is
  · k_is

section
variable {prog : Program} {w : World} {A : Around} {E : Value → Shared → Prop} {R : Result → Shared → Prop} {h : Heap} {g : Array GenState} {d : Drawn} {t : Nat} {os : OsState}
variable {nm q : Str} {bs : List Value} {hdct : Bool} {sn : List Str} {sub : List Value} {ab : Bool} {col : Option Bool} {dd : Option Addr} {k0 k1 k2 k3 k5 : Option Value}

theorem seg_new {rest : List Value} (hC : h.get? 44 = some (segO nm q bs hdct sn sub ab col dd k0 k1 k2 k3 k5)) (hrest : rest.length ≤ sizeLine)
    (hq : R (.ok (.ret (.ref (h.objs.size + 1)))) ⟨(h.push { cls := .type "tuple", data := .seq rest.toArray }).push { cls := .ref 44, data := .fields #[.ref h.objs.size, .none, .none, .none, .bool false, .none] }, g, d, t, os⟩) :
    codeAny (model prog w) A (.builtin "Exception.__new__" ⟨.ref 44 :: rest, []⟩) R ⟨h, g, d, t, os⟩ := by
  have F := PySem.F.excBase_Exception
  have hends := F.ends
  obtain ⟨s1, s2, s3, _, _⟩ := segHas
  refine codeAny_builtinAt F.entry ?_
  unfold Builtin.«BaseException.__new__»
  refine _root_.PySem.wpAt_bind ?_
  show _root_.PySem.wpAt _ _ _ (stack >>= _) _ _ _
  refine _root_.PySem.wpAt_bind (_root_.PySem.wpAt_stack fun p below => _root_.PySem.wpAt_of_wpAny ?_)
  wp_walk
  refine _root_.PySem.wpAt_of_wpAny ?_
  rw [F.owner]
  repeat (first | with_reducible refine wpAny_madeHere_exc F.canon hC ?_ | with_reducible refine wpAny_loadPart_at hC ?_ | (with_reducible refine wpAny_isSubtype_exc hC ?_; first | rw [s1] | rw [s2] | rw [s3]) | wp_step)
  show R _ _
  rw [Heap.size_push]
  exact hq
theorem seg_check {rest : List Value} {Q : Unit → Shared → Prop} (hC : h.get? 44 = some (segO nm q bs hdct sn sub ab col dd k0 k1 k2 k3 k5)) (hq : Q () ⟨h, g, d, t, os⟩) :
    wpAny (model prog w) A (checkBuiltinCall "Exception.__new__" ⟨.ref 44 :: rest, []⟩) Q E ⟨h, g, d, t, os⟩ := by
  have F := PySem.F.excBase_Exception
  have hstar := F.noStar
  have s1 := segHas.1
  simp only [checkBuiltinCall, F.newKind, F.newSplit, F.newRow]
  repeat (first | refine wpAny_loadPart_at hC ?_ | (refine wpAny_isSubtype_exc hC ?_; rw [s1]) | refine wpAny_staticBase_exc hC ?_ | refine wpAny_madeBy_exc hC ?_ | simp only [bne_self_eq_false, Bool.false_eq_true, if_false] | wp_step)
  exact hq

/-- SegmentError(..) up to the call of its __init__, a def of the text -/
theorem seg_type_call {rest : List Value} {Q : Fin → Shared → Prop} (X : (hd.heap_1 w.params).In h) (hrest : rest.length ≤ sizeLine)
    (hq : ∀ h' e, Heap.MadeExcOf h h' e (.ref 44) rest → wpAny (model prog w) A (call (.ref 28) (.ref e :: rest)) (fun r s' => r = .none ∧ Q (.done (.ret (.ref e))) s') E ⟨h', g, d, t, os⟩) :
    wpAny (model prog w) A (Builtin.«type.__call__» ⟨.ref 44 :: rest, []⟩) Q E ⟨h, g, d, t, os⟩ := by
  have F := PySem.F.excBase_Exception
  obtain ⟨hC, hI, hF⟩ := segAt X
  repeat (first | with_reducible refine wpAny_loadPart_at hC ?_ | with_reducible refine wpAny_madeBy_exc hC ?_ | wp_step)
  refine codeAny_call_builtin_code (Code.quiet_builtin _ F.quiet) (seg_check hC ?_)
  refine seg_new hC hrest ?_
  show wpAny _ _ _ _ _ _
  have keep : ∀ b o, h.get? b = some o → ((h.push { cls := .type "tuple", data := .seq rest.toArray }).push { cls := .ref 44, data := .fields #[.ref h.objs.size, .none, .none, .none, .bool false, .none] }).get? b = some o :=
    fun b o e => Heap.get?_push_of_some _ (Heap.get?_push_of_some _ e)
  have hC₁ := keep _ _ hC
  have X₁ := X.keeps keep
  have hget : ((h.push { cls := .type "tuple", data := .seq rest.toArray }).push { cls := .ref 44, data := .fields #[.ref h.objs.size, .none, .none, .none, .bool false, .none] }).get? (h.objs.size + 1) = some
      { cls := .ref 44, data := .fields #[.ref h.objs.size, .none, .none, .none, .bool false, .none] } := by heap_get
  have s5 := segHas.2.2.2.2
  unfold isInstance
  repeat (first | with_reducible refine wpAny_loadPart_at hget ?_ | (with_reducible refine wpAny_isSubtype_exc hC₁ ?_; rw [s5]) | wp_step)
  show wpAny _ _ (typeLookup (.ref 44) _) _ _ _
  refine (looks_findIn X₁ hI).here ?_
  refine wpAny_holding (wpAny_bind ((bind_fn X₁ _ hF).here ?_))
  refine wpAny_bind (wpAny_mono (hq _ (h.objs.size + 1) ⟨keep, Heap.get?_none_of_le (Nat.le_succ _), h.objs.size, hget, Heap.get?_none_of_le (Nat.le_refl _), Heap.get?_push_of_some _ (Heap.get?_push_at rfl rfl)⟩) (fun r s' hr => ?_) fun _ _ x => x)
  obtain ⟨rfl, hQ⟩ := hr
  wp_walk
  exact hQ

theorem seg_call {rest : List Value} {Q : Value → Shared → Prop} (X : (hd.heap_1 w.params).In h) (hrest : rest.length ≤ sizeLine)
    (hq : ∀ h' e, Heap.MadeExcOf h h' e (.ref 44) rest → wpAny (model prog w) (A.under (.builtin "type.__call__" ⟨.ref 44 :: rest, []⟩)) (call (.ref 28) (.ref e :: rest)) (fun r s' => r = .none ∧ Q (.ref e) s') E ⟨h', g, d, t, os⟩) :
    wpAny (model prog w) A (call (.ref 44) rest) Q E ⟨h, g, d, t, os⟩ := by
  have f1 := tc_lookup
  have f2 := tc_bind (.ref 44)
  have hC := (segAt X).1
  have hT : (⟨h, g, d, t, os⟩ : Shared).TypeIs (.ref 44) "type" := ⟨_, hC, rfl⟩
  refine wpAny_call (codeAny_of_tree ?_)
  show wpAny _ _ (callAny (.ref 44) _) _ _ _
  repeat (any_goals (first | assumption | with_reducible refine wpAny_loadPart_at hC ?_ | wp_step))
  refine ⟨rfl, ?_⟩
  exact codeAny_call_builtin_at (Code.quiet_builtin _ (by decide +kernel)) entry_typeCall (wpAny_check_type_call_sub hC (seg_type_call X hrest fun h' e hm => hq h' e hm))
end
-- part E2
theorem wsE2_0 : True := by
  w_top off
  k_with_none
  k_with "ktr_room" => first | exact room1 (by assumption) | exact room3 (by assumption) (Nat.le_of_ble_eq_true rfl) | exact room2 (by assumption) (Nat.le_of_ble_eq_true rfl)
  k_with "ktr_units" => first | exact unit3 (by assumption) (Nat.le_of_ble_eq_true rfl) | exact unit2 (by assumption) (Nat.le_of_ble_eq_true rfl)
  k_with "callWith ref" => (k_here; k_dflt (refine' callWith_K ?cwA ?cwB ?_; (case cwA => k_asm); (case cwB => k_is); k_whole))
  k_with "omega" => first | decide | with_reducible assumption | exact Int.lt_of_le_of_lt (by with_reducible assumption) (by decide) | exact Int.lt_of_lt_of_le (by with_reducible assumption) (by decide) | exact Int.le_trans (by with_reducible assumption) (by decide) | exact lo_tr (by with_reducible assumption) (by decide) | exact lo_le (by with_reducible assumption) (by decide) | exact Nat.le_trans (by with_reducible assumption) (by decide) | exact Nat.lt_of_le_of_lt (by with_reducible assumption) (by decide) | lia
  k_with "k_ne" => (refine neN ?_; (try dsimp only); first | decide | with_reducible assumption | exact Ne.symm (by with_reducible assumption) | (refine Nat.ne_of_gt ?_; (first | with_reducible assumption | exact at1 (by with_reducible assumption) | exact at2 (by with_reducible assumption) | exact at3 (by with_reducible assumption) | exact at4 (by with_reducible assumption) | exact at5 (by with_reducible assumption) | exact at6 (by with_reducible assumption) | exact at7 (by with_reducible assumption) | exact at8 (by with_reducible assumption) | exact up1 (by with_reducible assumption) | exact up2 (by with_reducible assumption) | exact up2 (at1 (by with_reducible assumption)) | exact up2 (at2 (by with_reducible assumption)) | exact up2 (at3 (by with_reducible assumption)) | exact up2 (at4 (by with_reducible assumption)) | exact up1 (at1 (by with_reducible assumption)) | exact up1 (at2 (by with_reducible assumption)) | exact up1 (at3 (by with_reducible assumption)) | exact up1 (at4 (by with_reducible assumption)))) | (refine Nat.ne_of_lt ?_; (first | with_reducible assumption | exact at1 (by with_reducible assumption) | exact at2 (by with_reducible assumption) | exact at3 (by with_reducible assumption) | exact at4 (by with_reducible assumption) | exact at5 (by with_reducible assumption) | exact at6 (by with_reducible assumption) | exact at7 (by with_reducible assumption) | exact at8 (by with_reducible assumption) | exact up1 (by with_reducible assumption) | exact up2 (by with_reducible assumption) | exact up2 (at1 (by with_reducible assumption)) | exact up2 (at2 (by with_reducible assumption)) | exact up2 (at3 (by with_reducible assumption)) | exact up2 (at4 (by with_reducible assumption)) | exact up1 (at1 (by with_reducible assumption)) | exact up1 (at2 (by with_reducible assumption)) | exact up1 (at3 (by with_reducible assumption)) | exact up1 (at4 (by with_reducible assumption)))) | omega)
  k_with "mem_go" => first | with_reducible assumption | exact List.Mem.head _ | (refine List.mem_cons_of_mem _ ?_; (k_extra "mem_go"))
  k_with "sub_go" => first | exact fun _ h => h | exact sub_nil | (refine sub_cons ?hSub ?_; (case hSub => (k_extra "mem_go")); (k_extra "sub_go")) | ((fail_if_success (refine sub_cons ?_ ?_)); refine sub_drop ?_; (k_extra "sub_go")) | with_reducible assumption
  k_with "off_go" => first | exact off_nil | with_reducible assumption | (refine off_cons ?hOff ?_; (case hOff => k_ne); (k_extra "off_go")) | exact off_old (by with_reducible assumption) (by (k_extra "sub_go")) | exact off_sub (by with_reducible assumption) (by (k_extra "sub_go"))
  k_with "k_mem" => (k_extra "mem_go")
  k_with "k_all" => (k_extra "off_go")
  trivial
noncomputable abbrev segX (t : Addr) : Obj := { cls := .ref 44, data := .fields #[.ref t, .none, .none, .none, .bool false, .none] }
noncomputable abbrev segXd (t dx : Addr) : Obj := { cls := .ref 44, dict := some dx, data := .fields #[.ref t, .none, .none, .none, .bool false, .none] }
noncomputable abbrev tupO (vs : List Value) : Obj := { cls := .type "tuple", data := .seq vs.toArray }
set_option maxRecDepth 100000 in
theorem segFacts {w : World} : findIn (hd.heap_1 w.params) (.ref 44) "__setattr__" = some (some (.builtin "object.__setattr__")) ∧ mroIn (hd.heap_1 w.params) 44 (.type "object") = some true ∧
    findIn (hd.heap_1 w.params) (.ref 44) "message" = some none := ⟨by k_is, by k_is, by k_is⟩
section
variable {prog : Program} {w : World} {A : Around} {E : Value → Shared → Prop} {h : Heap} {g : Array GenState} {d : Drawn} {tk : Nat} {os : OsState} {e t : Addr} {v : Value} {Q : Unit → Shared → Prop}
theorem seg_store (X : (hd.heap_1 w.params).In h) (he : h.get? e = some (segX t))
    (hq : ∀ h' tk', h'.get? e = some (segXd t h.objs.size) → (∀ b o, b ≠ e → h.get? b = some o → h'.get? b = some o) → Q () ⟨h', g, d, tk', os⟩) :
    wpAny (model prog w) A (setAttr (.ref e) "message" v) Q E ⟨h, g, d, tk, os⟩ := by
  obtain ⟨f1, f2, f3⟩ := segFacts (w := w)
  have hC := (segAt X).1
  have I : InstAt h e (segX t) 44 none := ⟨he, rfl, rfl, trivial⟩
  have SF := PySem.F.store_object
  refine set_plain (s := ⟨h, g, d, tk, os⟩) X I f1 ?_
  have sub : Looks (model prog w) h (isInstance (.ref e) (.type "object")) true := I.type.andThen (looks_mroIn X f2)
  refine codeAny_call_builtin SF.slot.plain SF.entry (@check_slot (model prog w) _ _ ⟨h, g, d, tk + 1, os⟩ "object.__setattr__" "object" "__setattr__" (.ref e) [.str "message" tk, v] [] _ SF.kind SF.split sub (SF.args (.ref e) (.str "message" tk) v) ?_)
  have hm : Looks (model prog w) h (mroOf (.ref 44)) (.ref 44 :: segBm) := (Looks.ld (part := none) hC).andThen .now
  rw [osa_eq, refuse_eq]
  refine wpAny_bind (wpAny_bind (I.type.here (wpAny_bind (hm.here ?_))))
  rw [refuseLoop_ref, refuseLoop_ref, PySem.F.store_Exception.passes]
  refine wpAny_pure (wpAny_bind (I.type.here (wpAny_bind ((looks_findIn X f3).here (wpAny_bind ?_)))))
  refine wpAny_pure ?_
  show wpAny _ _ (storeInOwnDict (.ref e) (.ref 44) (.str "message" tk) "message" v false) _ _ _
  unfold storeInOwnDict ownStreamTells ownDictForStores instanceDict classData
  refine wpAny_bind (wpAny_pure ?_)
  refine wpAny_bind (wpAny_bind (wpAny_loadPart he (wpAny_bind ((Looks.ld (part := none) hC).andThen (by exact .now) |>.here ?_))))
  show wpAny _ _ (alloc { cls := .type "dict", data := .dict #[] } >>= fun d' => update e (fun o => { cls := o.cls, dict := some d', data := o.data, slots := o.slots }) >>= fun _ => pure (some d')) _ _ _
  have hxs : e ≠ h.objs.size := Nat.ne_of_lt (Heap.lt_size he)
  have he₁ : (h.push { cls := .type "dict", data := .dict #[] }).get? e = some (segX t) := Heap.get?_push_of_some _ he
  refine wpAny_bind (wpAny_alloc (wpAny_bind (wpAny_update he₁ (wpAny_pure ?_))))
  have hgd : ((h.push { cls := .type "dict", data := .dict #[] }).update e fun o => { cls := o.cls, dict := some h.objs.size, data := o.data, slots := o.slots }).get? h.objs.size = some { cls := .type "dict", data := .dict #[] } :=
    (Heap.get?_update_ne _ _ _ _ hxs.symm).trans (Heap.get?_push_at rfl rfl)
  have hnd : ((h.push { cls := .type "dict", data := .dict #[] }).update e fun o => { cls := o.cls, dict := some h.objs.size, data := o.data, slots := o.slots }).Ns h.objs.size (fun _ => none) :=
    ⟨_, #[], _, hgd, rfl, fun e he => absurd he (by simp), fun _ => rfl⟩
  show wpAny _ _ (storeInDict h.objs.size (.str "message" tk) "message" v) _ _ _
  unfold storeInDict newKeyGuard
  refine wpAny_bind (wpAny_pure (wpAny_bind (wpAny_nsSet1 (Heap.Ns1.of_empty hnd) fun h' hn' hs => ?_)))
  obtain ⟨oD, esD, epD, hoD, hdD, hcD⟩ := hn'.count (Within.cons "message" v Within.nil)
  refine wpAny_bind (wpAny_lookBehind hoD (by rw [hdD]; exact pastItsLine_dict (Nat.le_trans hcD (by rw [List.length_cons, List.length_nil, sizeLine_eq]; omega))) ?_)
  refine wpAny_pure ?_
  refine hq h' _ ((hs.2 e hxs).trans (Heap.get?_update_self _ he₁ rfl)) fun b o hbe hb => ?_
  exact (hs.2 b (Nat.ne_of_lt (Heap.lt_size hb))).trans ((Heap.get?_update_ne _ _ _ _ hbe).trans (Heap.get?_push_of_some _ hb))
theorem seg_check_init {M : Model} {oe : Obj} {rest : List Value} (X : (hd.heap_1 w.params).In h) (he : h.get? e = some oe) (hcls : oe.cls = .ref 44) (hq : Q () ⟨h, g, d, tk, os⟩) :
    wpAny M A (checkBuiltinCall "Exception.__init__" ⟨.ref e :: rest, []⟩) Q E ⟨h, g, d, tk, os⟩ := by
  have F := PySem.F.excBase_Exception
  have hC := (segAt X).1
  have s1 := segHas.1
  have hshort := F.noStar
  simp only [checkBuiltinCall, F.initKind, F.initSplit, F.initRow]
  repeat (first | (with_reducible refine wpAny_loadPart_at he ?_; rw [hcls]) | with_reducible refine wpAny_loadPart_at hC ?_ | (with_reducible refine wpAny_isSubtype_exc hC ?_; rw [s1]) | wp_step)
  refine wpAny_onRaise ?_
  rw [show ∀ (a b : String) (n : Nat), Bind.check ⟨.positional, "*", "Exception", .self, [⟨"args", .varPos, false⟩]⟩ a b n (List.map (fun x => x.fst) ({ pos := Value.ref e :: rest } : Args).kw) = pure () from
    fun a b n => check_star_args _ _ _ _ _ _]
  exact wpAny_pure hq
theorem seg_init {Q : Value → Shared → Prop} {vs : List Value} (X : (hd.heap_1 w.params).In h) (he : h.get? e = some (segX t)) (hvs : vs.length ≤ sizeLine)
    (hq : ∀ h', h'.get? e = some (segX h.objs.size) → h'.get? h.objs.size = some (tupO vs) → (∀ b o, b ≠ e → h.get? b = some o → h'.get? b = some o) → Q .none ⟨h', g, d, tk, os⟩) :
    wpAny (model prog w) A (call (.builtin "Exception.__init__") (.ref e :: vs)) Q E ⟨h, g, d, tk, os⟩ := by
  have F := PySem.F.excBase_Exception
  refine wpAny_call (codeAny_call_builtin F.init.plain F.initEntry (seg_check_init X he rfl ?_))
  have hxs : e ≠ h.objs.size := Nat.ne_of_lt (Heap.lt_size he)
  have he₁ : (h.push (tupO vs)).get? e = some (segX t) := Heap.get?_push_of_some _ he
  unfold Builtin.«BaseException.__init__»
  wp_walk
  exact hq _ (Heap.get?_update_self _ he₁ rfl) ((Heap.get?_update_ne _ _ _ _ hxs.symm).trans (Heap.get?_push_at rfl rfl)) fun b o hbe hb => (Heap.get?_update_ne _ _ _ _ hbe).trans (Heap.get?_push_of_some _ hb)
end
section
variable {prog : Program} {w : World} {A : Around} {E : Value → Shared → Prop} {s : Shared} {h₀ : Heap} {L e t : Addr} {m : Str → Option Value} {rest : Led}
theorem segK_turn {h h' : Heap} {o' : Obj} (F : Fr h₀ L h m) (N : News h₀ L h ((e, segX t) :: rest)) (hne : ∀ p ∈ rest, p.1 ≠ e) (he : h'.get? e = some o') (hk : ∀ b o, b ≠ e → h.get? b = some o → h'.get? b = some o) :
    Fr h₀ L h' m ∧ News h₀ L h' ((e, o') :: rest) := by
  obtain ⟨n1, n2, n3⟩ := N (e, segX t) (.head _)
  refine ⟨⟨?_, fun b o hb => hk b o (fun q => by rw [q, n3] at hb; cases hb) (F.keep b o hb), F.above⟩, fun p hp => ?_⟩
  · obtain ⟨o, es, ep, ho, r⟩ := F.ns
    exact ⟨o, es, ep, hk _ _ (fun q => n2 q.symm) ho, r⟩
  · rcases List.mem_cons.mp hp with rfl | hp
    · exact ⟨he, n2, n3⟩
    · have z := N p (.tail _ hp)
      exact ⟨hk _ _ (hne p hp) z.1, z.2⟩
theorem segK_init {Q : Value → Shared → Prop} {vs : List Value} (F : Fr h₀ L s.heap m) (X₀ : (hd.heap_1 w.params).In h₀) (N : News h₀ L s.heap ((e, segX t) :: rest)) (hne : ∀ p ∈ rest, p.1 ≠ e) (hvs : vs.length ≤ sizeLine)
    (h : ∀ h' t', Fr h₀ L h' m → News h₀ L h' ((e, segX t') :: (t', tupO vs) :: rest) → e < t' → (∀ p ∈ rest, p.1 < t') → Q .none { s with heap := h' }) :
    wpAny (model prog w) A (call (.builtin "Exception.__init__") (.ref e :: vs)) Q E s := by
  obtain ⟨hp, g, d, tk, os⟩ := s
  obtain ⟨n1, n2, n3⟩ := N (e, segX t) (.head _)
  refine seg_init (X₀.keeps F.keep) n1 hvs fun h' he ht hk => ?_
  obtain ⟨F', N'⟩ := segK_turn F N hne he hk
  have hL : L < hp.objs.size := F.ns.lt
  refine h h' hp.objs.size F' (fun p hp' => ?_) (Heap.lt_size n1) fun p hp' => Heap.lt_size (N p (.tail _ hp')).1
  rcases List.mem_cons.mp hp' with rfl | hp'
  · exact N' _ (.head _)
  · rcases List.mem_cons.mp hp' with rfl | hp'
    · exact ⟨ht, Nat.ne_of_gt hL, Heap.get?_none_of_le (Nat.le_trans F.above (Nat.le_of_lt hL))⟩
    · exact N' _ (.tail _ hp')
theorem segK_store {Q : Unit → Shared → Prop} {v : Value} (F : Fr h₀ L s.heap m) (X₀ : (hd.heap_1 w.params).In h₀) (N : News h₀ L s.heap ((e, segX t) :: rest)) (hne : ∀ p ∈ rest, p.1 ≠ e)
    (h : ∀ h' tk' dx, Fr h₀ L h' m → News h₀ L h' ((e, segXd t dx) :: rest) → Q () { s with heap := h', toks := tk' }) :
    wpAny (model prog w) A (setAttr (.ref e) "message" v) Q E s := by
  obtain ⟨hp, g, d, tk, os⟩ := s
  obtain ⟨n1, n2, n3⟩ := N (e, segX t) (.head _)
  refine seg_store (X₀.keeps F.keep) n1 fun h' tk' he hk => ?_
  obtain ⟨F', N'⟩ := segK_turn F N hne he hk
  exact h h' tk' _ F' N'
end
-- part E3
theorem wsE3_0 : True := by
  w_top off
  k_with_none
  k_with "ktr_room" => first | exact room1 (by assumption) | exact room3 (by assumption) (Nat.le_of_ble_eq_true rfl) | exact room2 (by assumption) (Nat.le_of_ble_eq_true rfl)
  k_with "ktr_units" => first | exact unit3 (by assumption) (Nat.le_of_ble_eq_true rfl) | exact unit2 (by assumption) (Nat.le_of_ble_eq_true rfl)
  k_with "callWith ref" => (k_here; k_dflt (refine' callWith_K ?cwA ?cwB ?_; (case cwA => k_asm); (case cwB => k_is); k_whole))
  k_with "omega" => first | decide | with_reducible assumption | exact Int.lt_of_le_of_lt (by with_reducible assumption) (by decide) | exact Int.lt_of_lt_of_le (by with_reducible assumption) (by decide) | exact Int.le_trans (by with_reducible assumption) (by decide) | exact lo_tr (by with_reducible assumption) (by decide) | exact lo_le (by with_reducible assumption) (by decide) | exact Nat.le_trans (by with_reducible assumption) (by decide) | exact Nat.lt_of_le_of_lt (by with_reducible assumption) (by decide) | lia
  k_with "k_ne" => (refine neN ?_; (try dsimp only); first | decide | with_reducible assumption | exact Ne.symm (by with_reducible assumption) | (refine Nat.ne_of_gt ?_; (first | with_reducible assumption | exact at1 (by with_reducible assumption) | exact at2 (by with_reducible assumption) | exact at3 (by with_reducible assumption) | exact at4 (by with_reducible assumption) | exact at5 (by with_reducible assumption) | exact at6 (by with_reducible assumption) | exact at7 (by with_reducible assumption) | exact at8 (by with_reducible assumption) | exact up1 (by with_reducible assumption) | exact up2 (by with_reducible assumption) | exact up2 (at1 (by with_reducible assumption)) | exact up2 (at2 (by with_reducible assumption)) | exact up2 (at3 (by with_reducible assumption)) | exact up2 (at4 (by with_reducible assumption)) | exact up1 (at1 (by with_reducible assumption)) | exact up1 (at2 (by with_reducible assumption)) | exact up1 (at3 (by with_reducible assumption)) | exact up1 (at4 (by with_reducible assumption)))) | (refine Nat.ne_of_lt ?_; (first | with_reducible assumption | exact at1 (by with_reducible assumption) | exact at2 (by with_reducible assumption) | exact at3 (by with_reducible assumption) | exact at4 (by with_reducible assumption) | exact at5 (by with_reducible assumption) | exact at6 (by with_reducible assumption) | exact at7 (by with_reducible assumption) | exact at8 (by with_reducible assumption) | exact up1 (by with_reducible assumption) | exact up2 (by with_reducible assumption) | exact up2 (at1 (by with_reducible assumption)) | exact up2 (at2 (by with_reducible assumption)) | exact up2 (at3 (by with_reducible assumption)) | exact up2 (at4 (by with_reducible assumption)) | exact up1 (at1 (by with_reducible assumption)) | exact up1 (at2 (by with_reducible assumption)) | exact up1 (at3 (by with_reducible assumption)) | exact up1 (at4 (by with_reducible assumption)))) | omega)
  k_with "mem_go" => first | with_reducible assumption | exact List.Mem.head _ | (refine List.mem_cons_of_mem _ ?_; (k_extra "mem_go"))
  k_with "sub_go" => first | exact fun _ h => h | exact sub_nil | (refine sub_cons ?hSub ?_; (case hSub => (k_extra "mem_go")); (k_extra "sub_go")) | ((fail_if_success (refine sub_cons ?_ ?_)); refine sub_drop ?_; (k_extra "sub_go")) | with_reducible assumption
  k_with "off_go" => first | exact off_nil | with_reducible assumption | (refine off_cons ?hOff ?_; (case hOff => k_ne); (k_extra "off_go")) | exact off_old (by with_reducible assumption) (by (k_extra "sub_go")) | exact off_sub (by with_reducible assumption) (by (k_extra "sub_go"))
  k_with "k_mem" => (k_extra "mem_go")
  k_with "k_all" => (k_extra "off_go")
  trivial
theorem wsE3_1 : True := by
  w_top off
  k_with_none
  k_with "ktr_room" => first | exact room1 (by assumption) | exact room3 (by assumption) (Nat.le_of_ble_eq_true rfl) | exact room2 (by assumption) (Nat.le_of_ble_eq_true rfl)
  k_with "ktr_units" => first | exact unit3 (by assumption) (Nat.le_of_ble_eq_true rfl) | exact unit2 (by assumption) (Nat.le_of_ble_eq_true rfl)
  k_with "callWith ref" => (k_here; k_dflt (refine' callWith_K ?cwA ?cwB ?_; (case cwA => k_asm); (case cwB => k_is); k_whole))
  k_with "omega" => first | decide | with_reducible assumption | exact Int.lt_of_le_of_lt (by with_reducible assumption) (by decide) | exact Int.lt_of_lt_of_le (by with_reducible assumption) (by decide) | exact Int.le_trans (by with_reducible assumption) (by decide) | exact lo_tr (by with_reducible assumption) (by decide) | exact lo_le (by with_reducible assumption) (by decide) | exact Nat.le_trans (by with_reducible assumption) (by decide) | exact Nat.lt_of_le_of_lt (by with_reducible assumption) (by decide) | lia
  k_with "k_ne" => (refine neN ?_; (try dsimp only); first | decide | with_reducible assumption | exact Ne.symm (by with_reducible assumption) | (refine Nat.ne_of_gt ?_; (first | with_reducible assumption | exact at1 (by with_reducible assumption) | exact at2 (by with_reducible assumption) | exact at3 (by with_reducible assumption) | exact at4 (by with_reducible assumption) | exact at5 (by with_reducible assumption) | exact at6 (by with_reducible assumption) | exact at7 (by with_reducible assumption) | exact at8 (by with_reducible assumption) | exact up1 (by with_reducible assumption) | exact up2 (by with_reducible assumption) | exact up2 (at1 (by with_reducible assumption)) | exact up2 (at2 (by with_reducible assumption)) | exact up2 (at3 (by with_reducible assumption)) | exact up2 (at4 (by with_reducible assumption)) | exact up1 (at1 (by with_reducible assumption)) | exact up1 (at2 (by with_reducible assumption)) | exact up1 (at3 (by with_reducible assumption)) | exact up1 (at4 (by with_reducible assumption)))) | (refine Nat.ne_of_lt ?_; (first | with_reducible assumption | exact at1 (by with_reducible assumption) | exact at2 (by with_reducible assumption) | exact at3 (by with_reducible assumption) | exact at4 (by with_reducible assumption) | exact at5 (by with_reducible assumption) | exact at6 (by with_reducible assumption) | exact at7 (by with_reducible assumption) | exact at8 (by with_reducible assumption) | exact up1 (by with_reducible assumption) | exact up2 (by with_reducible assumption) | exact up2 (at1 (by with_reducible assumption)) | exact up2 (at2 (by with_reducible assumption)) | exact up2 (at3 (by with_reducible assumption)) | exact up2 (at4 (by with_reducible assumption)) | exact up1 (at1 (by with_reducible assumption)) | exact up1 (at2 (by with_reducible assumption)) | exact up1 (at3 (by with_reducible assumption)) | exact up1 (at4 (by with_reducible assumption)))) | omega)
  k_with "mem_go" => first | with_reducible assumption | exact List.Mem.head _ | (refine List.mem_cons_of_mem _ ?_; (k_extra "mem_go"))
  k_with "sub_go" => first | exact fun _ h => h | exact sub_nil | (refine sub_cons ?hSub ?_; (case hSub => (k_extra "mem_go")); (k_extra "sub_go")) | ((fail_if_success (refine sub_cons ?_ ?_)); refine sub_drop ?_; (k_extra "sub_go")) | with_reducible assumption
  k_with "off_go" => first | exact off_nil | with_reducible assumption | (refine off_cons ?hOff ?_; (case hOff => k_ne); (k_extra "off_go")) | exact off_old (by with_reducible assumption) (by (k_extra "sub_go")) | exact off_sub (by with_reducible assumption) (by (k_extra "sub_go"))
  k_with "k_mem" => (k_extra "mem_go")
  k_with "k_all" => (k_extra "off_go")
  k_with "getMethod type:Exception" => (k_here; refine' method_type ?F ?X ?m (by decide +kernel) ?e ?h ?_; (case F => k_asm); (case X => k_asm); (case m => kernel_rfl); (case e => k_dflt k_is); (case h => k_handed))
  k_with "call builtin:Exception.__init__" => (k_here; refine' segK_init ?F ?X ?N ?n ?v ?_; (case F => k_asm); (case X => k_asm); (case N => k_asm); (case n => assumption); (case v => exact Nat.le_of_ble_eq_true rfl); intro h' t' F' N' l1 l2)
  k_with "setAttr ref" => (k_here; refine' segK_store ?F ?X ?N ?n ?_; (case F => k_asm); (case X => k_asm); (case N => k_asm); (case n => (refine List.forall_mem_cons.mpr ⟨Nat.ne_of_gt (by assumption), ?_⟩; assumption)); intro h' tk' dx' F' N')
  trivial
set_option maxRecDepth 100000 in
set_option maxHeartbeats 8000000 in
theorem init_ct {w : World} {mean : ExcName → Option Value} {mg mb : Str → Option Value} {dp un : Nat} {gd : Option (List Code)} {cn : Str} {cs : Scope} {a : Addr} {ccd : Value} {cl : List (Str × Addr)} {outer : List Env} {A₀ : Around} {base h₀ : Heap} {L : Addr} {m : Str → Option Value} {s : Shared} {Q E : Value → Shared → Prop}
    {news : Led} {e t : Addr} {msg : Str} {mt : Tok}
    (X : (hd.heap_1 w.params).In h₀) (B : Below A₀ base outer h₀) (F : Fr h₀ L s.heap m) (N : News h₀ L s.heap ((e, segX t) :: news)) (hne : ∀ p ∈ news, p.1 ≠ e) (T : Top topProg Lo mean mg mb h₀) (hk : cs.kind = .function) (hdp : dp + 6 < recursionLimit) (hu : un + 40 < cLine)
    (ret : ∀ h' tk' t' dx, Fr h₀ L h' m → News h₀ L h' ((e, segXd t' dx) :: (t', tupO [.str msg mt]) :: news) → (∀ p ∈ news, p.1 ≠ t') → Q .none { s with heap := h', toks := tk' }) :
    wpAny (model PySem.Challenge.rw_nt0560_01.row.prog w) (ktrTop dp un gd cn cs L a ccd cl outer) (call (.ref 28) [.ref e, .str msg mt]) Q E s := by
  refine wpAny_call ?_
  k_dflt cell_enter
  k_steps
  rename ∀ p ∈ news, p.1 < _ => hlt
  exact ret _ _ _ _ (by k_asm) (by k_asm) fun p hp => Nat.ne_of_lt (hlt p hp)

section
variable {M : Model} {A : Around} {E : Value → Shared → Prop} {s' : Shared} {base g : Heap} {outer : List Env} {L a e t dx : Addr} {m : Str → Option Value} {name : Str} {scope : Scope} {cd : Value} {Q : Unit → Shared → Prop} {news : Led} {vs : List Value}
/-- a SegmentError, just made, leaves the frame that raised it -/
theorem leave_seg (K : Below A base outer g) (F : Fr g L s'.heap m) (N : News g L s'.heap ((e, segXd t dx) :: (t, tupO vs) :: news)) (hne1 : ∀ p ∈ news, p.1 ≠ e) (hne2 : ∀ p ∈ news, p.1 ≠ t)
    (hQ : ∀ h', RaisedS base g outer e (.ref 44) t vs news h' → g.UpToSlots h' → Q () { s' with heap := h' }) (hk : scope.kind = .function := by rfl) :
    wpAny M (A.deeper (envOf name scope L a cd)) (leaving (envOf name scope L a cd) (.ref e)) Q E s' := by
  have K' := K.push (name := name) (a := a) (cd := cd) F hk
  obtain ⟨e1, e2, e3⟩ := N (e, segXd t dx) (.head _)
  obtain ⟨t1, t2, t3⟩ := N (t, tupO vs) (.tail _ (.head _))
  let fs := (envOf name scope L a cd :: outer).filterMap (·.frame)
  have hin : ∀ env ∈ (envOf name scope L a cd :: outer), ∀ b, env.frame = some b → b ∈ fs ++ [e, t] := fun env he b hb => List.mem_append_left _ (List.mem_filterMap.mpr ⟨env, he, hb⟩)
  have old : ∀ b o, g.get? b = some o → b ∉ outer.filterMap (·.frame) → b ∉ fs ++ [e, t] := fun b o q nm hm => by
    rcases List.mem_append.mp hm with hm | hm
    · rcases kts_mem hm with z | z
      · rw [z, kts_self F] at q; cases q
      · exact nm z
    · rcases List.mem_cons.mp hm with z | hm
      · rw [z, e3] at q; cases q
      · rw [List.mem_singleton.mp hm, t3] at q; cases q
  have sg : ∀ b o, g.get? b = some o → b ∉ outer.filterMap (·.frame) → (hideAll s'.heap (fs ++ [e, t])).get? b = some o := fun b o q nm => hideAll_get _ (F.keep b o q) (old b o q nm)
  have st : base.StaysIn (hideAll s'.heap (fs ++ [e, t])) := fun b o q => sg b o (K.stays b o q) fun hm => by
    rw [(K.frames.mem hm).1] at q; cases q
  have hl : ∀ q ∈ news, (hideAll s'.heap (fs ++ [e, t])).get? q.1 = some q.2 ∧ g.get? q.1 = none ∧ base.get? q.1 = none := fun q hq => by
    have z := N q (.tail _ (.tail _ hq))
    refine ⟨hideAll_get _ z.1 fun hm => ?_, z.2.2, fresh_of_stays K.stays z.2.2⟩
    rcases List.mem_append.mp hm with hm | hm
    · rcases kts_mem hm with y | y
      · exact z.2.1 y
      · obtain ⟨o, ho, _⟩ := (K.frames.mem y).2
        rw [z.2.2] at ho; cases ho
    · rcases List.mem_cons.mp hm with y | hm
      · exact hne1 q hq y
      · exact hne2 q hq (List.mem_singleton.mp hm)
  have hen : (hideAll s'.heap (fs ++ [e, t])).get? e = none := hideAll_none _ (List.mem_append_right _ (.head _))
  have htn : (hideAll s'.heap (fs ++ [e, t])).get? t = none := hideAll_none _ (List.mem_append_right _ (.tail _ (.head _)))
  refine wpAny_leaving_firstW (a0 := .ref t) K'.stack (funFrames_hide K'.frames hin) rfl e1 (fun b o hb => of_hideAll _ hb) hen rfl rfl rfl fun h' hL => ?_
  obtain ⟨k1, ⟨_, _, k2⟩, k3, k4⟩ := hL
  exact hQ h' ⟨⟨_, st, sg, hl, ⟨k1, hen, k2, k3⟩, htn⟩, Heap.TupAt.of_slots ⟨_, _, t1, rfl, rfl⟩ k4⟩ ((Heap.UpToSlots.of_keeps F.keep).trans k4)
end
-- part E4
theorem wsE4_0 : True := by
  w_top off
  k_with_none
  k_with "ktr_room" => first | exact room1 (by assumption) | exact room3 (by assumption) (Nat.le_of_ble_eq_true rfl) | exact room2 (by assumption) (Nat.le_of_ble_eq_true rfl)
  k_with "ktr_units" => first | exact unit3 (by assumption) (Nat.le_of_ble_eq_true rfl) | exact unit2 (by assumption) (Nat.le_of_ble_eq_true rfl)
  k_with "callWith ref" => (k_here; k_dflt (refine' callWith_K ?cwA ?cwB ?_; (case cwA => k_asm); (case cwB => k_is); k_whole))
  k_with "omega" => first | decide | with_reducible assumption | exact Int.lt_of_le_of_lt (by with_reducible assumption) (by decide) | exact Int.lt_of_lt_of_le (by with_reducible assumption) (by decide) | exact Int.le_trans (by with_reducible assumption) (by decide) | exact lo_tr (by with_reducible assumption) (by decide) | exact lo_le (by with_reducible assumption) (by decide) | exact Nat.le_trans (by with_reducible assumption) (by decide) | exact Nat.lt_of_le_of_lt (by with_reducible assumption) (by decide) | lia
  k_with "k_ne" => (refine neN ?_; (try dsimp only); first | decide | with_reducible assumption | exact Ne.symm (by with_reducible assumption) | (refine Nat.ne_of_gt ?_; (first | with_reducible assumption | exact at1 (by with_reducible assumption) | exact at2 (by with_reducible assumption) | exact at3 (by with_reducible assumption) | exact at4 (by with_reducible assumption) | exact at5 (by with_reducible assumption) | exact at6 (by with_reducible assumption) | exact at7 (by with_reducible assumption) | exact at8 (by with_reducible assumption) | exact up1 (by with_reducible assumption) | exact up2 (by with_reducible assumption) | exact up2 (at1 (by with_reducible assumption)) | exact up2 (at2 (by with_reducible assumption)) | exact up2 (at3 (by with_reducible assumption)) | exact up2 (at4 (by with_reducible assumption)) | exact up1 (at1 (by with_reducible assumption)) | exact up1 (at2 (by with_reducible assumption)) | exact up1 (at3 (by with_reducible assumption)) | exact up1 (at4 (by with_reducible assumption)))) | (refine Nat.ne_of_lt ?_; (first | with_reducible assumption | exact at1 (by with_reducible assumption) | exact at2 (by with_reducible assumption) | exact at3 (by with_reducible assumption) | exact at4 (by with_reducible assumption) | exact at5 (by with_reducible assumption) | exact at6 (by with_reducible assumption) | exact at7 (by with_reducible assumption) | exact at8 (by with_reducible assumption) | exact up1 (by with_reducible assumption) | exact up2 (by with_reducible assumption) | exact up2 (at1 (by with_reducible assumption)) | exact up2 (at2 (by with_reducible assumption)) | exact up2 (at3 (by with_reducible assumption)) | exact up2 (at4 (by with_reducible assumption)) | exact up1 (at1 (by with_reducible assumption)) | exact up1 (at2 (by with_reducible assumption)) | exact up1 (at3 (by with_reducible assumption)) | exact up1 (at4 (by with_reducible assumption)))) | omega)
  k_with "mem_go" => first | with_reducible assumption | exact List.Mem.head _ | (refine List.mem_cons_of_mem _ ?_; (k_extra "mem_go"))
  k_with "sub_go" => first | exact fun _ h => h | exact sub_nil | (refine sub_cons ?hSub ?_; (case hSub => (k_extra "mem_go")); (k_extra "sub_go")) | ((fail_if_success (refine sub_cons ?_ ?_)); refine sub_drop ?_; (k_extra "sub_go")) | with_reducible assumption
  k_with "off_go" => first | exact off_nil | with_reducible assumption | (refine off_cons ?hOff ?_; (case hOff => k_ne); (k_extra "off_go")) | exact off_old (by with_reducible assumption) (by (k_extra "sub_go")) | exact off_sub (by with_reducible assumption) (by (k_extra "sub_go"))
  k_with "k_mem" => (k_extra "mem_go")
  k_with "k_all" => (k_extra "off_go")
  trivial
section
variable {prog : Program} {w : World} {A : Around} {E : Value → Shared → Prop} {s : Shared} {h₀ : Heap} {L : Addr} {m : Str → Option Value} {news : Led}
theorem segK_call {Q : Value → Shared → Prop} {vs : List Value} (F : Fr h₀ L s.heap m) (X₀ : (hd.heap_1 w.params).In h₀) (N : News h₀ L s.heap news) (hvs : vs.length ≤ sizeLine)
    (h : ∀ h' e t, Fr h₀ L h' m → News h₀ L h' ((e, segX t) :: news) → (∀ p ∈ news, p.1 ≠ e) →
      wpAny (model prog w) (A.under (.builtin "type.__call__" ⟨.ref 44 :: vs, []⟩)) (call (.ref 28) (.ref e :: vs)) (fun r s' => r = .none ∧ Q (.ref e) s') E { s with heap := h' }) :
    wpAny (model prog w) A (call (.ref 44) vs) Q E s := by
  obtain ⟨hp, g, d, tk, os⟩ := s
  refine seg_call (X₀.keeps F.keep) hvs fun h' e hm => ?_
  obtain ⟨t, he, ht, _⟩ := hm.there
  have hn : ∀ p ∈ news, p.1 ≠ e := fun p hp' q => by
    have := (N p hp').1
    rw [q, hm.new] at this; cases this
  have hL : L ≠ e := fun q => by
    obtain ⟨o, _, _, ho, _⟩ := F.ns
    rw [q, hm.new] at ho; cases ho
  have hf : h₀.get? e = none := by
    cases q : h₀.get? e with
    | none => rfl
    | some o => have := F.keep _ _ q; rw [hm.new] at this; cases this
  refine h h' e t (F.keeps hm.keeps) (fun p hp' => ?_) hn
  rcases List.mem_cons.mp hp' with rfl | hp'
  · exact ⟨he, hL.symm, hf⟩
  · exact ⟨hm.keeps _ _ (N p hp').1, (N p hp').2⟩

/-- what a raise is handed: a SegmentError that has been through its __init__ -/
noncomputable def RaiseEnd (w : World) (E : Value → Shared → Prop) (v : Value) (s₁ : Shared) : Prop := ∃ e t dx, v = .ref e ∧ (hd.heap_1 w.params).In s₁.heap ∧ s₁.heap.get? e = some (segXd t dx) ∧ E (.ref e) s₁
theorem RaiseEnd.intro {e t dx : Addr} {rest : Led} {s₁ : Shared} (F : Fr h₀ L s₁.heap m) (X : (hd.heap_1 w.params).In h₀) (N : News h₀ L s₁.heap ((e, segXd t dx) :: rest)) (h : E (.ref e) s₁) : RaiseEnd w E (.ref e) s₁ :=
  ⟨e, t, dx, rfl, X.keeps F.keep, (N _ (.head _)).1, h⟩
/-- raise of what an expression makes: a SegmentError that has been through its __init__ -/
theorem seg_raise {env : Env} {x : PySem.Expr} {pos : Pos} {Q : Flow → Shared → Prop} (hh : A.handled = none)
    (h : wpAny (model prog w) A (eval x env) (RaiseEnd w E) E s) :
    wpAny (model prog w) A (exec (.Raise (some x) none pos) env) Q E s := by
  rw [arm_exec_Raise]
  refine wpAny_bind (wpAny_standAt ?_)
  simp only [evalOpt, Option.map]
  unfold raiseStmt
  refine wpAny_bind (wpAny_bind (wpAny_mono h (fun v s₁ h₁ => ?_) fun _ _ y => y))
  refine wpAny_bind (wpAny_standAt (wpAny_pure ?_))
  obtain ⟨e, t, dx, rfl, X, he, hE⟩ := h₁
  have hC := (segAt X).1
  have s4 := segHas.2.2.2.1
  obtain ⟨hp, g, d, tk, os⟩ := s₁
  repeat (first | with_reducible refine wpAny_loadPart_at he ?_ | with_reducible refine wpAny_loadPart_at hC ?_ | (with_reducible refine wpAny_isSubtype_exc hC ?_; rw [s4]) | wp_step)
  exact wpAny_raiseNew_none hh hE
theorem segK_callT {dp un : Nat} {gd : Option (List Code)} {cn : Str} {cs : Scope} {a : Addr} {ccd : Value} {cl : List (Str × Addr)} {outer : List Env} {Q : Value → Shared → Prop} {vs : List Value} (F : Fr h₀ L s.heap m) (X₀ : (hd.heap_1 w.params).In h₀) (N : News h₀ L s.heap news) (hvs : vs.length ≤ sizeLine)
    (h : ∀ h' e t, Fr h₀ L h' m → News h₀ L h' ((e, segX t) :: news) → (∀ p ∈ news, p.1 ≠ e) →
      wpAny (model prog w) (ktrTop (dp + 1) (un + 1) gd cn cs L a ccd cl outer) (call (.ref 28) (.ref e :: vs)) (fun r s' => r = .none ∧ Q (.ref e) s') E { s with heap := h' }) :
    wpAny (model prog w) (ktrTop dp un gd cn cs L a ccd cl outer) (call (.ref 44) vs) Q E s := segK_call F X₀ N hvs h
end
-- part E5
theorem wsE5_0 : True := by
  w_top off
  k_with_none
  k_with "ktr_room" => first | exact room1 (by assumption) | exact room3 (by assumption) (Nat.le_of_ble_eq_true rfl) | exact room2 (by assumption) (Nat.le_of_ble_eq_true rfl)
  k_with "ktr_units" => first | exact unit3 (by assumption) (Nat.le_of_ble_eq_true rfl) | exact unit2 (by assumption) (Nat.le_of_ble_eq_true rfl)
  k_with "callWith ref" => (k_here; k_dflt (refine' callWith_K ?cwA ?cwB ?_; (case cwA => k_asm); (case cwB => k_is); k_whole))
  k_with "omega" => first | decide | with_reducible assumption | exact Int.lt_of_le_of_lt (by with_reducible assumption) (by decide) | exact Int.lt_of_lt_of_le (by with_reducible assumption) (by decide) | exact Int.le_trans (by with_reducible assumption) (by decide) | exact lo_tr (by with_reducible assumption) (by decide) | exact lo_le (by with_reducible assumption) (by decide) | exact Nat.le_trans (by with_reducible assumption) (by decide) | exact Nat.lt_of_le_of_lt (by with_reducible assumption) (by decide) | lia
  k_with "k_ne" => (refine neN ?_; (try dsimp only); first | decide | with_reducible assumption | exact Ne.symm (by with_reducible assumption) | (refine Nat.ne_of_gt ?_; (first | with_reducible assumption | exact at1 (by with_reducible assumption) | exact at2 (by with_reducible assumption) | exact at3 (by with_reducible assumption) | exact at4 (by with_reducible assumption) | exact at5 (by with_reducible assumption) | exact at6 (by with_reducible assumption) | exact at7 (by with_reducible assumption) | exact at8 (by with_reducible assumption) | exact up1 (by with_reducible assumption) | exact up2 (by with_reducible assumption) | exact up2 (at1 (by with_reducible assumption)) | exact up2 (at2 (by with_reducible assumption)) | exact up2 (at3 (by with_reducible assumption)) | exact up2 (at4 (by with_reducible assumption)) | exact up1 (at1 (by with_reducible assumption)) | exact up1 (at2 (by with_reducible assumption)) | exact up1 (at3 (by with_reducible assumption)) | exact up1 (at4 (by with_reducible assumption)))) | (refine Nat.ne_of_lt ?_; (first | with_reducible assumption | exact at1 (by with_reducible assumption) | exact at2 (by with_reducible assumption) | exact at3 (by with_reducible assumption) | exact at4 (by with_reducible assumption) | exact at5 (by with_reducible assumption) | exact at6 (by with_reducible assumption) | exact at7 (by with_reducible assumption) | exact at8 (by with_reducible assumption) | exact up1 (by with_reducible assumption) | exact up2 (by with_reducible assumption) | exact up2 (at1 (by with_reducible assumption)) | exact up2 (at2 (by with_reducible assumption)) | exact up2 (at3 (by with_reducible assumption)) | exact up2 (at4 (by with_reducible assumption)) | exact up1 (at1 (by with_reducible assumption)) | exact up1 (at2 (by with_reducible assumption)) | exact up1 (at3 (by with_reducible assumption)) | exact up1 (at4 (by with_reducible assumption)))) | omega)
  k_with "mem_go" => first | with_reducible assumption | exact List.Mem.head _ | (refine List.mem_cons_of_mem _ ?_; (k_extra "mem_go"))
  k_with "sub_go" => first | exact fun _ h => h | exact sub_nil | (refine sub_cons ?hSub ?_; (case hSub => (k_extra "mem_go")); (k_extra "sub_go")) | ((fail_if_success (refine sub_cons ?_ ?_)); refine sub_drop ?_; (k_extra "sub_go")) | with_reducible assumption
  k_with "off_go" => first | exact off_nil | with_reducible assumption | (refine off_cons ?hOff ?_; (case hOff => k_ne); (k_extra "off_go")) | exact off_old (by with_reducible assumption) (by (k_extra "sub_go")) | exact off_sub (by with_reducible assumption) (by (k_extra "sub_go"))
  k_with "k_mem" => (k_extra "mem_go")
  k_with "k_all" => (k_extra "off_go")
  trivial
theorem wsE5_1 : True := by
  w_top off
  k_with_none
  k_with "ktr_room" => first | exact room1 (by assumption) | exact room3 (by assumption) (Nat.le_of_ble_eq_true rfl) | exact room2 (by assumption) (Nat.le_of_ble_eq_true rfl)
  k_with "ktr_units" => first | exact unit3 (by assumption) (Nat.le_of_ble_eq_true rfl) | exact unit2 (by assumption) (Nat.le_of_ble_eq_true rfl)
  k_with "callWith ref" => (k_here; k_dflt (refine' callWith_K ?cwA ?cwB ?_; (case cwA => k_asm); (case cwB => k_is); k_whole))
  k_with "omega" => first | decide | with_reducible assumption | exact Int.lt_of_le_of_lt (by with_reducible assumption) (by decide) | exact Int.lt_of_lt_of_le (by with_reducible assumption) (by decide) | exact Int.le_trans (by with_reducible assumption) (by decide) | exact lo_tr (by with_reducible assumption) (by decide) | exact lo_le (by with_reducible assumption) (by decide) | exact Nat.le_trans (by with_reducible assumption) (by decide) | exact Nat.lt_of_le_of_lt (by with_reducible assumption) (by decide) | lia
  k_with "k_ne" => (refine neN ?_; (try dsimp only); first | decide | with_reducible assumption | exact Ne.symm (by with_reducible assumption) | (refine Nat.ne_of_gt ?_; (first | with_reducible assumption | exact at1 (by with_reducible assumption) | exact at2 (by with_reducible assumption) | exact at3 (by with_reducible assumption) | exact at4 (by with_reducible assumption) | exact at5 (by with_reducible assumption) | exact at6 (by with_reducible assumption) | exact at7 (by with_reducible assumption) | exact at8 (by with_reducible assumption) | exact up1 (by with_reducible assumption) | exact up2 (by with_reducible assumption) | exact up2 (at1 (by with_reducible assumption)) | exact up2 (at2 (by with_reducible assumption)) | exact up2 (at3 (by with_reducible assumption)) | exact up2 (at4 (by with_reducible assumption)) | exact up1 (at1 (by with_reducible assumption)) | exact up1 (at2 (by with_reducible assumption)) | exact up1 (at3 (by with_reducible assumption)) | exact up1 (at4 (by with_reducible assumption)))) | (refine Nat.ne_of_lt ?_; (first | with_reducible assumption | exact at1 (by with_reducible assumption) | exact at2 (by with_reducible assumption) | exact at3 (by with_reducible assumption) | exact at4 (by with_reducible assumption) | exact at5 (by with_reducible assumption) | exact at6 (by with_reducible assumption) | exact at7 (by with_reducible assumption) | exact at8 (by with_reducible assumption) | exact up1 (by with_reducible assumption) | exact up2 (by with_reducible assumption) | exact up2 (at1 (by with_reducible assumption)) | exact up2 (at2 (by with_reducible assumption)) | exact up2 (at3 (by with_reducible assumption)) | exact up2 (at4 (by with_reducible assumption)) | exact up1 (at1 (by with_reducible assumption)) | exact up1 (at2 (by with_reducible assumption)) | exact up1 (at3 (by with_reducible assumption)) | exact up1 (at4 (by with_reducible assumption)))) | omega)
  k_with "mem_go" => first | with_reducible assumption | exact List.Mem.head _ | (refine List.mem_cons_of_mem _ ?_; (k_extra "mem_go"))
  k_with "sub_go" => first | exact fun _ h => h | exact sub_nil | (refine sub_cons ?hSub ?_; (case hSub => (k_extra "mem_go")); (k_extra "sub_go")) | ((fail_if_success (refine sub_cons ?_ ?_)); refine sub_drop ?_; (k_extra "sub_go")) | with_reducible assumption
  k_with "off_go" => first | exact off_nil | with_reducible assumption | (refine off_cons ?hOff ?_; (case hOff => k_ne); (k_extra "off_go")) | exact off_old (by with_reducible assumption) (by (k_extra "sub_go")) | exact off_sub (by with_reducible assumption) (by (k_extra "sub_go"))
  k_with "k_mem" => (k_extra "mem_go")
  k_with "k_all" => (k_extra "off_go")
  k_with "exec Raise some none" => (k_here; refine seg_raise rfl ?_)
  k_with "RaiseEnd" => (refine' RaiseEnd.intro ?F ?X ?N ?_; (case F => k_asm); (case N => k_asm); (case X => k_asm))
  k_with "leaving ref" => (k_here; refine' leave_seg ?K ?F ?N ?n ?n2 ?_; (case F => k_asm); (case N => k_asm); (case K => k_asm); (case n => assumption); (case n2 => assumption); intro h' R' U'; (try dsimp only at R' U'))
  k_with "call ref" => (k_here; (with_reducible refine (?_ : wpAny _ _ (call (Value.ref 44) _) _ _ _)); k_dflt (refine' segK_callT ?F ?X ?N ?v ?_; (case F => k_asm); (case X => k_asm); (case N => k_asm); (case v => exact Nat.le_of_ble_eq_true rfl)); intro h' e' t' F' N' n'; k_dflt (refine' init_ct ?X2 ?B2 ?F2 ?N2 ?n2 ?T2 ?k2 ?d2 ?u2 ?_; (case F2 => k_asm); (case N2 => k_asm); (case X2 => k_asm); (case B2 => k_asm); (case n2 => k_asm); (case T2 => k_asm); (case k2 => rfl); (case d2 => ktr_room); (case u2 => ktr_units)); intro h' tk' t' dx' F' N' m'; refine ⟨rfl, ?_⟩)
  trivial
set_option maxRecDepth 100000 in
set_option maxHeartbeats 8000000 in
theorem want_ct {w : World} {b : Bool} {msg : Str} {mt : Tok} {news : Led} :
    Ct w 203 [.bool b, .str msg mt] news 8 60 (fun v news' => v = .none ∧ news' = news ∧ b = true) (b = false) := by
  intro mean mg mb dp un gd cn cs a ccd cl outer A₀ base h₀ L m s Q E
  k_fill
  intro X B F N T hk hd hu hret hexc
  cases b
  · refine wpAny_call ?_
    k_dflt cell_enter
    k_steps
    exact hexc rfl _ _ _ _ _ _ (by k_asm) (by assumption) (by assumption)
  · refine wpAny_call ?_
    k_dflt cell_enter
    k_steps
    exact hret _ _ _ _ (by k_asm) (by k_asm) ⟨rfl, rfl, rfl⟩
theorem want_ck {w : World} {b : Bool} {msg : Str} {mt : Tok} {news : Led} : CtK w 203 [.bool b, .str msg mt] news 8 60 (fun φ => b = true → φ .none news) (b = false) :=
  (want_ct ).k kValP
-- part C3
theorem wsC3_0 : True := by
  w_top off
  k_with_none
  k_with "ktr_room" => first | exact room1 (by assumption) | exact room3 (by assumption) (Nat.le_of_ble_eq_true rfl) | exact room2 (by assumption) (Nat.le_of_ble_eq_true rfl)
  k_with "ktr_units" => first | exact unit3 (by assumption) (Nat.le_of_ble_eq_true rfl) | exact unit2 (by assumption) (Nat.le_of_ble_eq_true rfl)
  k_with "callWith ref" => (k_here; k_dflt (refine' callWith_K ?cwA ?cwB ?_; (case cwA => k_asm); (case cwB => k_is); k_whole))
  k_with "omega" => first | decide | with_reducible assumption | exact Int.lt_of_le_of_lt (by with_reducible assumption) (by decide) | exact Int.lt_of_lt_of_le (by with_reducible assumption) (by decide) | exact Int.le_trans (by with_reducible assumption) (by decide) | exact lo_tr (by with_reducible assumption) (by decide) | exact lo_le (by with_reducible assumption) (by decide) | exact Nat.le_trans (by with_reducible assumption) (by decide) | exact Nat.lt_of_le_of_lt (by with_reducible assumption) (by decide) | lia
  k_with "k_ne" => (refine neN ?_; (try dsimp only); first | decide | with_reducible assumption | exact Ne.symm (by with_reducible assumption) | (refine Nat.ne_of_gt ?_; (first | with_reducible assumption | exact at1 (by with_reducible assumption) | exact at2 (by with_reducible assumption) | exact at3 (by with_reducible assumption) | exact at4 (by with_reducible assumption) | exact at5 (by with_reducible assumption) | exact at6 (by with_reducible assumption) | exact at7 (by with_reducible assumption) | exact at8 (by with_reducible assumption) | exact up1 (by with_reducible assumption) | exact up2 (by with_reducible assumption) | exact up2 (at1 (by with_reducible assumption)) | exact up2 (at2 (by with_reducible assumption)) | exact up2 (at3 (by with_reducible assumption)) | exact up2 (at4 (by with_reducible assumption)) | exact up1 (at1 (by with_reducible assumption)) | exact up1 (at2 (by with_reducible assumption)) | exact up1 (at3 (by with_reducible assumption)) | exact up1 (at4 (by with_reducible assumption)))) | (refine Nat.ne_of_lt ?_; (first | with_reducible assumption | exact at1 (by with_reducible assumption) | exact at2 (by with_reducible assumption) | exact at3 (by with_reducible assumption) | exact at4 (by with_reducible assumption) | exact at5 (by with_reducible assumption) | exact at6 (by with_reducible assumption) | exact at7 (by with_reducible assumption) | exact at8 (by with_reducible assumption) | exact up1 (by with_reducible assumption) | exact up2 (by with_reducible assumption) | exact up2 (at1 (by with_reducible assumption)) | exact up2 (at2 (by with_reducible assumption)) | exact up2 (at3 (by with_reducible assumption)) | exact up2 (at4 (by with_reducible assumption)) | exact up1 (at1 (by with_reducible assumption)) | exact up1 (at2 (by with_reducible assumption)) | exact up1 (at3 (by with_reducible assumption)) | exact up1 (at4 (by with_reducible assumption)))) | omega)
  k_with "mem_go" => first | with_reducible assumption | exact List.Mem.head _ | (refine List.mem_cons_of_mem _ ?_; (k_extra "mem_go"))
  k_with "sub_go" => first | exact fun _ h => h | exact sub_nil | (refine sub_cons ?hSub ?_; (case hSub => (k_extra "mem_go")); (k_extra "sub_go")) | ((fail_if_success (refine sub_cons ?_ ?_)); refine sub_drop ?_; (k_extra "sub_go")) | with_reducible assumption
  k_with "off_go" => first | exact off_nil | with_reducible assumption | (refine off_cons ?hOff ?_; (case hOff => k_ne); (k_extra "off_go")) | exact off_old (by with_reducible assumption) (by (k_extra "sub_go")) | exact off_sub (by with_reducible assumption) (by (k_extra "sub_go"))
  k_with "k_mem" => (k_extra "mem_go")
  k_with "k_all" => (k_extra "off_go")
  trivial
theorem News.tl {h₀ h : Heap} {L : Addr} {p : Addr × Obj} {l : Led} (N : News h₀ L h (p :: l)) : News h₀ L h l := fun q hq => N q (.tail _ hq)
theorem inB_nil : ∀ n ∈ ([] : List Int), 0 ≤ n ∧ n < 256 := fun _ h => nomatch h
theorem inB_cons {a : Int} {l : List Int} (h0 : 0 ≤ a) (h1 : a < 256) (h : ∀ n ∈ l, 0 ≤ n ∧ n < 256) : ∀ n ∈ a :: l, 0 ≤ n ∧ n < 256 := fun n hn => (List.mem_cons.mp hn).elim (fun e => e ▸ ⟨h0, h1⟩) (h n)
theorem fdiv256 (a : Int) : a.fdiv 256 = a / 256 := Int.fdiv_eq_ediv_of_nonneg a (by decide)
theorem fmod256 (a : Int) : a.fmod 256 = a % 256 := Int.fmod_eq_emod_of_nonneg a (by decide)
theorem fdiv16 (a : Int) : a.fdiv 16 = a / 16 := Int.fdiv_eq_ediv_of_nonneg a (by decide)
theorem fmod16 (a : Int) : a.fmod 16 = a % 16 := Int.fmod_eq_emod_of_nonneg a (by decide)
theorem fmod4 (a : Int) : a.fmod 4 = a % 4 := Int.fmod_eq_emod_of_nonneg a (by decide)

noncomputable def isFrame (c : Int) : Bool := decide (192 ≤ c ∧ c ≤ 207 ∧ c ≠ 196 ∧ c ≠ 200 ∧ c ≠ 204)
set_option maxRecDepth 100000 in
set_option maxHeartbeats 8000000 in
theorem isFrame_ct {w : World} {c : Int} {t : Tok} {news : Led} : Ct w 77 [.int c t] news 2 24 (fun v news' => v = .bool (isFrame c) ∧ news' = news) False := by
  intro mean mg mb dp un gd cn cs a ccd cl outer A₀ base h₀ L m s Q E X B F N T hk hd hu hret _
  refine wpAny_call ?_
  k_dflt cell_enter
  k_steps
  all_goals first
    | exact hret _ _ _ _ (by k_asm) (by k_asm) ⟨congrArg Value.bool (by unfold isFrame; rw [decide_eq_decide]; omega), rfl⟩
    | exact hret _ _ _ _ (by k_asm) (News.tl (by k_asm)) ⟨congrArg Value.bool (by unfold isFrame; rw [eq_comm, decide_eq_iff_eq_decide']; simp; omega), rfl⟩
    | exact hret _ _ _ _ (by k_asm) (News.tl (by k_asm)) ⟨congrArg Value.bool (by unfold isFrame; rw [Bool.eq_iff_iff]; simp; omega), rfl⟩
noncomputable def isLossless (c : Int) : Bool := decide (c % 4 = 3)
set_option maxRecDepth 100000 in
set_option maxHeartbeats 8000000 in
theorem isLossless_ct {w : World} {c : Int} {t : Tok} {news : Led} : Ct w 210 [.int c t] news 2 24 (fun v news' => v = .bool (isLossless c) ∧ news' = news) False := by
  intro mean mg mb dp un gd cn cs a ccd cl outer A₀ base h₀ L m s Q E X B F N T hk hd hu hret _
  refine wpAny_call ?_
  k_dflt cell_enter
  k_steps
  exact hret _ _ _ _ (by k_asm) (by k_asm) ⟨congrArg Value.bool (by unfold isLossless; rw [fmod4, Bool.eq_iff_iff]; simp), rfl⟩
set_option maxRecDepth 100000 in
set_option maxHeartbeats 8000000 in
theorem lawIs_ct {w : World} {v a b : Int} {t t1 t2 : Tok} {news : Led} : Ct w 334 [.int v t, .int a t1, .int b t2] news 2 24 (fun r news' => r = .bool (decide (a ≤ v ∧ v ≤ b)) ∧ news' = news) False := by
  intro mean mg mb dp un gd cn cs a ccd cl outer A₀ base h₀ L m s Q E X B F N T hk hd hu hret _
  refine wpAny_call ?_
  k_dflt cell_enter
  k_steps
  all_goals exact hret _ _ _ _ (by k_asm) (by k_asm) ⟨congrArg Value.bool (by rw [decide_eq_decide]; omega), rfl⟩
theorem wsC3_1 : True := by
  w_top off
  k_with_none
  k_with "ktr_room" => first | exact room1 (by assumption) | exact room3 (by assumption) (Nat.le_of_ble_eq_true rfl) | exact room2 (by assumption) (Nat.le_of_ble_eq_true rfl)
  k_with "ktr_units" => first | exact unit3 (by assumption) (Nat.le_of_ble_eq_true rfl) | exact unit2 (by assumption) (Nat.le_of_ble_eq_true rfl)
  k_with "callWith ref" => (k_here; k_dflt (refine' callWith_K ?cwA ?cwB ?_; (case cwA => k_asm); (case cwB => k_is); k_whole))
  k_with "omega" => first | decide | with_reducible assumption | exact Int.lt_of_le_of_lt (by with_reducible assumption) (by decide) | exact Int.lt_of_lt_of_le (by with_reducible assumption) (by decide) | exact Int.le_trans (by with_reducible assumption) (by decide) | exact lo_tr (by with_reducible assumption) (by decide) | exact lo_le (by with_reducible assumption) (by decide) | exact Nat.le_trans (by with_reducible assumption) (by decide) | exact Nat.lt_of_le_of_lt (by with_reducible assumption) (by decide) | lia
  k_with "k_ne" => (refine neN ?_; (try dsimp only); first | decide | with_reducible assumption | exact Ne.symm (by with_reducible assumption) | (refine Nat.ne_of_gt ?_; (first | with_reducible assumption | exact at1 (by with_reducible assumption) | exact at2 (by with_reducible assumption) | exact at3 (by with_reducible assumption) | exact at4 (by with_reducible assumption) | exact at5 (by with_reducible assumption) | exact at6 (by with_reducible assumption) | exact at7 (by with_reducible assumption) | exact at8 (by with_reducible assumption) | exact up1 (by with_reducible assumption) | exact up2 (by with_reducible assumption) | exact up2 (at1 (by with_reducible assumption)) | exact up2 (at2 (by with_reducible assumption)) | exact up2 (at3 (by with_reducible assumption)) | exact up2 (at4 (by with_reducible assumption)) | exact up1 (at1 (by with_reducible assumption)) | exact up1 (at2 (by with_reducible assumption)) | exact up1 (at3 (by with_reducible assumption)) | exact up1 (at4 (by with_reducible assumption)))) | (refine Nat.ne_of_lt ?_; (first | with_reducible assumption | exact at1 (by with_reducible assumption) | exact at2 (by with_reducible assumption) | exact at3 (by with_reducible assumption) | exact at4 (by with_reducible assumption) | exact at5 (by with_reducible assumption) | exact at6 (by with_reducible assumption) | exact at7 (by with_reducible assumption) | exact at8 (by with_reducible assumption) | exact up1 (by with_reducible assumption) | exact up2 (by with_reducible assumption) | exact up2 (at1 (by with_reducible assumption)) | exact up2 (at2 (by with_reducible assumption)) | exact up2 (at3 (by with_reducible assumption)) | exact up2 (at4 (by with_reducible assumption)) | exact up1 (at1 (by with_reducible assumption)) | exact up1 (at2 (by with_reducible assumption)) | exact up1 (at3 (by with_reducible assumption)) | exact up1 (at4 (by with_reducible assumption)))) | omega)
  k_with "mem_go" => first | with_reducible assumption | exact List.Mem.head _ | (refine List.mem_cons_of_mem _ ?_; (k_extra "mem_go"))
  k_with "sub_go" => first | exact fun _ h => h | exact sub_nil | (refine sub_cons ?hSub ?_; (case hSub => (k_extra "mem_go")); (k_extra "sub_go")) | ((fail_if_success (refine sub_cons ?_ ?_)); refine sub_drop ?_; (k_extra "sub_go")) | with_reducible assumption
  k_with "off_go" => first | exact off_nil | with_reducible assumption | (refine off_cons ?hOff ?_; (case hOff => k_ne); (k_extra "off_go")) | exact off_old (by with_reducible assumption) (by (k_extra "sub_go")) | exact off_sub (by with_reducible assumption) (by (k_extra "sub_go"))
  k_with "k_mem" => (k_extra "mem_go")
  k_with "k_all" => (k_extra "off_go")
  k_with "call type:bytes" => (k_here; (with_reducible refine (?_ : wpAny _ _ (call (Value.type "bytes") [Value.ref _]) _ _ _)); k_dflt (refine' KBa.make_K ?kbaF ?kbaN ?kbah ?kbal ?kbai ?kbar ?kban ?_; (case kbaF => k_asm); (case kbaN => k_asm); (case kbah => rfl); (case kbal => kba_isList); (case kbai => kba_listInts); (case kbar => ((simp only [fdiv256, fmod256]); (repeat' (first | exact inB_nil | refine inB_cons ?_ ?_ ?_)) <;> omega)); (case kban => exact Nat.le_of_ble_eq_true rfl)); intro _ _ _ F' N' kbaIn)
  trivial
set_option maxRecDepth 100000 in
set_option maxHeartbeats 8000000 in
theorem word_ct {w : World} {n : Int} {t : Tok} {news : Led} (h0 : 0 ≤ n) (h1 : n ≤ 65535) : Ct w 84 [.int n t] news 2 24 (fun r news' => (∃ b u, r = .bytes b u ∧ KBw.bInts b = [n / 256, n % 256]) ∧ news' = news) False := by
  intro mean mg mb dp un gd cn cs a ccd cl outer A₀ base h₀ L m s Q E X B F N T hk hd hu hret _
  refine wpAny_call ?_
  k_dflt cell_enter
  k_steps
  exact hret _ _ _ _ (by k_asm) (News.tl (by k_asm)) ⟨⟨_, _, rfl, (KBa.ints_make (by assumption)).trans (by rw [fdiv256, fmod256])⟩, rfl⟩
theorem isFrame_ck {w : World} {c : Int} {t : Tok} {news : Led} : CtK w 77 [.int c t] news 2 24 (fun φ => φ (.bool (isFrame c)) news) False :=
  (isFrame_ct ).k kVal
theorem isLossless_ck {w : World} {c : Int} {t : Tok} {news : Led} : CtK w 210 [.int c t] news 2 24 (fun φ => φ (.bool (isLossless c)) news) False :=
  (isLossless_ct ).k kVal
theorem lawIs_ck {w : World} {v a b : Int} {t t1 t2 : Tok} {news : Led} : CtK w 334 [.int v t, .int a t1, .int b t2] news 2 24 (fun φ => φ (.bool (decide (a ≤ v ∧ v ≤ b))) news) False :=
  (lawIs_ct ).k kVal
theorem word_ck {w : World} {n : Int} {t : Tok} {news : Led} (h0 : 0 ≤ n) (h1 : n ≤ 65535) : CtK w 84 [.int n t] news 2 24 (fun φ => ∀ b u, KBw.bInts b = [n / 256, n % 256] → φ (.bytes b u) news) False :=
  (word_ct h0 h1).k kBytes
-- part C4
theorem wsC4_0 : True := by
  w_top off
  k_with_none
  k_with "ktr_room" => first | exact room1 (by assumption) | exact room3 (by assumption) (Nat.le_of_ble_eq_true rfl) | exact room2 (by assumption) (Nat.le_of_ble_eq_true rfl)
  k_with "ktr_units" => first | exact unit3 (by assumption) (Nat.le_of_ble_eq_true rfl) | exact unit2 (by assumption) (Nat.le_of_ble_eq_true rfl)
  k_with "callWith ref" => (k_here; k_dflt (refine' callWith_K ?cwA ?cwB ?_; (case cwA => k_asm); (case cwB => k_is); k_whole))
  k_with "omega" => first | decide | with_reducible assumption | exact Int.lt_of_le_of_lt (by with_reducible assumption) (by decide) | exact Int.lt_of_lt_of_le (by with_reducible assumption) (by decide) | exact Int.le_trans (by with_reducible assumption) (by decide) | exact lo_tr (by with_reducible assumption) (by decide) | exact lo_le (by with_reducible assumption) (by decide) | exact Nat.le_trans (by with_reducible assumption) (by decide) | exact Nat.lt_of_le_of_lt (by with_reducible assumption) (by decide) | lia
  k_with "k_ne" => (refine neN ?_; (try dsimp only); first | decide | with_reducible assumption | exact Ne.symm (by with_reducible assumption) | (refine Nat.ne_of_gt ?_; (first | with_reducible assumption | exact at1 (by with_reducible assumption) | exact at2 (by with_reducible assumption) | exact at3 (by with_reducible assumption) | exact at4 (by with_reducible assumption) | exact at5 (by with_reducible assumption) | exact at6 (by with_reducible assumption) | exact at7 (by with_reducible assumption) | exact at8 (by with_reducible assumption) | exact up1 (by with_reducible assumption) | exact up2 (by with_reducible assumption) | exact up2 (at1 (by with_reducible assumption)) | exact up2 (at2 (by with_reducible assumption)) | exact up2 (at3 (by with_reducible assumption)) | exact up2 (at4 (by with_reducible assumption)) | exact up1 (at1 (by with_reducible assumption)) | exact up1 (at2 (by with_reducible assumption)) | exact up1 (at3 (by with_reducible assumption)) | exact up1 (at4 (by with_reducible assumption)))) | (refine Nat.ne_of_lt ?_; (first | with_reducible assumption | exact at1 (by with_reducible assumption) | exact at2 (by with_reducible assumption) | exact at3 (by with_reducible assumption) | exact at4 (by with_reducible assumption) | exact at5 (by with_reducible assumption) | exact at6 (by with_reducible assumption) | exact at7 (by with_reducible assumption) | exact at8 (by with_reducible assumption) | exact up1 (by with_reducible assumption) | exact up2 (by with_reducible assumption) | exact up2 (at1 (by with_reducible assumption)) | exact up2 (at2 (by with_reducible assumption)) | exact up2 (at3 (by with_reducible assumption)) | exact up2 (at4 (by with_reducible assumption)) | exact up1 (at1 (by with_reducible assumption)) | exact up1 (at2 (by with_reducible assumption)) | exact up1 (at3 (by with_reducible assumption)) | exact up1 (at4 (by with_reducible assumption)))) | omega)
  k_with "mem_go" => first | with_reducible assumption | exact List.Mem.head _ | (refine List.mem_cons_of_mem _ ?_; (k_extra "mem_go"))
  k_with "sub_go" => first | exact fun _ h => h | exact sub_nil | (refine sub_cons ?hSub ?_; (case hSub => (k_extra "mem_go")); (k_extra "sub_go")) | ((fail_if_success (refine sub_cons ?_ ?_)); refine sub_drop ?_; (k_extra "sub_go")) | with_reducible assumption
  k_with "off_go" => first | exact off_nil | with_reducible assumption | (refine off_cons ?hOff ?_; (case hOff => k_ne); (k_extra "off_go")) | exact off_old (by with_reducible assumption) (by (k_extra "sub_go")) | exact off_sub (by with_reducible assumption) (by (k_extra "sub_go"))
  k_with "k_mem" => (k_extra "mem_go")
  k_with "k_all" => (k_extra "off_go")
  trivial
theorem wsC4_1 : True := by
  w_top off
  k_with_none
  k_with "ktr_room" => first | exact room1 (by assumption) | exact room3 (by assumption) (Nat.le_of_ble_eq_true rfl) | exact room2 (by assumption) (Nat.le_of_ble_eq_true rfl)
  k_with "ktr_units" => first | exact unit3 (by assumption) (Nat.le_of_ble_eq_true rfl) | exact unit2 (by assumption) (Nat.le_of_ble_eq_true rfl)
  k_with "callWith ref" => (k_here; k_dflt (refine' callWith_K ?cwA ?cwB ?_; (case cwA => k_asm); (case cwB => k_is); k_whole))
  k_with "omega" => first | decide | with_reducible assumption | exact Int.lt_of_le_of_lt (by with_reducible assumption) (by decide) | exact Int.lt_of_lt_of_le (by with_reducible assumption) (by decide) | exact Int.le_trans (by with_reducible assumption) (by decide) | exact lo_tr (by with_reducible assumption) (by decide) | exact lo_le (by with_reducible assumption) (by decide) | exact Nat.le_trans (by with_reducible assumption) (by decide) | exact Nat.lt_of_le_of_lt (by with_reducible assumption) (by decide) | lia
  k_with "k_ne" => (refine neN ?_; (try dsimp only); first | decide | with_reducible assumption | exact Ne.symm (by with_reducible assumption) | (refine Nat.ne_of_gt ?_; (first | with_reducible assumption | exact at1 (by with_reducible assumption) | exact at2 (by with_reducible assumption) | exact at3 (by with_reducible assumption) | exact at4 (by with_reducible assumption) | exact at5 (by with_reducible assumption) | exact at6 (by with_reducible assumption) | exact at7 (by with_reducible assumption) | exact at8 (by with_reducible assumption) | exact up1 (by with_reducible assumption) | exact up2 (by with_reducible assumption) | exact up2 (at1 (by with_reducible assumption)) | exact up2 (at2 (by with_reducible assumption)) | exact up2 (at3 (by with_reducible assumption)) | exact up2 (at4 (by with_reducible assumption)) | exact up1 (at1 (by with_reducible assumption)) | exact up1 (at2 (by with_reducible assumption)) | exact up1 (at3 (by with_reducible assumption)) | exact up1 (at4 (by with_reducible assumption)))) | (refine Nat.ne_of_lt ?_; (first | with_reducible assumption | exact at1 (by with_reducible assumption) | exact at2 (by with_reducible assumption) | exact at3 (by with_reducible assumption) | exact at4 (by with_reducible assumption) | exact at5 (by with_reducible assumption) | exact at6 (by with_reducible assumption) | exact at7 (by with_reducible assumption) | exact at8 (by with_reducible assumption) | exact up1 (by with_reducible assumption) | exact up2 (by with_reducible assumption) | exact up2 (at1 (by with_reducible assumption)) | exact up2 (at2 (by with_reducible assumption)) | exact up2 (at3 (by with_reducible assumption)) | exact up2 (at4 (by with_reducible assumption)) | exact up1 (at1 (by with_reducible assumption)) | exact up1 (at2 (by with_reducible assumption)) | exact up1 (at3 (by with_reducible assumption)) | exact up1 (at4 (by with_reducible assumption)))) | omega)
  k_with "mem_go" => first | with_reducible assumption | exact List.Mem.head _ | (refine List.mem_cons_of_mem _ ?_; (k_extra "mem_go"))
  k_with "sub_go" => first | exact fun _ h => h | exact sub_nil | (refine sub_cons ?hSub ?_; (case hSub => (k_extra "mem_go")); (k_extra "sub_go")) | ((fail_if_success (refine sub_cons ?_ ?_)); refine sub_drop ?_; (k_extra "sub_go")) | with_reducible assumption
  k_with "off_go" => first | exact off_nil | with_reducible assumption | (refine off_cons ?hOff ?_; (case hOff => k_ne); (k_extra "off_go")) | exact off_old (by with_reducible assumption) (by (k_extra "sub_go")) | exact off_sub (by with_reducible assumption) (by (k_extra "sub_go"))
  k_with "k_mem" => (k_extra "mem_go")
  k_with "k_all" => (k_extra "off_go")
  k_with "ExcP" => (unfold ExcP; intro e3'; first | exact e3'.elim | (intro e' t' vs' g' h' tk' Fg' U' R'; (try simp only [decide_eq_false_iff_not] at e3'); first | (exfalso; omega; done) | skip))
  k_with "call ref" => (k_here; (with_reducible refine (?_ : wpAny _ _ (call (Value.ref 210) _) _ _ _)); k_dflt (refine CtK.run0 (by k_asm) (by k_asm) (isLossless_ck) (by k_asm) (by k_asm) (by k_asm) (by first | rfl | assumption) (by ktr_room) (by ktr_units) (fun  h' tk' F' N' => ?_)); ((try dsimp only at N')))
  k_with "call ref" => (k_here; (with_reducible refine (?_ : wpAny _ _ (call (Value.ref 77) _) _ _ _)); k_dflt (refine CtK.run0 (by k_asm) (by k_asm) (isFrame_ck) (by k_asm) (by k_asm) (by k_asm) (by first | rfl | assumption) (by ktr_room) (by ktr_units) (fun  h' tk' F' N' => ?_)); ((try dsimp only at N')))
  k_with "call ref" => (k_here; (with_reducible refine (?_ : wpAny _ _ (call (Value.ref 334) _) _ _ _)); k_dflt (refine CtK.run0 (by k_asm) (by k_asm) (lawIs_ck) (by k_asm) (by k_asm) (by k_asm) (by first | rfl | assumption) (by ktr_room) (by ktr_units) (fun  h' tk' F' N' => ?_)); ((try dsimp only at N')))
  k_with "call ref" => (k_here; (with_reducible refine (?_ : wpAny _ _ (call (Value.ref 203) _) _ _ _)); k_dflt (refine CtK.run (by k_asm) (by k_asm) (want_ck) (by k_asm) (by k_asm) (by k_asm) (by first | rfl | assumption) (by ktr_room) (by ktr_units) (fun e3' h' tk' F' N' => ?_) ?_); case' _ => ((try dsimp only at N'); (try simp only [decide_eq_true_eq] at e3'); first | (exfalso; omega; done) | skip))
  trivial
noncomputable def isPrecision (c p : Int) : Bool := if isLossless c then decide (2 ≤ p ∧ p ≤ 16) else decide (p = 8 ∨ (p = 12 ∧ c ≠ 192))
set_option maxRecDepth 100000 in
set_option maxHeartbeats 8000000 in
theorem isPrecision_ct {w : World} {c p : Int} {t u : Tok} {news : Led} : Ct w 217 [.int c t, .int p u] news 4 32 (fun v news' => v = .bool (isPrecision c p) ∧ news' = news) False := by
  intro mean mg mb dp un gd cn cs a ccd cl outer A₀ base h₀ L m s Q E X B F N T hk hd hu hret _
  refine wpAny_call ?_
  k_dflt cell_enter
  k_steps
  all_goals exact hret _ _ _ _ (by k_asm) (by k_asm) ⟨congrArg Value.bool (by unfold isPrecision; rename isLossless c = _ => hl; rw [hl, Bool.eq_iff_iff]; simp; omega), rfl⟩

noncomputable abbrev compD (P : Params) (k1 k2 k3 k4 : Tok) (i : Int) (t1 : Tok) (a : Int) (t2 : Tok) (d : Int) (t3 : Tok) (q : Int) (t4 : Tok) : Obj :=
  dictOf [⟨PyData.keyHash P "ident", .str "ident" k1, .int i t1⟩, ⟨PyData.keyHash P "across", .str "across" k2, .int a t2⟩, ⟨PyData.keyHash P "down", .str "down" k3, .int d t3⟩, ⟨PyData.keyHash P "quant", .str "quant" k4, .int q t4⟩] 4
noncomputable def CompD (P : Params) (o : Obj) (i a d q : Int) : Prop := ∃ k1 k2 k3 k4 t1 t2 t3 t4, o = compD P k1 k2 k3 k4 i t1 a t2 d t3 q t4
noncomputable def compOk (i a d q : Int) : Prop := (0 ≤ i ∧ i ≤ 255) ∧ (1 ≤ a ∧ a ≤ 4) ∧ (1 ≤ d ∧ d ≤ 4) ∧ 0 ≤ q ∧ q ≤ 3
theorem wsC4_2 : True := by
  k_with "leaving ref" => (k_here; refine' leave_onS (by k_asm) (by assumption) (by assumption) (by assumption) ?_; intro h' R' Rk' U'; clear Rk'; (try dsimp only at R' U'))
  trivial
set_option maxRecDepth 100000 in
set_option maxHeartbeats 8000000 in
theorem checkComp_ct {w : World} {x dx : Addr} {o : Obj} {i a d q : Int} {news : Led} (hx : (x, instObj 150 dx) ∈ news) (hdx : (dx, o) ∈ news) (hC : CompD w.params o i a d q) :
    Ct w 231 [.ref x] news 12 80 (fun v news' => v = .none ∧ news' = news ∧ compOk i a d q) (¬ compOk i a d q) := by
  intro mean mg mb dp un gd cn cs a' ccd cl outer A₀ base h₀ L m s Q E X B F N T hk hd hu hret hexc
  obtain ⟨k1, k2, k3, k4, t1, t2, t3, t4, rfl⟩ := hC
  refine wpAny_call ?_
  k_dflt cell_enter
  k_steps
  all_goals first
    | exact hret _ _ _ _ (by k_asm) (by k_asm) ⟨rfl, rfl, by unfold compOk; omega⟩
    | exact hexc (by unfold compOk; omega) _ _ _ _ _ _ (by k_asm) (by assumption) (by assumption)
theorem isPrecision_ck {w : World} {c p : Int} {t u : Tok} {news : Led} : CtK w 217 [.int c t, .int p u] news 4 32 (fun φ => φ (.bool (isPrecision c p)) news) False :=
  (isPrecision_ct ).k kVal
theorem checkComp_ck {w : World} {x dx : Addr} {o : Obj} {i a d q : Int} {news : Led} (hx : (x, instObj 150 dx) ∈ news) (hdx : (dx, o) ∈ news) (hC : CompD w.params o i a d q) : CtK w 231 [.ref x] news 12 80 (fun φ => compOk i a d q → φ .none news) (¬ compOk i a d q) :=
  (checkComp_ct hx hdx hC).k kValP
-- part B1
theorem wsB1_0 : True := by
  w_top off
  k_with_none
  k_with "ktr_room" => first | exact room1 (by assumption) | exact room3 (by assumption) (Nat.le_of_ble_eq_true rfl) | exact room2 (by assumption) (Nat.le_of_ble_eq_true rfl)
  k_with "ktr_units" => first | exact unit3 (by assumption) (Nat.le_of_ble_eq_true rfl) | exact unit2 (by assumption) (Nat.le_of_ble_eq_true rfl)
  k_with "callWith ref" => (k_here; k_dflt (refine' callWith_K ?cwA ?cwB ?_; (case cwA => k_asm); (case cwB => k_is); k_whole))
  k_with "omega" => first | decide | with_reducible assumption | exact Int.lt_of_le_of_lt (by with_reducible assumption) (by decide) | exact Int.lt_of_lt_of_le (by with_reducible assumption) (by decide) | exact Int.le_trans (by with_reducible assumption) (by decide) | exact lo_tr (by with_reducible assumption) (by decide) | exact lo_le (by with_reducible assumption) (by decide) | exact Nat.le_trans (by with_reducible assumption) (by decide) | exact Nat.lt_of_le_of_lt (by with_reducible assumption) (by decide) | lia
  k_with "k_ne" => (refine neN ?_; (try dsimp only); first | decide | with_reducible assumption | exact Ne.symm (by with_reducible assumption) | (refine Nat.ne_of_gt ?_; (first | with_reducible assumption | exact at1 (by with_reducible assumption) | exact at2 (by with_reducible assumption) | exact at3 (by with_reducible assumption) | exact at4 (by with_reducible assumption) | exact at5 (by with_reducible assumption) | exact at6 (by with_reducible assumption) | exact at7 (by with_reducible assumption) | exact at8 (by with_reducible assumption) | exact up1 (by with_reducible assumption) | exact up2 (by with_reducible assumption) | exact up2 (at1 (by with_reducible assumption)) | exact up2 (at2 (by with_reducible assumption)) | exact up2 (at3 (by with_reducible assumption)) | exact up2 (at4 (by with_reducible assumption)) | exact up1 (at1 (by with_reducible assumption)) | exact up1 (at2 (by with_reducible assumption)) | exact up1 (at3 (by with_reducible assumption)) | exact up1 (at4 (by with_reducible assumption)))) | (refine Nat.ne_of_lt ?_; (first | with_reducible assumption | exact at1 (by with_reducible assumption) | exact at2 (by with_reducible assumption) | exact at3 (by with_reducible assumption) | exact at4 (by with_reducible assumption) | exact at5 (by with_reducible assumption) | exact at6 (by with_reducible assumption) | exact at7 (by with_reducible assumption) | exact at8 (by with_reducible assumption) | exact up1 (by with_reducible assumption) | exact up2 (by with_reducible assumption) | exact up2 (at1 (by with_reducible assumption)) | exact up2 (at2 (by with_reducible assumption)) | exact up2 (at3 (by with_reducible assumption)) | exact up2 (at4 (by with_reducible assumption)) | exact up1 (at1 (by with_reducible assumption)) | exact up1 (at2 (by with_reducible assumption)) | exact up1 (at3 (by with_reducible assumption)) | exact up1 (at4 (by with_reducible assumption)))) | omega)
  k_with "mem_go" => first | with_reducible assumption | exact List.Mem.head _ | (refine List.mem_cons_of_mem _ ?_; (k_extra "mem_go"))
  k_with "sub_go" => first | exact fun _ h => h | exact sub_nil | (refine sub_cons ?hSub ?_; (case hSub => (k_extra "mem_go")); (k_extra "sub_go")) | ((fail_if_success (refine sub_cons ?_ ?_)); refine sub_drop ?_; (k_extra "sub_go")) | with_reducible assumption
  k_with "off_go" => first | exact off_nil | with_reducible assumption | (refine off_cons ?hOff ?_; (case hOff => k_ne); (k_extra "off_go")) | exact off_old (by with_reducible assumption) (by (k_extra "sub_go")) | exact off_sub (by with_reducible assumption) (by (k_extra "sub_go"))
  k_with "k_mem" => (k_extra "mem_go")
  k_with "k_all" => (k_extra "off_go")
  trivial
theorem bb_slot : typeLookup (.type "bytes") "__bytes__" = pure (some (.builtin "bytes.__bytes__")) := by rw [typeLookup_type, builtinLookup_eq_fast]; kernel_rfl
theorem bi_no_bytes : typeLookup (.type "int") "__bytes__" = pure none := by rw [typeLookup_type, builtinLookup_eq_fast]; kernel_rfl
theorem bi_index : typeLookup (.type "int") "__index__" = pure (some (.builtin "int.__index__")) := by rw [typeLookup_type, builtinLookup_eq_fast]; kernel_rfl
section
variable {prog : Program} {w : World} {A : Around} {E : Value → Shared → Prop} {s : Shared}
set_option maxRecDepth 100000 in
theorem bb_new {b : Array UInt8} {t : Tok} {Q : Value → Shared → Prop} (hQ : ∀ k, Q (.bytes b t) { s with toks := k }) :
    codeAny (model prog w) A (.call (.builtin "bytes.__new__") ⟨[.type "bytes", .bytes b t], []⟩) (wants Q E) s := by
  refine codeAny_of_tree ?_
  show wpAny _ A.in1 (do checkBuiltinCall "bytes.__new__" ⟨[.type "bytes", .bytes b t], []⟩; again (.builtin "bytes.__new__" ⟨[.type "bytes", .bytes b t], []⟩)) _ _ s
  refine wpAny_bind (wpAny_of_eq (F.bm_newCall _) (wpAny_pure ⟨plainId_quiet F.bm_plain _, codeAny_builtin F.bm_entry ?_⟩))
  rw [Around.under_plainId F.bm_plain _]
  have hT : s.TypeIs (.bytes b t) "bytes" := typeIs_bytes s b t
  unfold Builtin.«bytes.__new__»
  refine wpAny_bind (wpAny_of_eq (a := true) rfl ?_)
  refine bm_if_false rfl ?_
  refine wpAny_bind (wpAny_of_eq F.bm_sub ?_)
  refine bm_if_false rfl ?_
  refine wpAny_bind (wpAny_of_eq (F.bm_bind _) ?_)
  refine wpAny_bind (wpAny_of_eq (a := ()) rfl ?_)
  refine wpAny_bind (wpAny_of_eq (a := ()) rfl ?_)
  refine bm_if_false rfl ?_
  refine wpAny_bind (wpAny_specialOf hT bb_slot ?_)
  dsimp only
  refine wpAny_bind (wpAny_rule ?_)
  refine wpAny_bind (wpAny_typeOf hT ?_)
  refine bm_if_true (by decide) ?_
  refine bm_if_true (by decide) ?_
  first
    | exact wpAny_pure (hQ _)
    | exact wpAny_bind (wpAny_pure (wpAny_pure (hQ _)))
theorem call_bytes_bytes {b : Array UInt8} {t : Tok} {Q : Value → Shared → Prop}
    (hQ : ∀ k, Q (.bytes b t) { s with toks := k }) : wpAny (model prog w) A (call (.type "bytes") [.bytes b t]) Q E s := by
  refine callType_codes (Q₁ := fun obj s₁ => s₁.TypeIs obj "bytes" ∧ Q obj s₁) F.bm_called (F.bm_typeCall _) F.entry_object_init
    (bb_new fun k => ⟨PySem.W.typeIs_bytes _ _ _, hQ k⟩) fun obj s₁ h₁ => ?_
  exact ⟨h₁.1, F.args_object_init_2 obj _, object_init_meets F.bm_called.init.lookup F.bm_called.made (by decide) prog w A.in1 _ s₁ ⟨h₁.1, rfl, h₁.2⟩⟩
set_option maxRecDepth 100000 in
theorem bi_new {t : Tok} {Q : Value → Shared → Prop} (hQ : ∀ k t', Q (.bytes #[0, 0] t') { s with toks := k }) :
    codeAny (model prog w) A (.call (.builtin "bytes.__new__") ⟨[.type "bytes", .int 2 t], []⟩) (wants Q E) s := by
  refine codeAny_of_tree ?_
  show wpAny _ A.in1 (do checkBuiltinCall "bytes.__new__" ⟨[.type "bytes", .int 2 t], []⟩; again (.builtin "bytes.__new__" ⟨[.type "bytes", .int 2 t], []⟩)) _ _ s
  refine wpAny_bind (wpAny_of_eq (F.bm_newCall _) (wpAny_pure ⟨plainId_quiet F.bm_plain _, codeAny_builtin F.bm_entry ?_⟩))
  rw [Around.under_plainId F.bm_plain _]
  have hT : s.TypeIs (.int 2 t) "int" := typeIs_int s 2 t
  unfold Builtin.«bytes.__new__»
  refine wpAny_bind (wpAny_of_eq (a := true) rfl ?_)
  refine bm_if_false rfl ?_
  refine wpAny_bind (wpAny_of_eq F.bm_sub ?_)
  refine bm_if_false rfl ?_
  refine wpAny_bind (wpAny_of_eq (F.bm_bind _) ?_)
  refine wpAny_bind (wpAny_of_eq (a := ()) rfl ?_)
  refine wpAny_bind (wpAny_of_eq (a := ()) rfl ?_)
  refine bm_if_false rfl ?_
  refine wpAny_bind (wpAny_specialOf hT bi_no_bytes ?_)
  dsimp only
  refine wpAny_bind (wpAny_of_eq (a := false) rfl ?_)
  refine bm_if_false rfl ?_
  refine wpAny_bind (wpAny_specialOf hT bi_index ?_)
  refine bm_if_false rfl ?_
  refine wpAny_bind (wpAny_of_eq (a := .ok 2) rfl ?_)
  dsimp only
  refine bm_if_false (by decide +kernel) ?_
  refine wpAny_ite (KBy.ite_no (by decide) ?_)
  refine wpAny_ite (KBy.ite_no (by decide) ?_)
  refine bm_if_false (by decide +kernel) ?_
  refine wpAny_bind (wpAny_rule ?_)
  refine wpAny_bind (wpAny_mkBytes ?_ (by decide +kernel))
  refine bm_if_true (by decide) ?_
  first
    | exact wpAny_pure (hQ _ _)
    | exact wpAny_bind (wpAny_pure (wpAny_pure (hQ _ _)))
theorem call_bytes_two {t : Tok} {Q : Value → Shared → Prop}
    (hQ : ∀ k t', Q (.bytes #[0, 0] t') { s with toks := k }) : wpAny (model prog w) A (call (.type "bytes") [.int 2 t]) Q E s := by
  refine callType_codes (Q₁ := fun obj s₁ => s₁.TypeIs obj "bytes" ∧ Q obj s₁) F.bm_called (F.bm_typeCall _) F.entry_object_init
    (bi_new fun k t' => ⟨PySem.W.typeIs_bytes _ _ _, hQ k t'⟩) fun obj s₁ h₁ => ?_
  exact ⟨h₁.1, F.args_object_init_2 obj _, object_init_meets F.bm_called.init.lookup F.bm_called.made (by decide) prog w A.in1 _ s₁ ⟨h₁.1, rfl, h₁.2⟩⟩
end
-- part B2
theorem wsB2_0 : True := by
  w_top off
  k_with_none
  k_with "ktr_room" => first | exact room1 (by assumption) | exact room3 (by assumption) (Nat.le_of_ble_eq_true rfl) | exact room2 (by assumption) (Nat.le_of_ble_eq_true rfl)
  k_with "ktr_units" => first | exact unit3 (by assumption) (Nat.le_of_ble_eq_true rfl) | exact unit2 (by assumption) (Nat.le_of_ble_eq_true rfl)
  k_with "callWith ref" => (k_here; k_dflt (refine' callWith_K ?cwA ?cwB ?_; (case cwA => k_asm); (case cwB => k_is); k_whole))
  k_with "omega" => first | decide | with_reducible assumption | exact Int.lt_of_le_of_lt (by with_reducible assumption) (by decide) | exact Int.lt_of_lt_of_le (by with_reducible assumption) (by decide) | exact Int.le_trans (by with_reducible assumption) (by decide) | exact lo_tr (by with_reducible assumption) (by decide) | exact lo_le (by with_reducible assumption) (by decide) | exact Nat.le_trans (by with_reducible assumption) (by decide) | exact Nat.lt_of_le_of_lt (by with_reducible assumption) (by decide) | lia
  k_with "k_ne" => (refine neN ?_; (try dsimp only); first | decide | with_reducible assumption | exact Ne.symm (by with_reducible assumption) | (refine Nat.ne_of_gt ?_; (first | with_reducible assumption | exact at1 (by with_reducible assumption) | exact at2 (by with_reducible assumption) | exact at3 (by with_reducible assumption) | exact at4 (by with_reducible assumption) | exact at5 (by with_reducible assumption) | exact at6 (by with_reducible assumption) | exact at7 (by with_reducible assumption) | exact at8 (by with_reducible assumption) | exact up1 (by with_reducible assumption) | exact up2 (by with_reducible assumption) | exact up2 (at1 (by with_reducible assumption)) | exact up2 (at2 (by with_reducible assumption)) | exact up2 (at3 (by with_reducible assumption)) | exact up2 (at4 (by with_reducible assumption)) | exact up1 (at1 (by with_reducible assumption)) | exact up1 (at2 (by with_reducible assumption)) | exact up1 (at3 (by with_reducible assumption)) | exact up1 (at4 (by with_reducible assumption)))) | (refine Nat.ne_of_lt ?_; (first | with_reducible assumption | exact at1 (by with_reducible assumption) | exact at2 (by with_reducible assumption) | exact at3 (by with_reducible assumption) | exact at4 (by with_reducible assumption) | exact at5 (by with_reducible assumption) | exact at6 (by with_reducible assumption) | exact at7 (by with_reducible assumption) | exact at8 (by with_reducible assumption) | exact up1 (by with_reducible assumption) | exact up2 (by with_reducible assumption) | exact up2 (at1 (by with_reducible assumption)) | exact up2 (at2 (by with_reducible assumption)) | exact up2 (at3 (by with_reducible assumption)) | exact up2 (at4 (by with_reducible assumption)) | exact up1 (at1 (by with_reducible assumption)) | exact up1 (at2 (by with_reducible assumption)) | exact up1 (at3 (by with_reducible assumption)) | exact up1 (at4 (by with_reducible assumption)))) | omega)
  k_with "mem_go" => first | with_reducible assumption | exact List.Mem.head _ | (refine List.mem_cons_of_mem _ ?_; (k_extra "mem_go"))
  k_with "sub_go" => first | exact fun _ h => h | exact sub_nil | (refine sub_cons ?hSub ?_; (case hSub => (k_extra "mem_go")); (k_extra "sub_go")) | ((fail_if_success (refine sub_cons ?_ ?_)); refine sub_drop ?_; (k_extra "sub_go")) | with_reducible assumption
  k_with "off_go" => first | exact off_nil | with_reducible assumption | (refine off_cons ?hOff ?_; (case hOff => k_ne); (k_extra "off_go")) | exact off_old (by with_reducible assumption) (by (k_extra "sub_go")) | exact off_sub (by with_reducible assumption) (by (k_extra "sub_go"))
  k_with "k_mem" => (k_extra "mem_go")
  k_with "k_all" => (k_extra "off_go")
  trivial
noncomputable abbrev rdD (P : Params) (k1 k2 : Tok) (b : Array UInt8) (tb : Tok) (a : Int) (ta : Tok) : Obj :=
  dictOf [⟨PyData.keyHash P "octets", .str "octets" k1, .bytes b tb⟩, ⟨PyData.keyHash P "at", .str "at" k2, .int a ta⟩] 2
/-- the fields of an OctetReader over the octets ns, at k -/
noncomputable def Rd (P : Params) (o : Obj) (ns : List Int) (k : Nat) : Prop := ∃ k1 k2 b tb ta, o = rdD P k1 k2 b tb ((k : Nat) : Int) ta ∧ KBw.bInts b = ns
theorem clip_in {n : Nat} {k : Nat} (h : k ≤ n) : clipAt n ((k : Nat) : Int) = k := by
  rw [clipAt_nat]; exact Nat.min_eq_left h
theorem wsB2_1 : True := by
  w_top off
  k_with_none
  k_with "ktr_room" => first | exact room1 (by assumption) | exact room3 (by assumption) (Nat.le_of_ble_eq_true rfl) | exact room2 (by assumption) (Nat.le_of_ble_eq_true rfl)
  k_with "ktr_units" => first | exact unit3 (by assumption) (Nat.le_of_ble_eq_true rfl) | exact unit2 (by assumption) (Nat.le_of_ble_eq_true rfl)
  k_with "callWith ref" => (k_here; k_dflt (refine' callWith_K ?cwA ?cwB ?_; (case cwA => k_asm); (case cwB => k_is); k_whole))
  k_with "omega" => first | decide | with_reducible assumption | exact Int.lt_of_le_of_lt (by with_reducible assumption) (by decide) | exact Int.lt_of_lt_of_le (by with_reducible assumption) (by decide) | exact Int.le_trans (by with_reducible assumption) (by decide) | exact lo_tr (by with_reducible assumption) (by decide) | exact lo_le (by with_reducible assumption) (by decide) | exact Nat.le_trans (by with_reducible assumption) (by decide) | exact Nat.lt_of_le_of_lt (by with_reducible assumption) (by decide) | lia
  k_with "k_ne" => (refine neN ?_; (try dsimp only); first | decide | with_reducible assumption | exact Ne.symm (by with_reducible assumption) | (refine Nat.ne_of_gt ?_; (first | with_reducible assumption | exact at1 (by with_reducible assumption) | exact at2 (by with_reducible assumption) | exact at3 (by with_reducible assumption) | exact at4 (by with_reducible assumption) | exact at5 (by with_reducible assumption) | exact at6 (by with_reducible assumption) | exact at7 (by with_reducible assumption) | exact at8 (by with_reducible assumption) | exact up1 (by with_reducible assumption) | exact up2 (by with_reducible assumption) | exact up2 (at1 (by with_reducible assumption)) | exact up2 (at2 (by with_reducible assumption)) | exact up2 (at3 (by with_reducible assumption)) | exact up2 (at4 (by with_reducible assumption)) | exact up1 (at1 (by with_reducible assumption)) | exact up1 (at2 (by with_reducible assumption)) | exact up1 (at3 (by with_reducible assumption)) | exact up1 (at4 (by with_reducible assumption)))) | (refine Nat.ne_of_lt ?_; (first | with_reducible assumption | exact at1 (by with_reducible assumption) | exact at2 (by with_reducible assumption) | exact at3 (by with_reducible assumption) | exact at4 (by with_reducible assumption) | exact at5 (by with_reducible assumption) | exact at6 (by with_reducible assumption) | exact at7 (by with_reducible assumption) | exact at8 (by with_reducible assumption) | exact up1 (by with_reducible assumption) | exact up2 (by with_reducible assumption) | exact up2 (at1 (by with_reducible assumption)) | exact up2 (at2 (by with_reducible assumption)) | exact up2 (at3 (by with_reducible assumption)) | exact up2 (at4 (by with_reducible assumption)) | exact up1 (at1 (by with_reducible assumption)) | exact up1 (at2 (by with_reducible assumption)) | exact up1 (at3 (by with_reducible assumption)) | exact up1 (at4 (by with_reducible assumption)))) | omega)
  k_with "mem_go" => first | with_reducible assumption | exact List.Mem.head _ | (refine List.mem_cons_of_mem _ ?_; (k_extra "mem_go"))
  k_with "sub_go" => first | exact fun _ h => h | exact sub_nil | (refine sub_cons ?hSub ?_; (case hSub => (k_extra "mem_go")); (k_extra "sub_go")) | ((fail_if_success (refine sub_cons ?_ ?_)); refine sub_drop ?_; (k_extra "sub_go")) | with_reducible assumption
  k_with "off_go" => first | exact off_nil | with_reducible assumption | (refine off_cons ?hOff ?_; (case hOff => k_ne); (k_extra "off_go")) | exact off_old (by with_reducible assumption) (by (k_extra "sub_go")) | exact off_sub (by with_reducible assumption) (by (k_extra "sub_go"))
  k_with "k_mem" => (k_extra "mem_go")
  k_with "k_all" => (k_extra "off_go")
  k_with "call type:bytes" => (k_here; k_dflt (refine call_bytes_bytes ?_); intro _)
  trivial
set_option maxRecDepth 100000 in
set_option maxHeartbeats 8000000 in
theorem left_ct {w : World} {r dx : Addr} {o : Obj} {news : Led} {ns : List Int} {a : Nat} (hr : (r, instObj 129 dx) ∈ news) (hdx : (dx, o) ∈ news) (hO : Rd w.params o ns a) (h3 : ns.length ≤ 100) :
    Ct w 105 [.ref r] news 3 24 (fun v news' => ∃ t, v = .int ((ns.length : Int) - a) t ∧ news' = news) False := by
  intro mean mg mb dp un gd cn cs a' ccd cl outer A₀ base h₀ L m s Q E X B F N T hk hd hu hret _
  obtain ⟨k1, k2, b, tb, ta, rfl, hb⟩ := hO
  refine wpAny_call ?_
  k_dflt cell_enter
  k_steps
  all_goals exact hret _ _ _ _ (by k_asm) (news_sub (by k_asm) (by (k_extra "sub_go"))) ⟨_, rfl, rfl⟩
theorem left_ck {w : World} {r dx : Addr} {o : Obj} {news : Led} {ns : List Int} {a : Nat} (hr : (r, instObj 129 dx) ∈ news) (hdx : (dx, o) ∈ news) (hO : Rd w.params o ns a) (h3 : ns.length ≤ 100) : CtK w 105 [.ref r] news 3 24 (fun φ => ∀ t, φ (.int ((ns.length : Int) - a) t) news) False :=
  (left_ct hr hdx hO h3).k kInt
theorem wsB2_2 : True := by
  k_with "call ref" => (k_here; (with_reducible refine (?_ : wpAny _ _ (call (Value.ref 105) _) _ _ _)); (try dsimp only [List.append_nil]); k_dflt (refine CtK.run0 (by k_asm) (by k_asm) (left_ck (by (k_extra "mem_go")) (by (k_extra "mem_go")) (by assumption) (by assumption)) (by k_asm) (by k_asm) (by k_asm) (by first | rfl | assumption) (by ktr_room) (by ktr_units) (fun t' h' tk' F' N' => ?_)); ((try dsimp only at N')))
  trivial
set_option maxRecDepth 100000 in
set_option maxHeartbeats 8000000 in
theorem takeO_ct {w : World} {r dx : Addr} {o : Obj} {news : Led} {g : Obj → Led} {ns : List Int} {a z : Nat} {sz : Int} {tz : Tok} (hr : (r, instObj 129 dx) ∈ news) (U : UpdF dx o news g) (hO : Rd w.params o ns a) (hz : sz = ((z : Nat) : Int)) (h2 : a + z ≤ ns.length) (h3 : ns.length ≤ 100) :
    Ct w 112 [.ref r, .int sz tz] news 8 60 (fun v news' => ∃ b t o', v = .bytes b t ∧ KBw.bInts b = (ns.drop a).take z ∧ Rd w.params o' ns (a + z) ∧ news' = g o') False := by
  intro mean mg mb dp un gd cn cs a' ccd cl outer A₀ base h₀ L m s Q E X B F N T hk hd hu hret _
  obtain ⟨rest, N0, hne, back⟩ := news_front N U
  obtain ⟨k1, k2, b, tb, ta, rfl, hb⟩ := hO
  subst hz
  have N1 : News h₀ L s.heap ((r, instObj 129 dx) :: (dx, rdD w.params k1 k2 b tb a ta) :: rest) := fun p hp => (List.mem_cons.mp hp).elim (fun e => e ▸ N _ hr) (N0 p)
  have hRd : Rd w.params (rdD w.params k1 k2 b tb a ta) ns a := ⟨k1, k2, b, tb, ta, rfl, hb⟩
  have hrd := news_ne N1 (.head _) (.tail _ (.head _)) (fun e => nomatch e)
  clear N U N0
  refine wpAny_call ?_
  k_dflt cell_enter
  k_steps
  exact hret _ _ _ _ (by k_asm) (back _ _ (News.tl (by k_asm))) ⟨_, _, _, rfl, by
    rename KBw.bInts _ = List.take _ _ => e
    rw [e, ← Int.natCast_add, clip_in h2, Nat.min_eq_left (by omega : a ≤ ns.length), Nat.add_sub_cancel_left], ⟨k1, k2, b, tb, _, rfl, hb⟩, rfl⟩
theorem takeO_ck {w : World} {r dx : Addr} {o : Obj} {news : Led} {g : Obj → Led} {ns : List Int} {a z : Nat} {sz : Int} {tz : Tok} (hr : (r, instObj 129 dx) ∈ news) (U : UpdF dx o news g) (hO : Rd w.params o ns a) (hz : sz = ((z : Nat) : Int)) (h2 : a + z ≤ ns.length) (h3 : ns.length ≤ 100) : CtK w 112 [.ref r, .int sz tz] news 8 60 (fun φ => ∀ b t o', KBw.bInts b = (ns.drop a).take z → Rd w.params o' ns (a + z) → φ (.bytes b t) (g o')) False :=
  (takeO_ct hr U hO hz h2 h3).k fun _ h _ _ ⟨b, t, o', e1, q, r, e2⟩ => by subst e1 e2; exact h b t o' q r
theorem wsB2_3 : True := by
  k_with "call ref" => (k_here; (with_reducible refine (?_ : wpAny _ _ (call (Value.ref 112) _) _ _ _)); (try dsimp only [List.append_nil]); k_dflt (refine CtK.run0 (by k_asm) (by k_asm) (takeO_ck (z := 1) (by (k_extra "mem_go")) (by k_updF) (by assumption) rfl (by assumption) (by assumption)) (by k_asm) (by k_asm) (by k_asm) (by first | rfl | assumption) (by ktr_room) (by ktr_units) (fun _ _ _ bi' rd' h' tk' F' N' => ?_)); ((try dsimp only at N')))
  trivial
set_option maxRecDepth 100000 in
set_option maxHeartbeats 8000000 in
theorem byteO_ct {w : World} {r dx : Addr} {o : Obj} {news : Led} {g : Obj → Led} {ns : List Int} {a : Nat} {x : Int} (hr : (r, instObj 129 dx) ∈ news) (U : UpdF dx o news g) (hO : Rd w.params o ns a) (hx : ns[a]? = some x) (h3 : ns.length ≤ 100) :
    Ct w 119 [.ref r] news 12 80 (fun v news' => ∃ t o', v = .int x t ∧ 0 ≤ x ∧ x < 256 ∧ Rd w.params o' ns (a + 1) ∧ news' = g o') False := by
  intro mean mg mb dp un gd cn cs a' ccd cl outer A₀ base h₀ L m s Q E X B F N T hk hd hu hret _
  have h2 : a + 1 ≤ ns.length := (List.getElem?_eq_some_iff.mp hx).1
  have e : (List.take 1 (ns.drop a)).getD 0 0 = x := by
    rw [List.drop_eq_getElem_cons h2, List.take_succ_cons, List.take_zero, (List.getElem?_eq_some_iff.mp hx).2]; rfl
  obtain ⟨rest, N0, hne, back⟩ := news_front N U
  obtain ⟨k1, k2, b, tb, ta, rfl, hb⟩ := hO
  have N1 : News h₀ L s.heap ((r, instObj 129 dx) :: (dx, rdD w.params k1 k2 b tb a ta) :: rest) := fun p hp => (List.mem_cons.mp hp).elim (fun e => e ▸ N _ hr) (N0 p)
  have hRd : Rd w.params (rdD w.params k1 k2 b tb a ta) ns a := ⟨k1, k2, b, tb, ta, rfl, hb⟩
  have hrd := news_ne N1 (.head _) (.tail _ (.head _)) (fun e => nomatch e)
  clear N U N0 hr
  refine wpAny_call ?_
  k_dflt cell_enter
  k_steps
  refine hret _ _ _ _ (by k_asm) (back _ _ (News.tl (by k_asm))) ⟨_, _, congrArg (Value.int · _) e, ?_, ?_, by assumption, rfl⟩
  · rw [← e]; assumption
  · rw [← e]; assumption
theorem byteO_ck {w : World} {r dx : Addr} {o : Obj} {news : Led} {g : Obj → Led} {ns : List Int} {a : Nat} {x : Int} (hr : (r, instObj 129 dx) ∈ news) (U : UpdF dx o news g) (hO : Rd w.params o ns a) (hx : ns[a]? = some x) (h3 : ns.length ≤ 100) : CtK w 119 [.ref r] news 12 80 (fun φ => ∀ t k1 k2 b tb ta, 0 ≤ x → x < 256 → KBw.bInts b = ns → Rd w.params (rdD w.params k1 k2 b tb ((a + 1 : Nat) : Int) ta) ns (a + 1) → φ (.int x t) (g (rdD w.params k1 k2 b tb ((a + 1 : Nat) : Int) ta))) False :=
  (byteO_ct hr U hO hx h3).k fun _ h _ _ ⟨t, o', e1, q1, q2, r, e2⟩ => by obtain ⟨k1, k2, b, tb, ta, e3, e4⟩ := id r; subst e1 e2 e3; exact h t k1 k2 b tb ta q1 q2 e4 r
theorem wsB2_4 : True := by
  w_top off
  k_with_none
  k_with "ktr_room" => first | exact room1 (by assumption) | exact room3 (by assumption) (Nat.le_of_ble_eq_true rfl) | exact room2 (by assumption) (Nat.le_of_ble_eq_true rfl)
  k_with "ktr_units" => first | exact unit3 (by assumption) (Nat.le_of_ble_eq_true rfl) | exact unit2 (by assumption) (Nat.le_of_ble_eq_true rfl)
  k_with "callWith ref" => (k_here; k_dflt (refine' callWith_K ?cwA ?cwB ?_; (case cwA => k_asm); (case cwB => k_is); k_whole))
  k_with "omega" => first | decide | with_reducible assumption | exact Int.lt_of_le_of_lt (by with_reducible assumption) (by decide) | exact Int.lt_of_lt_of_le (by with_reducible assumption) (by decide) | exact Int.le_trans (by with_reducible assumption) (by decide) | exact lo_tr (by with_reducible assumption) (by decide) | exact lo_le (by with_reducible assumption) (by decide) | exact Nat.le_trans (by with_reducible assumption) (by decide) | exact Nat.lt_of_le_of_lt (by with_reducible assumption) (by decide) | lia
  k_with "k_ne" => (refine neN ?_; (try dsimp only); first | decide | with_reducible assumption | exact Ne.symm (by with_reducible assumption) | (refine Nat.ne_of_gt ?_; (first | with_reducible assumption | exact at1 (by with_reducible assumption) | exact at2 (by with_reducible assumption) | exact at3 (by with_reducible assumption) | exact at4 (by with_reducible assumption) | exact at5 (by with_reducible assumption) | exact at6 (by with_reducible assumption) | exact at7 (by with_reducible assumption) | exact at8 (by with_reducible assumption) | exact up1 (by with_reducible assumption) | exact up2 (by with_reducible assumption) | exact up2 (at1 (by with_reducible assumption)) | exact up2 (at2 (by with_reducible assumption)) | exact up2 (at3 (by with_reducible assumption)) | exact up2 (at4 (by with_reducible assumption)) | exact up1 (at1 (by with_reducible assumption)) | exact up1 (at2 (by with_reducible assumption)) | exact up1 (at3 (by with_reducible assumption)) | exact up1 (at4 (by with_reducible assumption)))) | (refine Nat.ne_of_lt ?_; (first | with_reducible assumption | exact at1 (by with_reducible assumption) | exact at2 (by with_reducible assumption) | exact at3 (by with_reducible assumption) | exact at4 (by with_reducible assumption) | exact at5 (by with_reducible assumption) | exact at6 (by with_reducible assumption) | exact at7 (by with_reducible assumption) | exact at8 (by with_reducible assumption) | exact up1 (by with_reducible assumption) | exact up2 (by with_reducible assumption) | exact up2 (at1 (by with_reducible assumption)) | exact up2 (at2 (by with_reducible assumption)) | exact up2 (at3 (by with_reducible assumption)) | exact up2 (at4 (by with_reducible assumption)) | exact up1 (at1 (by with_reducible assumption)) | exact up1 (at2 (by with_reducible assumption)) | exact up1 (at3 (by with_reducible assumption)) | exact up1 (at4 (by with_reducible assumption)))) | omega)
  k_with "mem_go" => first | with_reducible assumption | exact List.Mem.head _ | (refine List.mem_cons_of_mem _ ?_; (k_extra "mem_go"))
  k_with "sub_go" => first | exact fun _ h => h | exact sub_nil | (refine sub_cons ?hSub ?_; (case hSub => (k_extra "mem_go")); (k_extra "sub_go")) | ((fail_if_success (refine sub_cons ?_ ?_)); refine sub_drop ?_; (k_extra "sub_go")) | with_reducible assumption
  k_with "off_go" => first | exact off_nil | with_reducible assumption | (refine off_cons ?hOff ?_; (case hOff => k_ne); (k_extra "off_go")) | exact off_old (by with_reducible assumption) (by (k_extra "sub_go")) | exact off_sub (by with_reducible assumption) (by (k_extra "sub_go"))
  k_with "k_mem" => (k_extra "mem_go")
  k_with "k_all" => (k_extra "off_go")
  k_with "call ref" => (k_here; (with_reducible refine (?_ : wpAny _ _ (call (Value.ref 112) _) _ _ _)); (try dsimp only [List.append_nil]); k_dflt (refine CtK.run0 (by k_asm) (by k_asm) (takeO_ck (z := 2) (by (k_extra "mem_go")) (by k_updF) (by assumption) rfl (by assumption) (by assumption)) (by k_asm) (by k_asm) (by k_asm) (by first | rfl | assumption) (by ktr_room) (by ktr_units) (fun _ _ _ bi' rd' h' tk' F' N' => ?_)); ((try dsimp only at N')))
  trivial
set_option maxRecDepth 100000 in
set_option maxHeartbeats 8000000 in
theorem wordO_ct {w : World} {r dx : Addr} {o : Obj} {news : Led} {g : Obj → Led} {ns : List Int} {a : Nat} {x y : Int} (hr : (r, instObj 129 dx) ∈ news) (U : UpdF dx o news g) (hO : Rd w.params o ns a) (hx : ns[a]? = some x) (hy : ns[a + 1]? = some y) (h3 : ns.length ≤ 100) :
    Ct w 126 [.ref r] news 12 80 (fun v news' => ∃ t o', v = .int (x * 256 + y) t ∧ (0 ≤ x ∧ x < 256) ∧ (0 ≤ y ∧ y < 256) ∧ Rd w.params o' ns (a + 2) ∧ news' = g o') False := by
  intro mean mg mb dp un gd cn cs a' ccd cl outer A₀ base h₀ L m s Q E X B F N T hk hd hu hret _
  have h2 : a + 2 ≤ ns.length := (List.getElem?_eq_some_iff.mp hy).1
  have e0 : List.take 2 (ns.drop a) = [x, y] := by
    rw [List.drop_eq_getElem_cons (Nat.lt_of_succ_lt h2), List.take_succ_cons, List.drop_eq_getElem_cons h2, List.take_succ_cons, List.take_zero, (List.getElem?_eq_some_iff.mp hx).2, (List.getElem?_eq_some_iff.mp hy).2]
  have e1 : (List.take 2 (ns.drop a)).getD 0 0 = x := by rw [e0]; rfl
  have e2 : (List.take 2 (ns.drop a)).getD 1 0 = y := by rw [e0]; rfl
  obtain ⟨rest, N0, hne, back⟩ := news_front N U
  obtain ⟨k1, k2, b, tb, ta, rfl, hb⟩ := hO
  have N1 : News h₀ L s.heap ((r, instObj 129 dx) :: (dx, rdD w.params k1 k2 b tb a ta) :: rest) := fun p hp => (List.mem_cons.mp hp).elim (fun e => e ▸ N _ hr) (N0 p)
  have hRd : Rd w.params (rdD w.params k1 k2 b tb a ta) ns a := ⟨k1, k2, b, tb, ta, rfl, hb⟩
  have hrd := news_ne N1 (.head _) (.tail _ (.head _)) (fun e => nomatch e)
  clear N U N0 hr
  refine wpAny_call ?_
  k_dflt cell_enter
  k_steps

  refine hret _ _ _ _ (by k_asm) (back _ _ (News.tl (by k_asm))) ⟨_, _, congrArg (Value.int · _) (congr (congrArg (fun p q : Int => p * 256 + q) e1) e2), ⟨?_, ?_⟩, ⟨?_, ?_⟩, by assumption, rfl⟩
  · rw [← e1]; assumption
  · rw [← e1]; assumption
  · rw [← e2]; assumption
  · rw [← e2]; assumption
theorem wordO_ck {w : World} {r dx : Addr} {o : Obj} {news : Led} {g : Obj → Led} {ns : List Int} {a : Nat} {x y : Int} (hr : (r, instObj 129 dx) ∈ news) (U : UpdF dx o news g) (hO : Rd w.params o ns a) (hx : ns[a]? = some x) (hy : ns[a + 1]? = some y) (h3 : ns.length ≤ 100) : CtK w 126 [.ref r] news 12 80 (fun φ => ∀ t k1 k2 b tb ta, (0 ≤ x ∧ x < 256) → (0 ≤ y ∧ y < 256) → KBw.bInts b = ns → Rd w.params (rdD w.params k1 k2 b tb ((a + 2 : Nat) : Int) ta) ns (a + 2) → φ (.int (x * 256 + y) t) (g (rdD w.params k1 k2 b tb ((a + 2 : Nat) : Int) ta))) False :=
  (wordO_ct hr U hO hx hy h3).k fun _ h _ _ ⟨t, o', e1, q1, q2, r, e2⟩ => by obtain ⟨k1, k2, b, tb, ta, e3, e4⟩ := id r; subst e1 e2 e3; exact h t k1 k2 b tb ta q1 q2 e4 r
-- part L1
theorem wsL1_0 : True := by
  w_top off
  k_with_none
  k_with "ktr_room" => first | exact room1 (by assumption) | exact room3 (by assumption) (Nat.le_of_ble_eq_true rfl) | exact room2 (by assumption) (Nat.le_of_ble_eq_true rfl)
  k_with "ktr_units" => first | exact unit3 (by assumption) (Nat.le_of_ble_eq_true rfl) | exact unit2 (by assumption) (Nat.le_of_ble_eq_true rfl)
  k_with "callWith ref" => (k_here; k_dflt (refine' callWith_K ?cwA ?cwB ?_; (case cwA => k_asm); (case cwB => k_is); k_whole))
  k_with "omega" => first | decide | with_reducible assumption | exact Int.lt_of_le_of_lt (by with_reducible assumption) (by decide) | exact Int.lt_of_lt_of_le (by with_reducible assumption) (by decide) | exact Int.le_trans (by with_reducible assumption) (by decide) | exact lo_tr (by with_reducible assumption) (by decide) | exact lo_le (by with_reducible assumption) (by decide) | exact Nat.le_trans (by with_reducible assumption) (by decide) | exact Nat.lt_of_le_of_lt (by with_reducible assumption) (by decide) | lia
  k_with "k_ne" => (refine neN ?_; (try dsimp only); first | decide | with_reducible assumption | exact Ne.symm (by with_reducible assumption) | (refine Nat.ne_of_gt ?_; (first | with_reducible assumption | exact at1 (by with_reducible assumption) | exact at2 (by with_reducible assumption) | exact at3 (by with_reducible assumption) | exact at4 (by with_reducible assumption) | exact at5 (by with_reducible assumption) | exact at6 (by with_reducible assumption) | exact at7 (by with_reducible assumption) | exact at8 (by with_reducible assumption) | exact up1 (by with_reducible assumption) | exact up2 (by with_reducible assumption) | exact up2 (at1 (by with_reducible assumption)) | exact up2 (at2 (by with_reducible assumption)) | exact up2 (at3 (by with_reducible assumption)) | exact up2 (at4 (by with_reducible assumption)) | exact up1 (at1 (by with_reducible assumption)) | exact up1 (at2 (by with_reducible assumption)) | exact up1 (at3 (by with_reducible assumption)) | exact up1 (at4 (by with_reducible assumption)))) | (refine Nat.ne_of_lt ?_; (first | with_reducible assumption | exact at1 (by with_reducible assumption) | exact at2 (by with_reducible assumption) | exact at3 (by with_reducible assumption) | exact at4 (by with_reducible assumption) | exact at5 (by with_reducible assumption) | exact at6 (by with_reducible assumption) | exact at7 (by with_reducible assumption) | exact at8 (by with_reducible assumption) | exact up1 (by with_reducible assumption) | exact up2 (by with_reducible assumption) | exact up2 (at1 (by with_reducible assumption)) | exact up2 (at2 (by with_reducible assumption)) | exact up2 (at3 (by with_reducible assumption)) | exact up2 (at4 (by with_reducible assumption)) | exact up1 (at1 (by with_reducible assumption)) | exact up1 (at2 (by with_reducible assumption)) | exact up1 (at3 (by with_reducible assumption)) | exact up1 (at4 (by with_reducible assumption)))) | omega)
  k_with "mem_go" => first | with_reducible assumption | exact List.Mem.head _ | (refine List.mem_cons_of_mem _ ?_; (k_extra "mem_go"))
  k_with "sub_go" => first | exact fun _ h => h | exact sub_nil | (refine sub_cons ?hSub ?_; (case hSub => (k_extra "mem_go")); (k_extra "sub_go")) | ((fail_if_success (refine sub_cons ?_ ?_)); refine sub_drop ?_; (k_extra "sub_go")) | with_reducible assumption
  k_with "off_go" => first | exact off_nil | with_reducible assumption | (refine off_cons ?hOff ?_; (case hOff => k_ne); (k_extra "off_go")) | exact off_old (by with_reducible assumption) (by (k_extra "sub_go")) | exact off_sub (by with_reducible assumption) (by (k_extra "sub_go"))
  k_with "k_mem" => (k_extra "mem_go")
  k_with "k_all" => (k_extra "off_go")
  trivial
theorem UnrEnd.mono {h₀ : Heap} {L : Addr} {s₁ : Shared} {I : Addr} {it : Obj} {r r' : (Str → Option Value) → List (Addr × Obj) → Prop} {s₂ : Shared} (h : ∀ m n, (∀ p ∈ n, p.1 ≠ I) → r m n → r' m n) (x : UnrEnd h₀ L s₁ I it r s₂) : UnrEnd h₀ L s₁ I it r' s₂ :=
  let ⟨h', tk, m', n', e, F, N, o, q⟩ := x
  ⟨h', tk, m', n', e, F, N, o, h _ _ o q⟩
theorem UnrPost.mono {h₀ : Heap} {L : Addr} {s₁ : Shared} {I : Addr} {it : Obj} {r r' : (Str → Option Value) → List (Addr × Obj) → Prop} {Q : Flow → Shared → Prop} {f : Flow} {s₂ : Shared} (h : ∀ m n, (∀ p ∈ n, p.1 ≠ I) → r m n → r' m n) (x : UnrPost h₀ L s₁ I it r Q f s₂) : UnrPost h₀ L s₁ I it r' Q f s₂ := by
  cases f with
  | ret v => exact x
  | brk => exact x
  | next => exact UnrEnd.mono h x
  | cont => exact UnrEnd.mono h x
/-- a for over a list: by the items that are left -/
theorem list_ind {prog : Program} {w : World} {A : Around} {E : Value → Shared → Prop} {s : Shared} {env : Env} {h₀ : Heap} {x : Str} {body : List Stmt} {Q : Flow → Shared → Prop} {I : Addr} {lp : Addr × Obj} (P : List Value → (Str → Option Value) → List (Addr × Obj) → Prop)
    (hbody : ∀ v r m n, P (v :: r) m n → lp ∈ n → (∀ p ∈ n, p.1 ≠ I) → ∀ (it : Obj) h tk, it.cls = .type "list_iterator" → Fr h₀ env.locals h (fun y => if y = x then some v else m y) → News h₀ env.locals h ((I, it) :: n) →
      wpAny (model prog w) A (execs body env) (UnrPost h₀ env.locals { s with heap := h, toks := tk } I it (fun m' n' => lp ∈ n' ∧ P r m' n') Q) E { s with heap := h, toks := tk })
    (hend : ∀ m n, P [] m n → ∀ h tk, Fr h₀ env.locals h m → News h₀ env.locals h n → Q .next { s with heap := h, toks := tk }) :
    ∀ vs m n, P vs m n → lp ∈ n → (∀ p ∈ n, p.1 ≠ I) → ListRest prog w A E h₀ env x body Q s I lp vs m n
  | [], m, n, p, _, _ => hend m n p
  | v :: r, m, n, p, hl, ho => fun it h tk hc F N => wpAny_mono (hbody v r m n p hl ho it h tk hc F N) (fun f s₂ q => UnrPost.mono (fun m' n' o q => ⟨q.1, list_ind P hbody hend r m' n' q.2 q.1 o⟩) q) fun _ _ e => e
/-- a for over a range: by the turns that are left -/
theorem range_ind {prog : Program} {w : World} {A : Around} {E : Value → Shared → Prop} {s : Shared} {env : Env} {h₀ : Heap} {x : Str} {body : List Stmt} {Q : Flow → Shared → Prop} {I : Addr} {a : Int} {n₀ : Nat} (P : Nat → (Str → Option Value) → List (Addr × Obj) → Prop)
    (hbody : ∀ i m n, i < n₀ → P i m n → (∀ p ∈ n, p.1 ≠ I) → ∀ t h tk, Fr h₀ env.locals h (fun y => if y = x then some (.int (a + (i : Int)) t) else m y) → News h₀ env.locals h ((I, itR (a + ((i + 1 : Nat) : Int)) ((n₀ : Int) - ((i + 1 : Nat) : Int))) :: n) →
      wpAny (model prog w) A (execs body env) (UnrPost h₀ env.locals { s with heap := h, toks := tk } I (itR (a + ((i + 1 : Nat) : Int)) ((n₀ : Int) - ((i + 1 : Nat) : Int))) (P (i + 1)) Q) E { s with heap := h, toks := tk })
    (hend : ∀ m n, P n₀ m n → ∀ h tk, Fr h₀ env.locals h m → News h₀ env.locals h n → Q .next { s with heap := h, toks := tk }) :
    ∀ k i m n, i + k = n₀ → P i m n → (∀ p ∈ n, p.1 ≠ I) → RangeRest prog w A E h₀ env x body Q s I a n₀ k i m n
  | 0, i, m, n, e, p, _ => by
    have e' : i = n₀ := e
    subst e'
    exact hend m n p
  | k + 1, i, m, n, e, p, ho => fun t h tk F N => wpAny_mono (hbody i m n (by omega) p ho t h tk F N) (fun f s₂ q => UnrPost.mono (fun m' n' o q => range_ind P hbody hend k (i + 1) m' n' (by omega) q o) q) fun _ _ e => e
theorem CompEnd.mono {h₀ : Heap} {L : Addr} {m : Str → Option Value} {s₁ : Shared} {I C D : Addr} {oI oC oD : Obj} {S : List (Addr × Obj) → Prop} {r r' : Value → List (Addr × Obj) → Prop} {y : Value} {s₂ : Shared} (h : ∀ n, LCg.Off3 I C D n → S n → r y n → r' y n) (x : LCg.CompEnd h₀ L m s₁ I oI C oC D oD S r y s₂) : LCg.CompEnd h₀ L m s₁ I oI C oC D oD S r' y s₂ :=
  let ⟨h', tk, n', e, F, N, o, hS, q⟩ := x
  ⟨h', tk, n', e, F, N, o, hS, h _ o hS q⟩
/-- a list comprehension: by the turns that are left -/
theorem comp_ind {prog : Program} {w : World} {A : Around} {h₀ : Heap} {L : Addr} {m : Str → Option Value} {env : Env} {elt : Expr} {x : Str} {scope : Scope} {cl : List (Str × Addr)} {s : Shared} {S : List (Addr × Obj) → Prop} {P : Nat → Value → Prop} {Fin : List Value → List (Addr × Obj) → Prop} {n₀ : Nat} (J : Nat → List Value → List (Addr × Obj) → Prop)
    (hbody : ∀ i ys n, i < n₀ → J i ys n → S n → ∀ v I oI C oC D m₂ h tk (E' : Value → Shared → Prop), P i v → LCg.NsObj oC m₂ → m₂ x = some v → Fr h₀ L h m → News h₀ L h ((I, oI) :: (C, oC) :: (D, LCg.lst ys) :: n) → LCg.Off3 I C D n → ((@Ne Nat I C) ∧ (@Ne Nat I D) ∧ (@Ne Nat C D)) →
      wpAny (model prog w) A (eval elt (compEnvC scope cl C env)) (LCg.CompEnd h₀ L m { s with heap := h, toks := tk } I oI C oC D (LCg.lst ys) S (fun y n' => J (i + 1) (ys ++ [y]) n')) E' { s with heap := h, toks := tk })
    (hend : ∀ ys n, J n₀ ys n → S n → Fin ys n) :
    ∀ k i ys n, i + k = n₀ → J i ys n → S n → LCg.CompRest prog w A h₀ L m env elt x scope cl s S P Fin k i ys n
  | 0, i, ys, n, e, j, hS => by
    have e' : i = n₀ := e
    subst e'
    exact hend ys n j hS
  | k + 1, i, ys, n, e, j, hS => fun v I oI C oC D m₂ h tk E' hv hC hx F N o ne => wpAny_mono (hbody i ys n (by omega) j hS v I oI C oC D m₂ h tk E' hv hC hx F N o ne) (fun y s₂ q => CompEnd.mono (fun n' o hS q => comp_ind J hbody hend k (i + 1) (ys ++ [y]) n' (by omega) q hS) q) fun _ _ e => e
theorem len_news {prog : Program} {w : World} {A : Around} {E : Value → Shared → Prop} {s : Shared} {h₀ : Heap} {L : Addr} {news : Led} {l : Addr} {vs : List Value} {c : Nat} {Q : Value → Shared → Prop} (N : News h₀ L s.heap news) (hm : (l, listOf vs.toArray c) ∈ news) {n : Nat} (hn : vs.length = n) (hfit : n ≤ 100)
    (h : ∀ t k, Q (.int ((n : Nat) : Int) t) { s with toks := k }) : wpAny (model prog w) A (call (.builtin "len") [.ref l]) Q E s := by
  subst hn
  have e : (vs.toArray.size : Nat) = vs.length := by simp
  refine len_list (News.isList N hm) (by rw [e]; omega) ?_
  rw [e]
  exact h _ _
theorem upd_upd (m : Str → Option Value) (x : Str) (a b : Option Value) : (fun y => if y = x then b else (fun y => if y = x then a else m y) y) = fun y => if y = x then b else m y := by
  funext y
  by_cases h : y = x <;> simp [h]
theorem upd_self (m : Str → Option Value) (x : Str) : m = fun y => if y = x then m x else m y := by
  funext y
  by_cases h : y = x <;> simp [h]
/-- a for over a list that leaves the ledger as it is -/
theorem list_plain {prog : Program} {w : World} {A : Around} {E : Value → Shared → Prop} {s : Shared} {env : Env} {h₀ : Heap} {x : Str} {body : List Stmt} {Q : Flow → Shared → Prop} {I : Addr} {lp : Addr × Obj} {m₀ : Str → Option Value} {news : List (Addr × Obj)} {vs : List Value} (P : List Value → Prop)
    (hbody : ∀ v r, P (v :: r) → ∀ (it : Obj) h tk, it.cls = .type "list_iterator" → Fr h₀ env.locals h (fun y => if y = x then some v else m₀ y) → News h₀ env.locals h ((I, it) :: news) →
      wpAny (model prog w) A (execs body env) (UnrPost h₀ env.locals { s with heap := h, toks := tk } I it (fun m' n' => n' = news ∧ (∃ lv, m' = fun y => if y = x then lv else m₀ y) ∧ P r) Q) E { s with heap := h, toks := tk })
    (hend : P [] → ∀ lv h tk, Fr h₀ env.locals h (fun y => if y = x then lv else m₀ y) → News h₀ env.locals h news → Q .next { s with heap := h, toks := tk })
    (hl : lp ∈ news) (ho : ∀ p ∈ news, p.1 ≠ I) (h0 : P vs) : ListRest prog w A E h₀ env x body Q s I lp vs m₀ news := by
  refine list_ind (fun r m' n' => n' = news ∧ (∃ lv, m' = fun y => if y = x then lv else m₀ y) ∧ P r) ?_ ?_ vs m₀ news ⟨rfl, ⟨_, upd_self m₀ x⟩, h0⟩ hl ho
  · rintro v r m n ⟨rfl, ⟨lv, rfl⟩, p⟩ hl ho it h tk hc F N
    rw [upd_upd] at F
    exact wpAny_mono (hbody v r p it h tk hc F N) (fun _ _ q => UnrPost.mono (fun m' n' _ q => ⟨by rw [q.1]; exact hl, q⟩) q) fun _ _ e => e
  · rintro m n ⟨rfl, ⟨lv, rfl⟩, p⟩ h tk F N
    exact hend p lv h tk F N
theorem raised_sub {base G : Heap} {l : List Env} {e t : Addr} {cls : Value} {vs : List Value} {news all : List (Addr × Obj)} {h : Heap} (R : RaisedS base G l e cls t vs all h) (hs : ∀ q ∈ news, q ∈ all) : RaisedS base G l e cls t vs news h := by
  obtain ⟨⟨B, hB, h1, hl, hfl, hnew⟩, htup⟩ := R
  exact ⟨⟨B, hB, h1, fun q hq => hl q (hs q hq), hfl, hnew⟩, htup⟩
theorem acc_norm {m : Str → Option Value} {x f : Str} {a b c : Option Value} (hne : f ≠ x) : (fun y => if y = f then a else if y = x then b else if y = f then c else m y) = fun y => if y = x then b else if y = f then a else m y := by
  funext y
  by_cases h : y = f
  · subst h; simp [hne]
  · simp [h]
theorem acc_norm2 {m : Str → Option Value} {x f : Str} {a b c : Option Value} : (fun y => if y = x then b else (fun y => if y = x then a else if y = f then c else m y) y) = fun y => if y = x then b else if y = f then c else m y := by
  funext y
  by_cases h : y = x <;> simp [h]
theorem acc_self {m : Str → Option Value} {x f : Str} {u : Value} (hm : m f = some u) : m = fun y => if y = x then m x else if y = f then some u else m y := by
  funext y
  by_cases h : y = x
  · simp [h]
  · by_cases h2 : y = f
    · subst h2; simp [h, hm]
    · simp [h, h2]
/-- a for over a list that leaves the ledger as it is, and one name beside its own -/
theorem list_acc {prog : Program} {w : World} {A : Around} {E : Value → Shared → Prop} {s : Shared} {env : Env} {h₀ : Heap} {x : Str} {body : List Stmt} {Q : Flow → Shared → Prop} {I : Addr} {lp : Addr × Obj} {m₀ : Str → Option Value} {news : List (Addr × Obj)} {vs : List Value} (f : Str) (P : List Value → Value → Prop)
    (hbody : ∀ v r u, P (v :: r) u → ∀ (it : Obj) h tk, it.cls = .type "list_iterator" → Fr h₀ env.locals h (fun y => if y = x then some v else if y = f then some u else m₀ y) → News h₀ env.locals h ((I, it) :: news) →
      wpAny (model prog w) A (execs body env) (UnrPost h₀ env.locals { s with heap := h, toks := tk } I it (fun m' n' => n' = news ∧ ∃ lv u', m' = (fun y => if y = x then lv else if y = f then some u' else m₀ y) ∧ P r u') Q) E { s with heap := h, toks := tk })
    (hend : ∀ u, P [] u → ∀ lv h tk, Fr h₀ env.locals h (fun y => if y = x then lv else if y = f then some u else m₀ y) → News h₀ env.locals h news → Q .next { s with heap := h, toks := tk })
    (hl : lp ∈ news) (ho : ∀ p ∈ news, p.1 ≠ I) {u₀ : Value} (hm : m₀ f = some u₀) (h0 : P vs u₀) : ListRest prog w A E h₀ env x body Q s I lp vs m₀ news := by
  refine list_ind (fun r m' n' => n' = news ∧ ∃ lv u', m' = (fun y => if y = x then lv else if y = f then some u' else m₀ y) ∧ P r u') ?_ ?_ vs m₀ news ⟨rfl, _, u₀, acc_self hm, h0⟩ hl ho
  · rintro v r m n ⟨rfl, lv, u, rfl, p⟩ hl ho it h tk hc F N
    rw [acc_norm2] at F
    exact wpAny_mono (hbody v r u p it h tk hc F N) (fun _ _ q => UnrPost.mono (fun m' n' _ q => ⟨by rw [q.1]; exact hl, q⟩) q) fun _ _ e => e
  · rintro m n ⟨rfl, lv, u, rfl, p⟩ h tk F N
    exact hend u p lv h tk F N
/-- the same for a range -/
theorem range_acc {prog : Program} {w : World} {A : Around} {E : Value → Shared → Prop} {s : Shared} {env : Env} {h₀ : Heap} {x : Str} {body : List Stmt} {Q : Flow → Shared → Prop} {I : Addr} {a : Int} {n₀ : Nat} {m₀ : Str → Option Value} {news : List (Addr × Obj)} (f : Str) (P : Nat → Value → Prop)
    (hbody : ∀ i u, i < n₀ → P i u → ∀ t h tk, Fr h₀ env.locals h (fun y => if y = x then some (.int (a + (i : Int)) t) else if y = f then some u else m₀ y) → News h₀ env.locals h ((I, itR (a + ((i + 1 : Nat) : Int)) ((n₀ : Int) - ((i + 1 : Nat) : Int))) :: news) →
      wpAny (model prog w) A (execs body env) (UnrPost h₀ env.locals { s with heap := h, toks := tk } I (itR (a + ((i + 1 : Nat) : Int)) ((n₀ : Int) - ((i + 1 : Nat) : Int))) (fun m' n' => n' = news ∧ ∃ lv u', m' = (fun y => if y = x then lv else if y = f then some u' else m₀ y) ∧ P (i + 1) u') Q) E { s with heap := h, toks := tk })
    (hend : ∀ u, P n₀ u → ∀ lv h tk, Fr h₀ env.locals h (fun y => if y = x then lv else if y = f then some u else m₀ y) → News h₀ env.locals h news → Q .next { s with heap := h, toks := tk })
    (ho : ∀ p ∈ news, p.1 ≠ I) {u₀ : Value} (hm : m₀ f = some u₀) (h0 : P 0 u₀) : RangeRest prog w A E h₀ env x body Q s I a n₀ n₀ 0 m₀ news := by
  refine range_ind (fun i m' n' => n' = news ∧ ∃ lv u', m' = (fun y => if y = x then lv else if y = f then some u' else m₀ y) ∧ P i u') ?_ ?_ n₀ 0 m₀ news (Nat.zero_add _) ⟨rfl, _, u₀, acc_self hm, h0⟩ ho
  · rintro i m n hi ⟨rfl, lv, u, rfl, p⟩ ho t h tk F N
    rw [acc_norm2] at F
    exact hbody i u hi p t h tk F N
  · rintro m n ⟨rfl, lv, u, rfl, p⟩ h tk F N
    exact hend u p lv h tk F N
theorem rg_size (n : Nat) : Builtin.Range.rangeSize 0 (n : Int) 1 = (n : Int) := by rw [rangeSize_nat]; omega
theorem rg_small {n : Nat} (h : n ≤ 1000) : Builtin.Range.small 0 (n : Int) 1 = true := small_one (by omega) (by omega) (by omega) (by omega)
theorem ints_get {vs : List Value} {ns : List Int} (h : IntsAre vs ns) {i : Nat} (hi : i < ns.length) : ∃ n t, vs[i]? = some (.int n t) ∧ ns[i]? = some n ∧ n ∈ ns := by
  have hv : i < vs.length := by rw [h.length]; exact hi
  obtain ⟨n, t, e, hn⟩ := h.at i _ (List.getElem?_eq_getElem hv)
  exact ⟨n, t, by rw [List.getElem?_eq_getElem hv, e], hn, List.mem_of_getElem? hn⟩
theorem ints_get3 {v1 v2 v3 : List Value} {n1 n2 n3 : List Int} (h1 : IntsAre v1 n1) (h2 : IntsAre v2 n2) (h3 : IntsAre v3 n3) {i : Nat} (q1 : i < n1.length) (q2 : i < n2.length) (q3 : i < n3.length) {P : Prop}
    (k : ∀ a1 ta a2 tb a3 tc, v1[((0 : Int) + (i : Int)).toNat]? = some (.int a1 ta) → n1[i]? = some a1 → a1 ∈ n1 → v2[((0 : Int) + (i : Int)).toNat]? = some (.int a2 tb) → n2[i]? = some a2 → a2 ∈ n2 → v3[((0 : Int) + (i : Int)).toNat]? = some (.int a3 tc) → n3[i]? = some a3 → a3 ∈ n3 → P) : P := by
  obtain ⟨a1, ta, e1, f1, m1⟩ := ints_get h1 q1
  obtain ⟨a2, tb, e2, f2, m2⟩ := ints_get h2 q2
  obtain ⟨a3, tc, e3, f3, m3⟩ := ints_get h3 q3
  have e : ((0 : Int) + (i : Int)).toNat = i := by omega
  rw [← e] at e1 e2 e3
  exact k a1 ta a2 tb a3 tc e1 f1 m1 e2 f2 m2 e3 f3 m3
/-- a for over a range that leaves the ledger as it is -/
theorem range_plain {prog : Program} {w : World} {A : Around} {E : Value → Shared → Prop} {s : Shared} {env : Env} {h₀ : Heap} {x : Str} {body : List Stmt} {Q : Flow → Shared → Prop} {I : Addr} {a : Int} {n₀ : Nat} {m₀ : Str → Option Value} {news : List (Addr × Obj)} (P : Nat → Prop)
    (hbody : ∀ i, i < n₀ → P i → ∀ t h tk, Fr h₀ env.locals h (fun y => if y = x then some (.int (a + (i : Int)) t) else m₀ y) → News h₀ env.locals h ((I, itR (a + ((i + 1 : Nat) : Int)) ((n₀ : Int) - ((i + 1 : Nat) : Int))) :: news) →
      wpAny (model prog w) A (execs body env) (UnrPost h₀ env.locals { s with heap := h, toks := tk } I (itR (a + ((i + 1 : Nat) : Int)) ((n₀ : Int) - ((i + 1 : Nat) : Int))) (fun m' n' => n' = news ∧ (∃ lv, m' = fun y => if y = x then lv else m₀ y) ∧ P (i + 1)) Q) E { s with heap := h, toks := tk })
    (hend : P n₀ → ∀ lv h tk, Fr h₀ env.locals h (fun y => if y = x then lv else m₀ y) → News h₀ env.locals h news → Q .next { s with heap := h, toks := tk })
    (ho : ∀ p ∈ news, p.1 ≠ I) (h0 : P 0) : RangeRest prog w A E h₀ env x body Q s I a n₀ n₀ 0 m₀ news := by
  refine range_ind (fun i m' n' => n' = news ∧ (∃ lv, m' = fun y => if y = x then lv else m₀ y) ∧ P i) ?_ ?_ n₀ 0 m₀ news (Nat.zero_add _) ⟨rfl, ⟨_, upd_self m₀ x⟩, h0⟩ ho
  · rintro i m n hi ⟨rfl, ⟨lv, rfl⟩, p⟩ ho t h tk F N
    rw [upd_upd] at F
    exact hbody i hi p t h tk F N
  · rintro m n ⟨rfl, ⟨lv, rfl⟩, p⟩ h tk F N
    exact hend p lv h tk F N
theorem nodup_step {ns : List Int} {i : Nat} {a : Int} (h : (ns.take i).Nodup) (f : ns[i]? = some a) (q : ((ns.take i).any fun x => x == a) = false) : (ns.take (i + 1)).Nodup := by
  rw [List.take_add_one, f]
  simp only [Option.toList_some, List.nodup_append, List.nodup_cons, List.not_mem_nil, not_false_eq_true, List.nodup_nil, and_true, true_and]
  refine ⟨h, fun x hx y hy e => ?_⟩
  rw [List.mem_singleton.mp hy] at e
  subst e
  rw [List.any_eq_false] at q
  exact q x hx (by simp)
theorem nodup_not {ns : List Int} {i : Nat} {a : Int} (f : ns[i]? = some a) (q : ((ns.take i).any fun x => x == a) = true) : ¬ ns.Nodup := fun h => by
  obtain ⟨x, hx, e⟩ := List.any_eq_true.mp q
  have e : x = a := by simpa using e
  subst e
  have h2 : (ns.take (i + 1)).Nodup := h.sublist (List.take_sublist _ _)
  rw [List.take_add_one, f] at h2
  simp only [Option.toList_some, List.nodup_append] at h2
  exact h2.2.2 x hx x (by simp) rfl
-- part C5
theorem wsC5_0 : True := by
  w_top off
  k_with_none
  k_with "ktr_room" => first | exact room1 (by assumption) | exact room3 (by assumption) (Nat.le_of_ble_eq_true rfl) | exact room2 (by assumption) (Nat.le_of_ble_eq_true rfl)
  k_with "ktr_units" => first | exact unit3 (by assumption) (Nat.le_of_ble_eq_true rfl) | exact unit2 (by assumption) (Nat.le_of_ble_eq_true rfl)
  k_with "callWith ref" => (k_here; k_dflt (refine' callWith_K ?cwA ?cwB ?_; (case cwA => k_asm); (case cwB => k_is); k_whole))
  k_with "omega" => first | decide | with_reducible assumption | exact Int.lt_of_le_of_lt (by with_reducible assumption) (by decide) | exact Int.lt_of_lt_of_le (by with_reducible assumption) (by decide) | exact Int.le_trans (by with_reducible assumption) (by decide) | exact lo_tr (by with_reducible assumption) (by decide) | exact lo_le (by with_reducible assumption) (by decide) | exact Nat.le_trans (by with_reducible assumption) (by decide) | exact Nat.lt_of_le_of_lt (by with_reducible assumption) (by decide) | lia
  k_with "k_ne" => (refine neN ?_; (try dsimp only); first | decide | with_reducible assumption | exact Ne.symm (by with_reducible assumption) | (refine Nat.ne_of_gt ?_; (first | with_reducible assumption | exact at1 (by with_reducible assumption) | exact at2 (by with_reducible assumption) | exact at3 (by with_reducible assumption) | exact at4 (by with_reducible assumption) | exact at5 (by with_reducible assumption) | exact at6 (by with_reducible assumption) | exact at7 (by with_reducible assumption) | exact at8 (by with_reducible assumption) | exact up1 (by with_reducible assumption) | exact up2 (by with_reducible assumption) | exact up2 (at1 (by with_reducible assumption)) | exact up2 (at2 (by with_reducible assumption)) | exact up2 (at3 (by with_reducible assumption)) | exact up2 (at4 (by with_reducible assumption)) | exact up1 (at1 (by with_reducible assumption)) | exact up1 (at2 (by with_reducible assumption)) | exact up1 (at3 (by with_reducible assumption)) | exact up1 (at4 (by with_reducible assumption)))) | (refine Nat.ne_of_lt ?_; (first | with_reducible assumption | exact at1 (by with_reducible assumption) | exact at2 (by with_reducible assumption) | exact at3 (by with_reducible assumption) | exact at4 (by with_reducible assumption) | exact at5 (by with_reducible assumption) | exact at6 (by with_reducible assumption) | exact at7 (by with_reducible assumption) | exact at8 (by with_reducible assumption) | exact up1 (by with_reducible assumption) | exact up2 (by with_reducible assumption) | exact up2 (at1 (by with_reducible assumption)) | exact up2 (at2 (by with_reducible assumption)) | exact up2 (at3 (by with_reducible assumption)) | exact up2 (at4 (by with_reducible assumption)) | exact up1 (at1 (by with_reducible assumption)) | exact up1 (at2 (by with_reducible assumption)) | exact up1 (at3 (by with_reducible assumption)) | exact up1 (at4 (by with_reducible assumption)))) | omega)
  k_with "mem_go" => first | with_reducible assumption | exact List.Mem.head _ | (refine List.mem_cons_of_mem _ ?_; (k_extra "mem_go"))
  k_with "sub_go" => first | exact fun _ h => h | exact sub_nil | (refine sub_cons ?hSub ?_; (case hSub => (k_extra "mem_go")); (k_extra "sub_go")) | ((fail_if_success (refine sub_cons ?_ ?_)); refine sub_drop ?_; (k_extra "sub_go")) | with_reducible assumption
  k_with "off_go" => first | exact off_nil | with_reducible assumption | (refine off_cons ?hOff ?_; (case hOff => k_ne); (k_extra "off_go")) | exact off_old (by with_reducible assumption) (by (k_extra "sub_go")) | exact off_sub (by with_reducible assumption) (by (k_extra "sub_go"))
  k_with "k_mem" => (k_extra "mem_go")
  k_with "k_all" => (k_extra "off_go")
  trivial
theorem wsC5_1 : True := by
  w_top off
  k_with_none
  k_with "ktr_room" => first | exact room1 (by assumption) | exact room3 (by assumption) (Nat.le_of_ble_eq_true rfl) | exact room2 (by assumption) (Nat.le_of_ble_eq_true rfl)
  k_with "ktr_units" => first | exact unit3 (by assumption) (Nat.le_of_ble_eq_true rfl) | exact unit2 (by assumption) (Nat.le_of_ble_eq_true rfl)
  k_with "callWith ref" => (k_here; k_dflt (refine' callWith_K ?cwA ?cwB ?_; (case cwA => k_asm); (case cwB => k_is); k_whole))
  k_with "omega" => first | decide | with_reducible assumption | exact Int.lt_of_le_of_lt (by with_reducible assumption) (by decide) | exact Int.lt_of_lt_of_le (by with_reducible assumption) (by decide) | exact Int.le_trans (by with_reducible assumption) (by decide) | exact lo_tr (by with_reducible assumption) (by decide) | exact lo_le (by with_reducible assumption) (by decide) | exact Nat.le_trans (by with_reducible assumption) (by decide) | exact Nat.lt_of_le_of_lt (by with_reducible assumption) (by decide) | lia
  k_with "k_ne" => (refine neN ?_; (try dsimp only); first | decide | with_reducible assumption | exact Ne.symm (by with_reducible assumption) | (refine Nat.ne_of_gt ?_; (first | with_reducible assumption | exact at1 (by with_reducible assumption) | exact at2 (by with_reducible assumption) | exact at3 (by with_reducible assumption) | exact at4 (by with_reducible assumption) | exact at5 (by with_reducible assumption) | exact at6 (by with_reducible assumption) | exact at7 (by with_reducible assumption) | exact at8 (by with_reducible assumption) | exact up1 (by with_reducible assumption) | exact up2 (by with_reducible assumption) | exact up2 (at1 (by with_reducible assumption)) | exact up2 (at2 (by with_reducible assumption)) | exact up2 (at3 (by with_reducible assumption)) | exact up2 (at4 (by with_reducible assumption)) | exact up1 (at1 (by with_reducible assumption)) | exact up1 (at2 (by with_reducible assumption)) | exact up1 (at3 (by with_reducible assumption)) | exact up1 (at4 (by with_reducible assumption)))) | (refine Nat.ne_of_lt ?_; (first | with_reducible assumption | exact at1 (by with_reducible assumption) | exact at2 (by with_reducible assumption) | exact at3 (by with_reducible assumption) | exact at4 (by with_reducible assumption) | exact at5 (by with_reducible assumption) | exact at6 (by with_reducible assumption) | exact at7 (by with_reducible assumption) | exact at8 (by with_reducible assumption) | exact up1 (by with_reducible assumption) | exact up2 (by with_reducible assumption) | exact up2 (at1 (by with_reducible assumption)) | exact up2 (at2 (by with_reducible assumption)) | exact up2 (at3 (by with_reducible assumption)) | exact up2 (at4 (by with_reducible assumption)) | exact up1 (at1 (by with_reducible assumption)) | exact up1 (at2 (by with_reducible assumption)) | exact up1 (at3 (by with_reducible assumption)) | exact up1 (at4 (by with_reducible assumption)))) | omega)
  k_with "mem_go" => first | with_reducible assumption | exact List.Mem.head _ | (refine List.mem_cons_of_mem _ ?_; (k_extra "mem_go"))
  k_with "sub_go" => first | exact fun _ h => h | exact sub_nil | (refine sub_cons ?hSub ?_; (case hSub => (k_extra "mem_go")); (k_extra "sub_go")) | ((fail_if_success (refine sub_cons ?_ ?_)); refine sub_drop ?_; (k_extra "sub_go")) | with_reducible assumption
  k_with "off_go" => first | exact off_nil | with_reducible assumption | (refine off_cons ?hOff ?_; (case hOff => k_ne); (k_extra "off_go")) | exact off_old (by with_reducible assumption) (by (k_extra "sub_go")) | exact off_sub (by with_reducible assumption) (by (k_extra "sub_go"))
  k_with "k_mem" => (k_extra "mem_go")
  k_with "k_all" => (k_extra "off_go")
  k_with "call builtin:len" => (k_here; k_dflt (refine len_news (by k_asm) (by (k_extra "mem_go")) (by assumption) (by omega) ?_); intro _ _)
  k_with "call type:range" => (k_here; (with_reducible refine (?_ : wpAny _ _ (call (Value.type "range") [Value.int _ _]) _ _ _)); k_dflt (refine range1_rows (by k_asm) (by k_asm) ?_); intro _ _ _ _ _ rg' F' N' _)
  k_with "exec For Name Call cons nil" => (k_here; (rename Fr _ _ _ _ => lF'); (with_unfolding_all refine' For_invVF lF' ?k1 ?k2 ?_; (case k1 => exact rfl); (case k2 => exact rfl); k_whole))
  k_with "pyIter ref" => (k_here; (with_reducible refine (?_ : wpAny _ _ (pyIter (Value.ref _)) (fun it s₂ => LoopAtV _ _ _ _ _ _ _ _ _ it s₂) _ _)); (with_unfolding_all refine iter_rangeUnr (by rfl) (by assumption) (rg_small (by omega)) (rg_size _) (by k_asm) (by k_asm) ?_); intro i' l1; (try k_lt l1))
  k_with "subscriptTail Name Name ref int" => (k_here; (with_reducible refine (?_ : wpAny _ _ (subscriptTail _ _ (Value.ref _) (Value.int _ _)) _ _ _)); k_dflt (refine item_news (by k_asm) (by (k_extra "mem_go")) (by omega) (by omega) (by assumption) (by with_unfolding_all rfl) ?_))
  trivial
set_option maxRecDepth 100000 in
set_option maxHeartbeats 8000000 in
theorem areUnlike_ct {w : World} {x : Addr} {vs : List Value} {ns : List Int} {c : Nat} {news : Led} (hx : (x, listOf vs.toArray c) ∈ news) (hi : IntsAre vs ns) (h1 : 1 ≤ ns.length) (h4 : ns.length ≤ 4) :
    Ct w 224 [.ref x] news 3 40 (fun v news' => v = .bool (decide ns.Nodup) ∧ news' = news) False := by
  intro mean mg mb dp un gd cn cs a' ccd cl outer A₀ base h₀ L m s Q E X B F N T hk hd hu hret hexc
  have hl := hi.length
  refine wpAny_call ?_
  k_dflt cell_enter
  k_steps
  refine range_plain (fun i => (ns.take i).Nodup) ?_ ?_ (by (k_extra "off_go")) (by simp)
  · intro i hi' hnd tt h tk F2 N2
    obtain ⟨a1, ta, e1, f1, _⟩ := ints_get hi hi'
    have e : ((0 : Int) + (i : Int)).toNat = i := by omega
    rw [← e] at e1
    k_steps
    · rename List.any _ _ = true => q
      rw [e] at q
      exact hret _ _ _ _ (by k_asm) (news_sub (by k_asm) (by (k_extra "sub_go"))) ⟨by rw [decide_eq_false (nodup_not f1 q)], rfl⟩
    · rename List.any _ _ = false => q
      rw [e] at q
      exact UnrEnd.intro (by k_asm) (by k_asm) news (sub_cons (by (k_extra "mem_go")) (by (k_extra "sub_go"))) (by (k_extra "off_go")) ⟨rfl, ⟨_, rfl⟩, nodup_step hnd f1 q⟩
  · intro hnd lv h tk F2 N2
    rw [List.take_of_length_le (Nat.le_refl _)] at hnd
    k_steps
    exact hret _ _ _ _ (by k_asm) (news_sub (by k_asm) (by (k_extra "sub_go"))) ⟨by rw [decide_eq_true hnd], rfl⟩
theorem areUnlike_ck {w : World} {x : Addr} {vs : List Value} {ns : List Int} {c : Nat} {news : Led} (hx : (x, listOf vs.toArray c) ∈ news) (hi : IntsAre vs ns) (h1 : 1 ≤ ns.length) (h4 : ns.length ≤ 4) : CtK w 224 [.ref x] news 3 40 (fun φ => φ (.bool (decide ns.Nodup)) news) False :=
  (areUnlike_ct hx hi h1 h4).k kVal
-- part F1
theorem wsF1_0 : True := by
  w_top off
  k_with_none
  k_with "ktr_room" => first | exact room1 (by assumption) | exact room3 (by assumption) (Nat.le_of_ble_eq_true rfl) | exact room2 (by assumption) (Nat.le_of_ble_eq_true rfl)
  k_with "ktr_units" => first | exact unit3 (by assumption) (Nat.le_of_ble_eq_true rfl) | exact unit2 (by assumption) (Nat.le_of_ble_eq_true rfl)
  k_with "callWith ref" => (k_here; k_dflt (refine' callWith_K ?cwA ?cwB ?_; (case cwA => k_asm); (case cwB => k_is); k_whole))
  k_with "omega" => first | decide | with_reducible assumption | exact Int.lt_of_le_of_lt (by with_reducible assumption) (by decide) | exact Int.lt_of_lt_of_le (by with_reducible assumption) (by decide) | exact Int.le_trans (by with_reducible assumption) (by decide) | exact lo_tr (by with_reducible assumption) (by decide) | exact lo_le (by with_reducible assumption) (by decide) | exact Nat.le_trans (by with_reducible assumption) (by decide) | exact Nat.lt_of_le_of_lt (by with_reducible assumption) (by decide) | lia
  k_with "k_ne" => (refine neN ?_; (try dsimp only); first | decide | with_reducible assumption | exact Ne.symm (by with_reducible assumption) | (refine Nat.ne_of_gt ?_; (first | with_reducible assumption | exact at1 (by with_reducible assumption) | exact at2 (by with_reducible assumption) | exact at3 (by with_reducible assumption) | exact at4 (by with_reducible assumption) | exact at5 (by with_reducible assumption) | exact at6 (by with_reducible assumption) | exact at7 (by with_reducible assumption) | exact at8 (by with_reducible assumption) | exact up1 (by with_reducible assumption) | exact up2 (by with_reducible assumption) | exact up2 (at1 (by with_reducible assumption)) | exact up2 (at2 (by with_reducible assumption)) | exact up2 (at3 (by with_reducible assumption)) | exact up2 (at4 (by with_reducible assumption)) | exact up1 (at1 (by with_reducible assumption)) | exact up1 (at2 (by with_reducible assumption)) | exact up1 (at3 (by with_reducible assumption)) | exact up1 (at4 (by with_reducible assumption)))) | (refine Nat.ne_of_lt ?_; (first | with_reducible assumption | exact at1 (by with_reducible assumption) | exact at2 (by with_reducible assumption) | exact at3 (by with_reducible assumption) | exact at4 (by with_reducible assumption) | exact at5 (by with_reducible assumption) | exact at6 (by with_reducible assumption) | exact at7 (by with_reducible assumption) | exact at8 (by with_reducible assumption) | exact up1 (by with_reducible assumption) | exact up2 (by with_reducible assumption) | exact up2 (at1 (by with_reducible assumption)) | exact up2 (at2 (by with_reducible assumption)) | exact up2 (at3 (by with_reducible assumption)) | exact up2 (at4 (by with_reducible assumption)) | exact up1 (at1 (by with_reducible assumption)) | exact up1 (at2 (by with_reducible assumption)) | exact up1 (at3 (by with_reducible assumption)) | exact up1 (at4 (by with_reducible assumption)))) | omega)
  k_with "mem_go" => first | with_reducible assumption | exact List.Mem.head _ | (refine List.mem_cons_of_mem _ ?_; (k_extra "mem_go"))
  k_with "sub_go" => first | exact fun _ h => h | exact sub_nil | (refine sub_cons ?hSub ?_; (case hSub => (k_extra "mem_go")); (k_extra "sub_go")) | ((fail_if_success (refine sub_cons ?_ ?_)); refine sub_drop ?_; (k_extra "sub_go")) | with_reducible assumption
  k_with "off_go" => first | exact off_nil | with_reducible assumption | (refine off_cons ?hOff ?_; (case hOff => k_ne); (k_extra "off_go")) | exact off_old (by with_reducible assumption) (by (k_extra "sub_go")) | exact off_sub (by with_reducible assumption) (by (k_extra "sub_go"))
  k_with "k_mem" => (k_extra "mem_go")
  k_with "k_all" => (k_extra "off_go")
  trivial
noncomputable abbrev C4 := Int × Int × Int × Int
/-- the ComponentHeads that the values refer to -/
noncomputable def CompsIn (P : Params) (news : Led) : List Value → List C4 → Prop
  | [], [] => True
  | v :: vs, c :: cs => (∃ x dx o, v = .ref x ∧ (x, instObj 150 dx) ∈ news ∧ (dx, o) ∈ news ∧ CompD P o c.1 c.2.1 c.2.2.1 c.2.2.2) ∧ CompsIn P news vs cs
  | _, _ => False
theorem CompsIn.length {P : Params} {news : Led} : ∀ {vs : List Value} {cs : List C4}, CompsIn P news vs cs → vs.length = cs.length
  | [], [], _ => rfl
  | _ :: _, _ :: _, h => congrArg (· + 1) (CompsIn.length h.2)
theorem CompsIn.get {P : Params} {news : Led} : ∀ {vs : List Value} {cs : List C4} {i : Nat} {v : Value}, CompsIn P news vs cs → vs[i]? = some v → ∃ c, cs[i]? = some c ∧ ∃ x dx o, v = .ref x ∧ (x, instObj 150 dx) ∈ news ∧ (dx, o) ∈ news ∧ CompD P o c.1 c.2.1 c.2.2.1 c.2.2.2
  | _ :: _, c :: _, 0, _, h, e => ⟨c, rfl, by cases e; exact h.1⟩
  | _ :: _, _ :: _, _ + 1, _, h, e => by
    rw [List.getElem?_cons_succ] at e ⊢
    exact CompsIn.get h.2 e
theorem ints_snoc {ys : List Value} {ns : List Int} {i : Nat} {n : Int} {t : Tok} (h : IntsAre ys (ns.take i)) (e : ns[i]? = some n) : IntsAre (ys ++ [.int n t]) (ns.take (i + 1)) := by
  rw [List.take_add_one, e]
  exact h.append (by constructor; constructor)
noncomputable abbrev frD (P : Params) (k1 k2 k3 k4 k5 : Tok) (code : Int) (t1 : Tok) (prec : Int) (t2 : Tok) (height : Int) (t3 : Tok) (width : Int) (t4 : Tok) (lx : Addr) : Obj :=
  dictOf [⟨PyData.keyHash P "code", .str "code" k1, .int code t1⟩, ⟨PyData.keyHash P "precision", .str "precision" k2, .int prec t2⟩, ⟨PyData.keyHash P "height", .str "height" k3, .int height t3⟩, ⟨PyData.keyHash P "width", .str "width" k4, .int width t4⟩, ⟨PyData.keyHash P "components", .str "components" k5, .ref lx⟩] 5
noncomputable def FrD (P : Params) (o : Obj) (code prec height width : Int) (lx : Addr) : Prop := ∃ k1 k2 k3 k4 k5 t1 t2 t3 t4, o = frD P k1 k2 k3 k4 k5 code t1 prec t2 height t3 width t4 lx
noncomputable def cOk (c : C4) : Prop := compOk c.1 c.2.1 c.2.2.1 c.2.2.2
noncomputable def frameOk (code prec height width : Int) (cs : List C4) : Prop :=
  isFrame code = true ∧ isPrecision code prec = true ∧ (0 ≤ height ∧ height ≤ 65535) ∧ (1 ≤ width ∧ width ≤ 65535) ∧ 1 ≤ cs.length ∧ (∀ c ∈ cs, cOk c) ∧ (cs.map (·.1)).Nodup
theorem wsF1_1 : True := by
  w_top off
  k_with_none
  k_with "ktr_room" => first | exact room1 (by assumption) | exact room3 (by assumption) (Nat.le_of_ble_eq_true rfl) | exact room2 (by assumption) (Nat.le_of_ble_eq_true rfl)
  k_with "ktr_units" => first | exact unit3 (by assumption) (Nat.le_of_ble_eq_true rfl) | exact unit2 (by assumption) (Nat.le_of_ble_eq_true rfl)
  k_with "callWith ref" => (k_here; k_dflt (refine' callWith_K ?cwA ?cwB ?_; (case cwA => k_asm); (case cwB => k_is); k_whole))
  k_with "omega" => first | decide | with_reducible assumption | exact Int.lt_of_le_of_lt (by with_reducible assumption) (by decide) | exact Int.lt_of_lt_of_le (by with_reducible assumption) (by decide) | exact Int.le_trans (by with_reducible assumption) (by decide) | exact lo_tr (by with_reducible assumption) (by decide) | exact lo_le (by with_reducible assumption) (by decide) | exact Nat.le_trans (by with_reducible assumption) (by decide) | exact Nat.lt_of_le_of_lt (by with_reducible assumption) (by decide) | lia
  k_with "k_ne" => (refine neN ?_; (try dsimp only); first | decide | with_reducible assumption | exact Ne.symm (by with_reducible assumption) | (refine Nat.ne_of_gt ?_; (first | with_reducible assumption | exact at1 (by with_reducible assumption) | exact at2 (by with_reducible assumption) | exact at3 (by with_reducible assumption) | exact at4 (by with_reducible assumption) | exact at5 (by with_reducible assumption) | exact at6 (by with_reducible assumption) | exact at7 (by with_reducible assumption) | exact at8 (by with_reducible assumption) | exact up1 (by with_reducible assumption) | exact up2 (by with_reducible assumption) | exact up2 (at1 (by with_reducible assumption)) | exact up2 (at2 (by with_reducible assumption)) | exact up2 (at3 (by with_reducible assumption)) | exact up2 (at4 (by with_reducible assumption)) | exact up1 (at1 (by with_reducible assumption)) | exact up1 (at2 (by with_reducible assumption)) | exact up1 (at3 (by with_reducible assumption)) | exact up1 (at4 (by with_reducible assumption)))) | (refine Nat.ne_of_lt ?_; (first | with_reducible assumption | exact at1 (by with_reducible assumption) | exact at2 (by with_reducible assumption) | exact at3 (by with_reducible assumption) | exact at4 (by with_reducible assumption) | exact at5 (by with_reducible assumption) | exact at6 (by with_reducible assumption) | exact at7 (by with_reducible assumption) | exact at8 (by with_reducible assumption) | exact up1 (by with_reducible assumption) | exact up2 (by with_reducible assumption) | exact up2 (at1 (by with_reducible assumption)) | exact up2 (at2 (by with_reducible assumption)) | exact up2 (at3 (by with_reducible assumption)) | exact up2 (at4 (by with_reducible assumption)) | exact up1 (at1 (by with_reducible assumption)) | exact up1 (at2 (by with_reducible assumption)) | exact up1 (at3 (by with_reducible assumption)) | exact up1 (at4 (by with_reducible assumption)))) | omega)
  k_with "mem_go" => first | with_reducible assumption | exact List.Mem.head _ | (refine List.mem_cons_of_mem _ ?_; (k_extra "mem_go"))
  k_with "sub_go" => first | exact fun _ h => h | exact sub_nil | (refine sub_cons ?hSub ?_; (case hSub => (k_extra "mem_go")); (k_extra "sub_go")) | ((fail_if_success (refine sub_cons ?_ ?_)); refine sub_drop ?_; (k_extra "sub_go")) | with_reducible assumption
  k_with "off_go" => first | exact off_nil | with_reducible assumption | (refine off_cons ?hOff ?_; (case hOff => k_ne); (k_extra "off_go")) | exact off_old (by with_reducible assumption) (by (k_extra "sub_go")) | exact off_sub (by with_reducible assumption) (by (k_extra "sub_go"))
  k_with "k_mem" => (k_extra "mem_go")
  k_with "k_all" => (k_extra "off_go")
  k_with "leaving ref" => (k_here; refine' leave_onS (by k_asm) (by assumption) (by assumption) (by assumption) ?_; intro h' R' Rk' U'; clear Rk'; (try dsimp only at R' U'))
  k_with "ExcP" => (unfold ExcP; intro e3'; first | exact e3'.elim | (intro e' t' vs' g' h' tk' Fg' U' R'; (try simp only [decide_eq_false_iff_not] at e3'); first | (exfalso; omega; done) | skip))
  k_with "call ref" => (k_here; (with_reducible refine (?_ : wpAny _ _ (call (Value.ref 224) _) _ _ _)); k_dflt (refine CtK.run0 (by k_asm) (by k_asm) (areUnlike_ck (by (k_extra "mem_go")) (by assumption) (by assumption) (by assumption)) (by k_asm) (by k_asm) (by k_asm) (by first | rfl | assumption) (by ktr_room) (by ktr_units) (fun  h' tk' F' N' => ?_)); ((try dsimp only at N')))
  k_with "call ref" => (k_here; (with_reducible refine (?_ : wpAny _ _ (call (Value.ref 77) _) _ _ _)); k_dflt (refine CtK.run0 (by k_asm) (by k_asm) (isFrame_ck) (by k_asm) (by k_asm) (by k_asm) (by first | rfl | assumption) (by ktr_room) (by ktr_units) (fun  h' tk' F' N' => ?_)); ((try dsimp only at N')))
  k_with "call ref" => (k_here; (with_reducible refine (?_ : wpAny _ _ (call (Value.ref 217) _) _ _ _)); k_dflt (refine CtK.run0 (by k_asm) (by k_asm) (isPrecision_ck) (by k_asm) (by k_asm) (by k_asm) (by first | rfl | assumption) (by ktr_room) (by ktr_units) (fun  h' tk' F' N' => ?_)); ((try dsimp only at N')))
  k_with "call ref" => (k_here; (with_reducible refine (?_ : wpAny _ _ (call (Value.ref 203) _) _ _ _)); k_dflt (refine CtK.run (by k_asm) (by k_asm) (want_ck) (by k_asm) (by k_asm) (by k_asm) (by first | rfl | assumption) (by ktr_room) (by ktr_units) (fun e3' h' tk' F' N' => ?_) ?_); case' _ => ((try dsimp only at N'); (try simp only [decide_eq_true_eq] at e3'); first | (exfalso; omega; done) | skip))
  k_with "call ref" => (k_here; (with_reducible refine (?_ : wpAny _ _ (call (Value.ref 231) _) _ _ _)); k_dflt (refine CtK.run (by k_asm) (by k_asm) (checkComp_ck (by (k_extra "mem_go")) (by (k_extra "mem_go")) (by assumption)) (by k_asm) (by k_asm) (by k_asm) (by first | rfl | assumption) (by ktr_room) (by ktr_units) (fun e3' h' tk' F' N' => ?_) ?_); case' _ => ((try dsimp only at N')))
  k_with "call builtin:len" => (k_here; k_dflt (refine len_news (by k_asm) (by (k_extra "mem_go")) (by assumption) (by omega) ?_); intro _ _)
  k_with "exec For Name Attribute cons nil" => (k_here; (rename Fr _ _ _ _ => lF'); (with_unfolding_all refine' For_invVF lF' ?k1 ?k2 ?_; (case k1 => exact rfl); (case k2 => exact rfl); k_whole))
  k_with "pyIter ref" => (k_here; (with_reducible refine (?_ : wpAny _ _ (pyIter (Value.ref _)) (fun it s₂ => LoopAtV _ _ _ _ _ _ _ _ _ it s₂) _ _)); (with_unfolding_all refine iter_listUnr (by rfl) (by k_asm) (by k_asm) (by (k_extra "mem_go")) (by rfl) (by rfl) ?_); intro i' l1)
  k_with "CompSrc" => fail "no"
  k_with "eval ListComp" => (k_here; k_dflt (refine LCg.ListComp_U (F₀ := by k_asm) (by rfl) (by decide) (by rfl) (by decide) (by rfl) ?_))
  trivial
set_option maxRecDepth 100000 in
set_option maxHeartbeats 8000000 in
theorem checkFrame_ct {w : World} {x dx lx : Addr} {o : Obj} {code prec height width : Int} {refs : List Value} {cs : List C4} {c : Nat} {news : Led} (hx : (x, instObj 171 dx) ∈ news) (hdx : (dx, o) ∈ news) (hO : FrD w.params o code prec height width lx) (hl : (lx, listOf refs.toArray c) ∈ news) (hC : CompsIn w.params news refs cs) (h4 : cs.length ≤ 4) :
    Ct w 236 [.ref x] news 20 160 (fun v news' => v = .none ∧ news' = news ∧ frameOk code prec height width cs) (¬ frameOk code prec height width cs) := by
  intro mean mg mb dp un gd cn csc a' ccd cl outer A₀ base h₀ L m s Q E X B F N T hk hd hu hret hexc
  obtain ⟨k1, k2, k3, k4, k5, t1, t2, t3, t4, rfl⟩ := hO
  have hlen := hC.length
  refine wpAny_call ?_
  k_dflt cell_enter
  k_steps
  rotate_left
  iterate 7 exact hexc (by intro ok; obtain ⟨a1, a2, a3, a4, a5, _⟩ := ok; first | omega | (rw [‹isFrame code = false›] at a1; cases a1) | (rw [‹isPrecision code prec = false›] at a2; cases a2)) _ _ _ _ _ _ (by k_asm) (by assumption) (by assumption)
  refine list_plain (fun r => ∃ pre cs', cs = pre ++ cs' ∧ CompsIn w.params news r cs' ∧ ∀ c ∈ pre, cOk c) ?_ ?_ hl (by (k_extra "off_go")) ⟨[], cs, rfl, hC, fun _ h => nomatch h⟩
  · rintro v r ⟨pre, cs', rfl, hC', hpre⟩ it h tk hit F2 N2
    cases cs' with
    | nil => exact hC'.elim
    | cons c1 cs' =>
      obtain ⟨⟨y, dy, oy, rfl, hy, hdy, hCy⟩, hC'⟩ := hC'
      k_steps
      · refine UnrEnd.intro (by k_asm) (by k_asm) news (fun _ h => h) (by (k_extra "off_go")) ⟨rfl, ⟨_, rfl⟩, pre ++ [c1], cs', by simp, hC', ?_⟩
        intro c hc
        rcases List.mem_append.mp hc with hc | hc
        · exact hpre c hc
        · rw [List.mem_singleton.mp hc]
          assumption
      · rename ¬ compOk _ _ _ _ => hn
        exact hexc (fun ok => hn (ok.2.2.2.2.2.1 c1 (by simp))) _ _ _ _ _ _ (by k_asm) (by assumption) (raised_sub (by assumption) (by (k_extra "sub_go")))
  · rintro ⟨pre, cs', rfl, hC', hpre⟩ lv h tk F2 N2
    cases cs' with
    | cons c1 cs' => exact hC'.elim
    | nil =>
      rw [List.append_nil] at *
      k_steps
      refine LCg.CompSrc.ledger (by rfl) (by k_asm) (by k_asm) (by (k_extra "mem_go")) (by rw [List.size_toArray, sizeLine_eq]; omega) ?_
      intro g
      refine comp_ind (n₀ := refs.toArray.size) (fun i ys n => news = n ∧ IntsAre ys ((pre.map (·.1)).take i)) ?_ ?_ _ 0 [] news (Nat.zero_add _) ⟨rfl, by simpa using IntsAre.nil⟩ (Or.inr ⟨_, hl, rfl, _, rfl⟩)
      · rintro i ys n hi ⟨rfl, hI⟩ hS v I oI C oC D m₂ h' tk' E' hv hC2 hx2 F3 N3 hoff hne
        obtain ⟨c1, hc1, y, dy, oy, rfl, hy, hdy, k1', k2', k3', k4', t1', t2', t3', t4', rfl⟩ := hC.get (by simpa using hv)
        k_steps
        exact LCg.CompEnd.intro (by k_asm) (by k_asm) news (fun _ h => h) (by assumption) (by assumption) ⟨rfl, ints_snoc hI (by rw [List.getElem?_map, hc1]; rfl)⟩
      · rintro ys n ⟨rfl, hI⟩ hS
        have hI' : IntsAre ys (pre.map (·.1)) := by
          rw [List.take_of_length_le (by rw [List.size_toArray, List.length_map]; omega)] at hI
          exact hI
        have hz1 : 1 ≤ (pre.map (·.1)).length := by rw [List.length_map]; omega
        have hz2 : (pre.map (·.1)).length ≤ 4 := by rw [List.length_map]; omega
        k_steps
        · exact hret _ _ _ _ (by k_asm) (News.tl (by k_asm)) ⟨rfl, rfl, by assumption, by assumption, ⟨by assumption, by assumption⟩, ⟨by assumption, by assumption⟩, by omega, hpre, by assumption⟩
        · rename ¬ List.Nodup _ => hn
          exact hexc (fun ok => hn ok.2.2.2.2.2.2) _ _ _ _ _ _ (by k_asm) (by assumption) (raised_sub (by assumption) (by (k_extra "sub_go")))
theorem checkFrame_ck {w : World} {x dx lx : Addr} {o : Obj} {code prec height width : Int} {refs : List Value} {cs : List C4} {c : Nat} {news : Led} (hx : (x, instObj 171 dx) ∈ news) (hdx : (dx, o) ∈ news) (hO : FrD w.params o code prec height width lx) (hl : (lx, listOf refs.toArray c) ∈ news) (hC : CompsIn w.params news refs cs) (h4 : cs.length ≤ 4) : CtK w 236 [.ref x] news 20 160 (fun φ => frameOk code prec height width cs → φ .none news) (¬ frameOk code prec height width cs) :=
  (checkFrame_ct hx hdx hO hl hC h4).k kValP
-- part F2
theorem wsF2_0 : True := by
  w_top off
  k_with_none
  k_with "ktr_room" => first | exact room1 (by assumption) | exact room3 (by assumption) (Nat.le_of_ble_eq_true rfl) | exact room2 (by assumption) (Nat.le_of_ble_eq_true rfl)
  k_with "ktr_units" => first | exact unit3 (by assumption) (Nat.le_of_ble_eq_true rfl) | exact unit2 (by assumption) (Nat.le_of_ble_eq_true rfl)
  k_with "callWith ref" => (k_here; k_dflt (refine' callWith_K ?cwA ?cwB ?_; (case cwA => k_asm); (case cwB => k_is); k_whole))
  k_with "omega" => first | decide | with_reducible assumption | exact Int.lt_of_le_of_lt (by with_reducible assumption) (by decide) | exact Int.lt_of_lt_of_le (by with_reducible assumption) (by decide) | exact Int.le_trans (by with_reducible assumption) (by decide) | exact lo_tr (by with_reducible assumption) (by decide) | exact lo_le (by with_reducible assumption) (by decide) | exact Nat.le_trans (by with_reducible assumption) (by decide) | exact Nat.lt_of_le_of_lt (by with_reducible assumption) (by decide) | lia
  k_with "k_ne" => (refine neN ?_; (try dsimp only); first | decide | with_reducible assumption | exact Ne.symm (by with_reducible assumption) | (refine Nat.ne_of_gt ?_; (first | with_reducible assumption | exact at1 (by with_reducible assumption) | exact at2 (by with_reducible assumption) | exact at3 (by with_reducible assumption) | exact at4 (by with_reducible assumption) | exact at5 (by with_reducible assumption) | exact at6 (by with_reducible assumption) | exact at7 (by with_reducible assumption) | exact at8 (by with_reducible assumption) | exact up1 (by with_reducible assumption) | exact up2 (by with_reducible assumption) | exact up2 (at1 (by with_reducible assumption)) | exact up2 (at2 (by with_reducible assumption)) | exact up2 (at3 (by with_reducible assumption)) | exact up2 (at4 (by with_reducible assumption)) | exact up1 (at1 (by with_reducible assumption)) | exact up1 (at2 (by with_reducible assumption)) | exact up1 (at3 (by with_reducible assumption)) | exact up1 (at4 (by with_reducible assumption)))) | (refine Nat.ne_of_lt ?_; (first | with_reducible assumption | exact at1 (by with_reducible assumption) | exact at2 (by with_reducible assumption) | exact at3 (by with_reducible assumption) | exact at4 (by with_reducible assumption) | exact at5 (by with_reducible assumption) | exact at6 (by with_reducible assumption) | exact at7 (by with_reducible assumption) | exact at8 (by with_reducible assumption) | exact up1 (by with_reducible assumption) | exact up2 (by with_reducible assumption) | exact up2 (at1 (by with_reducible assumption)) | exact up2 (at2 (by with_reducible assumption)) | exact up2 (at3 (by with_reducible assumption)) | exact up2 (at4 (by with_reducible assumption)) | exact up1 (at1 (by with_reducible assumption)) | exact up1 (at2 (by with_reducible assumption)) | exact up1 (at3 (by with_reducible assumption)) | exact up1 (at4 (by with_reducible assumption)))) | omega)
  k_with "mem_go" => first | with_reducible assumption | exact List.Mem.head _ | (refine List.mem_cons_of_mem _ ?_; (k_extra "mem_go"))
  k_with "sub_go" => first | exact fun _ h => h | exact sub_nil | (refine sub_cons ?hSub ?_; (case hSub => (k_extra "mem_go")); (k_extra "sub_go")) | ((fail_if_success (refine sub_cons ?_ ?_)); refine sub_drop ?_; (k_extra "sub_go")) | with_reducible assumption
  k_with "off_go" => first | exact off_nil | with_reducible assumption | (refine off_cons ?hOff ?_; (case hOff => k_ne); (k_extra "off_go")) | exact off_old (by with_reducible assumption) (by (k_extra "sub_go")) | exact off_sub (by with_reducible assumption) (by (k_extra "sub_go"))
  k_with "k_mem" => (k_extra "mem_go")
  k_with "k_all" => (k_extra "off_go")
  trivial
noncomputable def compOct (c : C4) : List Int := [c.1, c.2.1 * 16 + c.2.2.1, c.2.2.2]
noncomputable def frameOct (prec height width : Int) (cs : List C4) : List Int :=
  [prec, height / 256, height % 256, width / 256, width % 256, (cs.length : Int)] ++ cs.flatMap compOct
theorem flat_len : ∀ (cs : List C4), (cs.flatMap compOct).length = 3 * cs.length
  | [] => rfl
  | c :: cs => by rw [List.flatMap_cons, List.length_append, flat_len cs, List.length_cons]; show 3 + _ = _; omega
theorem prec_in {code prec : Int} (h : isPrecision code prec = true) : 2 ≤ prec ∧ prec ≤ 16 := by
  unfold isPrecision at h
  split at h <;> simp at h <;> omega
theorem wsF2_1 : True := by
  w_top off
  k_with_none
  k_with "ktr_room" => first | exact room1 (by assumption) | exact room3 (by assumption) (Nat.le_of_ble_eq_true rfl) | exact room2 (by assumption) (Nat.le_of_ble_eq_true rfl)
  k_with "ktr_units" => first | exact unit3 (by assumption) (Nat.le_of_ble_eq_true rfl) | exact unit2 (by assumption) (Nat.le_of_ble_eq_true rfl)
  k_with "callWith ref" => (k_here; k_dflt (refine' callWith_K ?cwA ?cwB ?_; (case cwA => k_asm); (case cwB => k_is); k_whole))
  k_with "omega" => first | decide | with_reducible assumption | exact Int.lt_of_le_of_lt (by with_reducible assumption) (by decide) | exact Int.lt_of_lt_of_le (by with_reducible assumption) (by decide) | exact Int.le_trans (by with_reducible assumption) (by decide) | exact lo_tr (by with_reducible assumption) (by decide) | exact lo_le (by with_reducible assumption) (by decide) | exact Nat.le_trans (by with_reducible assumption) (by decide) | exact Nat.lt_of_le_of_lt (by with_reducible assumption) (by decide) | lia
  k_with "k_ne" => (refine neN ?_; (try dsimp only); first | decide | with_reducible assumption | exact Ne.symm (by with_reducible assumption) | (refine Nat.ne_of_gt ?_; (first | with_reducible assumption | exact at1 (by with_reducible assumption) | exact at2 (by with_reducible assumption) | exact at3 (by with_reducible assumption) | exact at4 (by with_reducible assumption) | exact at5 (by with_reducible assumption) | exact at6 (by with_reducible assumption) | exact at7 (by with_reducible assumption) | exact at8 (by with_reducible assumption) | exact up1 (by with_reducible assumption) | exact up2 (by with_reducible assumption) | exact up2 (at1 (by with_reducible assumption)) | exact up2 (at2 (by with_reducible assumption)) | exact up2 (at3 (by with_reducible assumption)) | exact up2 (at4 (by with_reducible assumption)) | exact up1 (at1 (by with_reducible assumption)) | exact up1 (at2 (by with_reducible assumption)) | exact up1 (at3 (by with_reducible assumption)) | exact up1 (at4 (by with_reducible assumption)))) | (refine Nat.ne_of_lt ?_; (first | with_reducible assumption | exact at1 (by with_reducible assumption) | exact at2 (by with_reducible assumption) | exact at3 (by with_reducible assumption) | exact at4 (by with_reducible assumption) | exact at5 (by with_reducible assumption) | exact at6 (by with_reducible assumption) | exact at7 (by with_reducible assumption) | exact at8 (by with_reducible assumption) | exact up1 (by with_reducible assumption) | exact up2 (by with_reducible assumption) | exact up2 (at1 (by with_reducible assumption)) | exact up2 (at2 (by with_reducible assumption)) | exact up2 (at3 (by with_reducible assumption)) | exact up2 (at4 (by with_reducible assumption)) | exact up1 (at1 (by with_reducible assumption)) | exact up1 (at2 (by with_reducible assumption)) | exact up1 (at3 (by with_reducible assumption)) | exact up1 (at4 (by with_reducible assumption)))) | omega)
  k_with "mem_go" => first | with_reducible assumption | exact List.Mem.head _ | (refine List.mem_cons_of_mem _ ?_; (k_extra "mem_go"))
  k_with "sub_go" => first | exact fun _ h => h | exact sub_nil | (refine sub_cons ?hSub ?_; (case hSub => (k_extra "mem_go")); (k_extra "sub_go")) | ((fail_if_success (refine sub_cons ?_ ?_)); refine sub_drop ?_; (k_extra "sub_go")) | with_reducible assumption
  k_with "off_go" => first | exact off_nil | with_reducible assumption | (refine off_cons ?hOff ?_; (case hOff => k_ne); (k_extra "off_go")) | exact off_old (by with_reducible assumption) (by (k_extra "sub_go")) | exact off_sub (by with_reducible assumption) (by (k_extra "sub_go"))
  k_with "k_mem" => (k_extra "mem_go")
  k_with "k_all" => (k_extra "off_go")
  k_with "leaving ref" => (k_here; refine' leave_onS (by k_asm) (by assumption) (by assumption) (by assumption) ?_; intro h' R' Rk' U'; clear Rk'; (try dsimp only at R' U'))
  k_with "ExcP" => (unfold ExcP; intro e3'; first | exact e3'.elim | (intro e' t' vs' g' h' tk' Fg' U' R'))
  k_with "call ref" => (k_here; (with_reducible refine (?_ : wpAny _ _ (call (Value.ref 236) _) _ _ _)); k_dflt (refine CtK.run (by k_asm) (by k_asm) (checkFrame_ck (by (k_extra "mem_go")) (by (k_extra "mem_go")) (by assumption) (by (k_extra "mem_go")) (by assumption) (by assumption)) (by k_asm) (by k_asm) (by k_asm) (by first | rfl | assumption) (by ktr_room) (by ktr_units) (fun ok' h' tk' F' N' => ?_) ?_); case' _ => ((try dsimp only at N'); obtain ⟨ok1, ok2, ok3, ok4, ok5, ok6, ok7⟩ := (id ok' : frameOk _ _ _ _ _); have ok2' := prec_in ok2))
  k_with "call ref" => (k_here; (with_reducible refine (?_ : wpAny _ _ (call (Value.ref 84) _) _ _ _)); k_dflt (refine CtK.run0 (by k_asm) (by k_asm) (word_ck (by omega) (by omega)) (by k_asm) (by k_asm) (by k_asm) (by first | rfl | assumption) (by ktr_room) (by ktr_units) (fun b' u' bi' h' tk' F' N' => ?_)); ((try dsimp only at N')))
  k_with "call builtin:len" => (k_here; k_dflt (refine len_news (by k_asm) (by (k_extra "mem_go")) (by assumption) (by omega) ?_); intro _ _)
  k_with "exec For Name Attribute cons nil" => (k_here; (rename Fr _ _ _ _ => lF'); (with_unfolding_all refine' For_invVF lF' ?k1 ?k2 ?_; (case k1 => exact rfl); (case k2 => exact rfl); k_whole))
  k_with "pyIter ref" => (k_here; (with_reducible refine (?_ : wpAny _ _ (pyIter (Value.ref _)) (fun it s₂ => LoopAtV _ _ _ _ _ _ _ _ _ it s₂) _ _)); (with_unfolding_all refine iter_listUnr (by rfl) (by k_asm) (by k_asm) (by (k_extra "mem_go")) (by rfl) (by rfl) ?_); intro i' l1)
  k_with "call type:bytes" => (k_here; (with_reducible refine (?_ : wpAny _ _ (call (Value.type "bytes") [Value.ref _]) _ _ _)); k_dflt (refine' KBa.make_K ?kbaF ?kbaN ?kbah ?kbal ?kbai ?kbar ?kban ?_; (case kbaF => k_asm); (case kbaN => k_asm); (case kbah => rfl); (case kbal => kba_isList); (case kbai => kba_listInts); (case kbar => ((repeat' (first | exact inB_nil | refine inB_cons ?_ ?_ ?_)) <;> omega)); (case kban => exact Nat.le_of_ble_eq_true rfl)); intro _ _ _ F' N' kbaIn)
  k_with "binaryOp Add bytes bytes" => (k_here; (with_reducible refine (?_ : wpAny _ _ (binaryOp Operator.Add (Value.bytes _ _) (Value.bytes _ _)) _ _ _)); (refine KBa.add_K (by kba_ints) (by kba_ints2) (by simp only [List.length_append, flat_len, List.length_cons, List.length_nil] at *; omega) ?_); intro _ _ kbaApp)
  trivial
set_option maxRecDepth 100000 in
set_option maxHeartbeats 8000000 in
theorem writeFrame_ct {w : World} {x dx lx : Addr} {o : Obj} {code prec height width : Int} {refs : List Value} {cs : List C4} {c : Nat} {news : Led} (hx : (x, instObj 171 dx) ∈ news) (hdx : (dx, o) ∈ news) (hO : FrD w.params o code prec height width lx) (hl : (lx, listOf refs.toArray c) ∈ news) (hC : CompsIn w.params news refs cs) (h4 : cs.length ≤ 4) :
    Ct w 250 [.ref x] news 24 220 (fun v news' => (∃ b t, v = .bytes b t ∧ KBw.bInts b = frameOct prec height width cs) ∧ news' = news ∧ frameOk code prec height width cs) (¬ frameOk code prec height width cs) := by
  intro mean mg mb dp un gd cn csc a' ccd cl outer A₀ base h₀ L m s Q E X B F N T hk hd hu hret hexc
  have hO' := hO
  obtain ⟨k1, k2, k3, k4, k5, t1, t2, t3, t4, rfl⟩ := hO
  have hlen := hC.length
  refine wpAny_call ?_
  k_dflt cell_enter
  k_steps
  rotate_left
  · exact hexc (by assumption) _ _ _ _ _ _ (by k_asm) (by assumption) (by assumption)
  refine list_acc (Str.ofString "found") (fun r u => ∃ b t pre cs', u = .bytes b t ∧ cs = pre ++ cs' ∧ CompsIn w.params news r cs' ∧ KBw.bInts b = [prec, height / 256, height % 256, width / 256, width % 256, (cs.length : Int)] ++ pre.flatMap compOct) ?_ ?_ (by (k_extra "mem_go")) (by (k_extra "off_go")) (by rfl) ⟨_, _, [], cs, rfl, rfl, hC, by assumption⟩
  · rintro v r u ⟨b, t, pre, cs', rfl, rfl, hC', hb⟩ it h tk hit F2 N2
    cases cs' with
    | nil => exact hC'.elim
    | cons c1 cs' =>
      obtain ⟨⟨y, dy, oy, rfl, hy, hdy, k1', k2', k3', k4', t1', t2', t3', t4', rfl⟩, hC'⟩ := hC'
      obtain ⟨ca, cb, cc, cd, ce⟩ := ok6 c1 (by simp)
      k_steps
      exact UnrEnd.intro (by k_asm) (by k_asm) _ (sub_cons (by (k_extra "mem_go")) (by (k_extra "sub_go"))) (by (k_extra "off_go")) ⟨rfl, _, _, acc_norm (by decide), _, _, pre ++ [c1], cs', rfl, by simp, hC', by
        rename KBw.bInts (b ++ _) = _ => e
        rw [e, List.flatMap_append, List.append_assoc]
        rfl⟩
  · rintro u ⟨b, t, pre, cs', rfl, rfl, hC', hb⟩ lv h tk F2 N2
    cases cs' with
    | cons c1 cs' => exact hC'.elim
    | nil =>
      rw [List.append_nil] at *
      k_steps
      exact hret _ _ _ _ (by k_asm) (news_sub (by k_asm) (by (k_extra "sub_go"))) ⟨⟨_, _, rfl, hb⟩, rfl, ok'⟩
theorem writeFrame_ck {w : World} {x dx lx : Addr} {o : Obj} {code prec height width : Int} {refs : List Value} {cs : List C4} {c : Nat} {news : Led} (hx : (x, instObj 171 dx) ∈ news) (hdx : (dx, o) ∈ news) (hO : FrD w.params o code prec height width lx) (hl : (lx, listOf refs.toArray c) ∈ news) (hC : CompsIn w.params news refs cs) (h4 : cs.length ≤ 4) : CtK w 250 [.ref x] news 24 220 (fun φ => ∀ b t, KBw.bInts b = frameOct prec height width cs → frameOk code prec height width cs → φ (.bytes b t) news) (¬ frameOk code prec height width cs) :=
  (writeFrame_ct hx hdx hO hl hC h4).k kBytesP
-- part N1
theorem wsN1_0 : True := by
  w_top off
  k_with_none
  k_with "ktr_room" => first | exact room1 (by assumption) | exact room3 (by assumption) (Nat.le_of_ble_eq_true rfl) | exact room2 (by assumption) (Nat.le_of_ble_eq_true rfl)
  k_with "ktr_units" => first | exact unit3 (by assumption) (Nat.le_of_ble_eq_true rfl) | exact unit2 (by assumption) (Nat.le_of_ble_eq_true rfl)
  k_with "callWith ref" => (k_here; k_dflt (refine' callWith_K ?cwA ?cwB ?_; (case cwA => k_asm); (case cwB => k_is); k_whole))
  k_with "omega" => first | decide | with_reducible assumption | exact Int.lt_of_le_of_lt (by with_reducible assumption) (by decide) | exact Int.lt_of_lt_of_le (by with_reducible assumption) (by decide) | exact Int.le_trans (by with_reducible assumption) (by decide) | exact lo_tr (by with_reducible assumption) (by decide) | exact lo_le (by with_reducible assumption) (by decide) | exact Nat.le_trans (by with_reducible assumption) (by decide) | exact Nat.lt_of_le_of_lt (by with_reducible assumption) (by decide) | lia
  k_with "k_ne" => (refine neN ?_; (try dsimp only); first | decide | with_reducible assumption | exact Ne.symm (by with_reducible assumption) | (refine Nat.ne_of_gt ?_; (first | with_reducible assumption | exact at1 (by with_reducible assumption) | exact at2 (by with_reducible assumption) | exact at3 (by with_reducible assumption) | exact at4 (by with_reducible assumption) | exact at5 (by with_reducible assumption) | exact at6 (by with_reducible assumption) | exact at7 (by with_reducible assumption) | exact at8 (by with_reducible assumption) | exact up1 (by with_reducible assumption) | exact up2 (by with_reducible assumption) | exact up2 (at1 (by with_reducible assumption)) | exact up2 (at2 (by with_reducible assumption)) | exact up2 (at3 (by with_reducible assumption)) | exact up2 (at4 (by with_reducible assumption)) | exact up1 (at1 (by with_reducible assumption)) | exact up1 (at2 (by with_reducible assumption)) | exact up1 (at3 (by with_reducible assumption)) | exact up1 (at4 (by with_reducible assumption)))) | (refine Nat.ne_of_lt ?_; (first | with_reducible assumption | exact at1 (by with_reducible assumption) | exact at2 (by with_reducible assumption) | exact at3 (by with_reducible assumption) | exact at4 (by with_reducible assumption) | exact at5 (by with_reducible assumption) | exact at6 (by with_reducible assumption) | exact at7 (by with_reducible assumption) | exact at8 (by with_reducible assumption) | exact up1 (by with_reducible assumption) | exact up2 (by with_reducible assumption) | exact up2 (at1 (by with_reducible assumption)) | exact up2 (at2 (by with_reducible assumption)) | exact up2 (at3 (by with_reducible assumption)) | exact up2 (at4 (by with_reducible assumption)) | exact up1 (at1 (by with_reducible assumption)) | exact up1 (at2 (by with_reducible assumption)) | exact up1 (at3 (by with_reducible assumption)) | exact up1 (at4 (by with_reducible assumption)))) | omega)
  k_with "mem_go" => first | with_reducible assumption | exact List.Mem.head _ | (refine List.mem_cons_of_mem _ ?_; (k_extra "mem_go"))
  k_with "sub_go" => first | exact fun _ h => h | exact sub_nil | (refine sub_cons ?hSub ?_; (case hSub => (k_extra "mem_go")); (k_extra "sub_go")) | ((fail_if_success (refine sub_cons ?_ ?_)); refine sub_drop ?_; (k_extra "sub_go")) | with_reducible assumption
  k_with "off_go" => first | exact off_nil | with_reducible assumption | (refine off_cons ?hOff ?_; (case hOff => k_ne); (k_extra "off_go")) | exact off_old (by with_reducible assumption) (by (k_extra "sub_go")) | exact off_sub (by with_reducible assumption) (by (k_extra "sub_go"))
  k_with "k_mem" => (k_extra "mem_go")
  k_with "k_all" => (k_extra "off_go")
  trivial
theorem wsN1_1 : True := by
  w_top off
  k_with_none
  k_with "ktr_room" => first | exact room1 (by assumption) | exact room3 (by assumption) (Nat.le_of_ble_eq_true rfl) | exact room2 (by assumption) (Nat.le_of_ble_eq_true rfl)
  k_with "ktr_units" => first | exact unit3 (by assumption) (Nat.le_of_ble_eq_true rfl) | exact unit2 (by assumption) (Nat.le_of_ble_eq_true rfl)
  k_with "callWith ref" => (k_here; k_dflt (refine' callWith_K ?cwA ?cwB ?_; (case cwA => k_asm); (case cwB => k_is); k_whole))
  k_with "omega" => first | decide | with_reducible assumption | exact Int.lt_of_le_of_lt (by with_reducible assumption) (by decide) | exact Int.lt_of_lt_of_le (by with_reducible assumption) (by decide) | exact Int.le_trans (by with_reducible assumption) (by decide) | exact lo_tr (by with_reducible assumption) (by decide) | exact lo_le (by with_reducible assumption) (by decide) | exact Nat.le_trans (by with_reducible assumption) (by decide) | exact Nat.lt_of_le_of_lt (by with_reducible assumption) (by decide) | lia
  k_with "k_ne" => (refine neN ?_; (try dsimp only); first | decide | with_reducible assumption | exact Ne.symm (by with_reducible assumption) | (refine Nat.ne_of_gt ?_; (first | with_reducible assumption | exact at1 (by with_reducible assumption) | exact at2 (by with_reducible assumption) | exact at3 (by with_reducible assumption) | exact at4 (by with_reducible assumption) | exact at5 (by with_reducible assumption) | exact at6 (by with_reducible assumption) | exact at7 (by with_reducible assumption) | exact at8 (by with_reducible assumption) | exact up1 (by with_reducible assumption) | exact up2 (by with_reducible assumption) | exact up2 (at1 (by with_reducible assumption)) | exact up2 (at2 (by with_reducible assumption)) | exact up2 (at3 (by with_reducible assumption)) | exact up2 (at4 (by with_reducible assumption)) | exact up1 (at1 (by with_reducible assumption)) | exact up1 (at2 (by with_reducible assumption)) | exact up1 (at3 (by with_reducible assumption)) | exact up1 (at4 (by with_reducible assumption)))) | (refine Nat.ne_of_lt ?_; (first | with_reducible assumption | exact at1 (by with_reducible assumption) | exact at2 (by with_reducible assumption) | exact at3 (by with_reducible assumption) | exact at4 (by with_reducible assumption) | exact at5 (by with_reducible assumption) | exact at6 (by with_reducible assumption) | exact at7 (by with_reducible assumption) | exact at8 (by with_reducible assumption) | exact up1 (by with_reducible assumption) | exact up2 (by with_reducible assumption) | exact up2 (at1 (by with_reducible assumption)) | exact up2 (at2 (by with_reducible assumption)) | exact up2 (at3 (by with_reducible assumption)) | exact up2 (at4 (by with_reducible assumption)) | exact up1 (at1 (by with_reducible assumption)) | exact up1 (at2 (by with_reducible assumption)) | exact up1 (at3 (by with_reducible assumption)) | exact up1 (at4 (by with_reducible assumption)))) | omega)
  k_with "mem_go" => first | with_reducible assumption | exact List.Mem.head _ | (refine List.mem_cons_of_mem _ ?_; (k_extra "mem_go"))
  k_with "sub_go" => first | exact fun _ h => h | exact sub_nil | (refine sub_cons ?hSub ?_; (case hSub => (k_extra "mem_go")); (k_extra "sub_go")) | ((fail_if_success (refine sub_cons ?_ ?_)); refine sub_drop ?_; (k_extra "sub_go")) | with_reducible assumption
  k_with "off_go" => first | exact off_nil | with_reducible assumption | (refine off_cons ?hOff ?_; (case hOff => k_ne); (k_extra "off_go")) | exact off_old (by with_reducible assumption) (by (k_extra "sub_go")) | exact off_sub (by with_reducible assumption) (by (k_extra "sub_go"))
  k_with "k_mem" => (k_extra "mem_go")
  k_with "k_all" => (k_extra "off_go")
  trivial
noncomputable abbrev scD (P : Params) (k1 k2 k3 k4 k5 k6 k7 : Tok) (l1 l2 l3 : Addr) (st : Int) (t1 : Tok) (en : Int) (t2 : Tok) (hi : Int) (t3 : Tok) (lo : Int) (t4 : Tok) : Obj :=
  dictOf [⟨PyData.keyHash P "idents", .str "idents" k1, .ref l1⟩, ⟨PyData.keyHash P "dc_slots", .str "dc_slots" k2, .ref l2⟩, ⟨PyData.keyHash P "ac_slots", .str "ac_slots" k3, .ref l3⟩, ⟨PyData.keyHash P "start", .str "start" k4, .int st t1⟩, ⟨PyData.keyHash P "end", .str "end" k5, .int en t2⟩, ⟨PyData.keyHash P "high", .str "high" k6, .int hi t3⟩, ⟨PyData.keyHash P "low", .str "low" k7, .int lo t4⟩] 7
noncomputable def ScD (P : Params) (o : Obj) (l1 l2 l3 : Addr) (st en hi lo : Int) : Prop := ∃ k1 k2 k3 k4 k5 k6 k7 t1 t2 t3 t4, o = scD P k1 k2 k3 k4 k5 k6 k7 l1 l2 l3 st t1 en t2 hi t3 lo t4
/-- an object made: at the head of the ledger, newer than all of it -/
noncomputable def Made (C : Addr) (D : Obj → Prop) (news : Led) (v : Value) (news' : Led) : Prop := ∃ x dx o, v = .ref x ∧ news' = (x, instObj C dx) :: (dx, o) :: news ∧ D o ∧ (∀ p ∈ news, @LT.lt Nat _ p.1 dx) ∧ @LT.lt Nat _ dx x
theorem kMade {C : Addr} {D : Obj → Prop} {news : Led} : ∀ φ : Value → Led → Prop, (∀ x dx o, D o → (∀ p ∈ news, @LT.lt Nat _ p.1 dx) → @LT.lt Nat _ dx x → φ (.ref x) ((x, instObj C dx) :: (dx, o) :: news)) → ∀ v n, Made C D news v n → φ v n := fun _ h _ _ ⟨x, dx, o, e1, e2, q, m1, m2⟩ => by subst e1 e2; exact h x dx o q m1 m2
set_option maxRecDepth 100000 in
set_option maxHeartbeats 8000000 in
theorem newReader_ct {w : World} {b : Array UInt8} {tb : Tok} {news : Led} :
    Ct w 129 [.bytes b tb] news 4 40 (Made 129 (fun o => Rd w.params o (KBw.bInts b) 0) news) False := by
  intro mean mg mb dp un gd cn csc a' ccd cl outer A₀ base h₀ L m s Q E X B F N T hk hd hu hret hexc
  k_dflt (refine' call_cls ?k1 ?k2 ?k3 ?k4 ?k5 ?k6 ?_; (case k1 => k_asm); (case k2 => k_asm); (case k3 => k_asm); (case k4 => k_is); (case k5 => k_is); (case k6 => k_is))
  intro x' d' h' F' N' l1 l2; replace l2 := ltN l2
  k_dflt cell_enter
  k_steps
  exact hret _ _ _ _ (by k_asm) (by k_asm) ⟨_, _, _, rfl, rfl, ⟨_, _, _, _, _, rfl, rfl⟩, l1, l2⟩
set_option maxRecDepth 100000 in
set_option maxHeartbeats 8000000 in
theorem newComp_ct {w : World} {i a d q : Int} {t1 t2 t3 t4 : Tok} {news : Led} :
    Ct w 150 [.int i t1, .int a t2, .int d t3, .int q t4] news 4 60 (Made 150 (fun o => CompD w.params o i a d q) news) False := by
  intro mean mg mb dp un gd cn csc a' ccd cl outer A₀ base h₀ L m s Q E X B F N T hk hd hu hret hexc
  k_dflt (refine' call_cls ?k1 ?k2 ?k3 ?k4 ?k5 ?k6 ?_; (case k1 => k_asm); (case k2 => k_asm); (case k3 => k_asm); (case k4 => k_is); (case k5 => k_is); (case k6 => k_is))
  intro x' d' h' F' N' l1 l2; replace l2 := ltN l2
  k_dflt cell_enter
  k_steps
  exact hret _ _ _ _ (by k_asm) (by k_asm) ⟨_, _, _, rfl, rfl, ⟨_, _, _, _, _, _, _, _, rfl⟩, l1, l2⟩
set_option maxRecDepth 100000 in
set_option maxHeartbeats 8000000 in
theorem newFrame_ct {w : World} {c p h wd : Int} {lx : Addr} {t1 t2 t3 t4 : Tok} {news : Led} :
    Ct w 171 [.int c t1, .int p t2, .int h t3, .int wd t4, .ref lx] news 4 60 (Made 171 (fun o => FrD w.params o c p h wd lx) news) False := by
  intro mean mg mb dp un gd cn csc a' ccd cl outer A₀ base h₀ L m s Q E X B F N T hk hd hu hret hexc
  k_dflt (refine' call_cls ?k1 ?k2 ?k3 ?k4 ?k5 ?k6 ?_; (case k1 => k_asm); (case k2 => k_asm); (case k3 => k_asm); (case k4 => k_is); (case k5 => k_is); (case k6 => k_is))
  intro x' d' h' F' N' l1 l2; replace l2 := ltN l2
  k_dflt cell_enter
  k_steps
  exact hret _ _ _ _ (by k_asm) (by k_asm) ⟨_, _, _, rfl, rfl, ⟨_, _, _, _, _, _, _, _, _, rfl⟩, l1, l2⟩
set_option maxRecDepth 100000 in
set_option maxHeartbeats 8000000 in
theorem newScan_ct {w : World} {i1 i2 i3 : Addr} {a b c d : Int} {t1 t2 t3 t4 : Tok} {news : Led} :
    Ct w 192 [.ref i1, .ref i2, .ref i3, .int a t1, .int b t2, .int c t3, .int d t4] news 4 60 (Made 192 (fun o => ScD w.params o i1 i2 i3 a b c d) news) False := by
  intro mean mg mb dp un gd cn csc a' ccd cl outer A₀ base h₀ L m s Q E X B F N T hk hd hu hret hexc
  k_dflt (refine' call_cls ?k1 ?k2 ?k3 ?k4 ?k5 ?k6 ?_; (case k1 => k_asm); (case k2 => k_asm); (case k3 => k_asm); (case k4 => k_is); (case k5 => k_is); (case k6 => k_is))
  intro x' d' h' F' N' l1 l2; replace l2 := ltN l2
  k_dflt cell_enter
  k_steps
  exact hret _ _ _ _ (by k_asm) (by k_asm) ⟨_, _, _, rfl, rfl, ⟨_, _, _, _, _, _, _, _, _, _, _, rfl⟩, l1, l2⟩
theorem newReader_ck {w : World} {b : Array UInt8} {tb : Tok} {news : Led} : CtK w 129 [.bytes b tb] news 4 40 (fun φ => ∀ x dx k1 k2 b' tb' ta, KBw.bInts b' = KBw.bInts b → Rd w.params (rdD w.params k1 k2 b' tb' ((0 : Nat) : Int) ta) (KBw.bInts b) 0 → (∀ p ∈ news, @LT.lt Nat _ p.1 dx) → @LT.lt Nat _ dx x → φ (.ref x) ((x, instObj 129 dx) :: (dx, rdD w.params k1 k2 b' tb' ((0 : Nat) : Int) ta) :: news)) False :=
  (newReader_ct ).k fun _ h _ _ ⟨x, dx, o, e1, e2, q, m1, m2⟩ => by obtain ⟨k1, k2, b', tb', ta, e3, e4⟩ := id q; subst e1 e2 e3; exact h x dx k1 k2 b' tb' ta e4 q m1 m2
theorem newComp_ck {w : World} {i a d q : Int} {t1 t2 t3 t4 : Tok} {news : Led} : CtK w 150 [.int i t1, .int a t2, .int d t3, .int q t4] news 4 60 (fun φ => ∀ x dx o, CompD w.params o i a d q → (∀ p ∈ news, @LT.lt Nat _ p.1 dx) → @LT.lt Nat _ dx x → φ (.ref x) ((x, instObj 150 dx) :: (dx, o) :: news)) False :=
  (newComp_ct ).k kMade
theorem newFrame_ck {w : World} {c p h wd : Int} {lx : Addr} {t1 t2 t3 t4 : Tok} {news : Led} : CtK w 171 [.int c t1, .int p t2, .int h t3, .int wd t4, .ref lx] news 4 60 (fun φ => ∀ x dx o, FrD w.params o c p h wd lx → (∀ p ∈ news, @LT.lt Nat _ p.1 dx) → @LT.lt Nat _ dx x → φ (.ref x) ((x, instObj 171 dx) :: (dx, o) :: news)) False :=
  (newFrame_ct ).k kMade
theorem newScan_ck {w : World} {i1 i2 i3 : Addr} {a b c d : Int} {t1 t2 t3 t4 : Tok} {news : Led} : CtK w 192 [.ref i1, .ref i2, .ref i3, .int a t1, .int b t2, .int c t3, .int d t4] news 4 60 (fun φ => ∀ x dx o, ScD w.params o i1 i2 i3 a b c d → (∀ p ∈ news, @LT.lt Nat _ p.1 dx) → @LT.lt Nat _ dx x → φ (.ref x) ((x, instObj 192 dx) :: (dx, o) :: news)) False :=
  (newScan_ct ).k kMade
-- part T1
theorem wsT1_0 : True := by
  w_top off
  k_with_none
  k_with "ktr_room" => first | exact room1 (by assumption) | exact room3 (by assumption) (Nat.le_of_ble_eq_true rfl) | exact room2 (by assumption) (Nat.le_of_ble_eq_true rfl)
  k_with "ktr_units" => first | exact unit3 (by assumption) (Nat.le_of_ble_eq_true rfl) | exact unit2 (by assumption) (Nat.le_of_ble_eq_true rfl)
  k_with "callWith ref" => (k_here; k_dflt (refine' callWith_K ?cwA ?cwB ?_; (case cwA => k_asm); (case cwB => k_is); k_whole))
  k_with "omega" => first | decide | with_reducible assumption | exact Int.lt_of_le_of_lt (by with_reducible assumption) (by decide) | exact Int.lt_of_lt_of_le (by with_reducible assumption) (by decide) | exact Int.le_trans (by with_reducible assumption) (by decide) | exact lo_tr (by with_reducible assumption) (by decide) | exact lo_le (by with_reducible assumption) (by decide) | exact Nat.le_trans (by with_reducible assumption) (by decide) | exact Nat.lt_of_le_of_lt (by with_reducible assumption) (by decide) | lia
  k_with "k_ne" => (refine neN ?_; (try dsimp only); first | decide | with_reducible assumption | exact Ne.symm (by with_reducible assumption) | (refine Nat.ne_of_gt ?_; (first | with_reducible assumption | exact at1 (by with_reducible assumption) | exact at2 (by with_reducible assumption) | exact at3 (by with_reducible assumption) | exact at4 (by with_reducible assumption) | exact at5 (by with_reducible assumption) | exact at6 (by with_reducible assumption) | exact at7 (by with_reducible assumption) | exact at8 (by with_reducible assumption) | exact up1 (by with_reducible assumption) | exact up2 (by with_reducible assumption) | exact up2 (at1 (by with_reducible assumption)) | exact up2 (at2 (by with_reducible assumption)) | exact up2 (at3 (by with_reducible assumption)) | exact up2 (at4 (by with_reducible assumption)) | exact up1 (at1 (by with_reducible assumption)) | exact up1 (at2 (by with_reducible assumption)) | exact up1 (at3 (by with_reducible assumption)) | exact up1 (at4 (by with_reducible assumption)))) | (refine Nat.ne_of_lt ?_; (first | with_reducible assumption | exact at1 (by with_reducible assumption) | exact at2 (by with_reducible assumption) | exact at3 (by with_reducible assumption) | exact at4 (by with_reducible assumption) | exact at5 (by with_reducible assumption) | exact at6 (by with_reducible assumption) | exact at7 (by with_reducible assumption) | exact at8 (by with_reducible assumption) | exact up1 (by with_reducible assumption) | exact up2 (by with_reducible assumption) | exact up2 (at1 (by with_reducible assumption)) | exact up2 (at2 (by with_reducible assumption)) | exact up2 (at3 (by with_reducible assumption)) | exact up2 (at4 (by with_reducible assumption)) | exact up1 (at1 (by with_reducible assumption)) | exact up1 (at2 (by with_reducible assumption)) | exact up1 (at3 (by with_reducible assumption)) | exact up1 (at4 (by with_reducible assumption)))) | omega)
  k_with "mem_go" => first | with_reducible assumption | exact List.Mem.head _ | (refine List.mem_cons_of_mem _ ?_; (k_extra "mem_go"))
  k_with "sub_go" => first | exact fun _ h => h | exact sub_nil | (refine sub_cons ?hSub ?_; (case hSub => (k_extra "mem_go")); (k_extra "sub_go")) | ((fail_if_success (refine sub_cons ?_ ?_)); refine sub_drop ?_; (k_extra "sub_go")) | with_reducible assumption
  k_with "off_go" => first | exact off_nil | with_reducible assumption | (refine off_cons ?hOff ?_; (case hOff => k_ne); (k_extra "off_go")) | exact off_old (by with_reducible assumption) (by (k_extra "sub_go")) | exact off_sub (by with_reducible assumption) (by (k_extra "sub_go"))
  k_with "k_mem" => (k_extra "mem_go")
  k_with "k_all" => (k_extra "off_go")
  trivial
/-- behind a call that turned the ground (an exception was caught within): the caller's ground, turned -/
theorem turn_back {A₀ : Around} {base h₀ g g' h' : Heap} {env : Env} {outer : List Env} {L L' : Addr} {m m' : Str → Option Value} {news' : Led}
    (B : Below A₀ base outer h₀) (hL : h₀.get? L = none) (FG : Fr h₀ L g m) (hf : env.frame = some L)
    (TT : KtsTurn ((env :: outer).filterMap (·.frame)) g g') (F' : Fr g' L' h' m') (N' : News g' L' h' news') :
    ∃ h₁, KtsTurn (outer.filterMap (·.frame)) h₀ h₁ ∧ Fr h₁ L h' m ∧ News h₁ L h' news' ∧ Below A₀ base outer h₁ := by
  have mem : ∀ b, b ∈ (env :: outer).filterMap (·.frame) → b = L ∨ b ∈ outer.filterMap (·.frame) := fun b hb => by
    rw [List.filterMap_cons, hf] at hb
    exact List.mem_cons.mp hb
  obtain ⟨oL, es, ep, gL, dL, k1, k2⟩ := FG.ns
  obtain ⟨sl, hs⟩ := TT.up gL
  obtain ⟨T₁, S₁⟩ := kts_turn_at (h := h') (fs := outer.filterMap (·.frame)) (g := h₀)
    (fun b hb => let ⟨_, o, ho, _⟩ := B.frames.mem hb; ⟨o, ho⟩)
    (fun b o e nm => F'.keep b o (TT.other b o (FG.keep b o e) fun q => (mem b q).elim (fun z => by rw [z, hL] at e; cases e) nm))
    (fun b o e _ => let ⟨s2, h2⟩ := TT.up (FG.keep b o e); ⟨s2, F'.keep _ _ h2⟩)
  refine ⟨_, T₁, ⟨⟨_, es, ep, F'.keep _ _ hs, dL, k1, k2⟩, S₁, by rw [T₁.size]; exact FG.above⟩, fun p hp => ⟨(N' p hp).1, fun q => ?_, ?_⟩, B.stack, fun b o e => T₁.other b o (B.stays b o e) fun hm => ?_, B.frames.of_keeps fun b o e _ => let ⟨s2, h2⟩ := T₁.up e; ⟨_, h2, rfl⟩⟩
  · have := (N' p hp).2.2
    rw [q, hs] at this
    cases this
  · refine T₁.none_ _ ?_
    cases q : h₀.get? p.1 with
    | none => rfl
    | some o =>
      obtain ⟨s2, h2⟩ := TT.up (FG.keep _ _ q)
      have := (N' p hp).2.2
      rw [h2] at this
      cases this
  · rw [(B.frames.mem hm).1] at e
    cases e
/-- what a body that may turn the ground hands back to its caller -/
noncomputable def BackT (fs : List Addr) (A₀ : Around) (base : Heap) (outer : List Env) (h₀ : Heap) (L : Addr) (m : Str → Option Value) (fs' : List Addr) (g : Heap) : Prop :=
  ∀ g' L' m' h' news', KtsTurn fs' g g' → Fr g' L' h' m' → News g' L' h' news' → ∃ h₁, KtsTurn fs h₀ h₁ ∧ Fr h₁ L h' m ∧ News h₁ L h' news' ∧ Below A₀ base outer h₁
theorem dicts_push {h₀ g : Heap} {env : Env} {outer : List Env} {L : Addr} {m : Str → Option Value} (D : KtsDicts (outer.filterMap (·.frame)) h₀) (FG : Fr h₀ L g m) (hf : env.frame = some L) : KtsDicts ((env :: outer).filterMap (·.frame)) g := fun b hb => by
  rw [List.filterMap_cons, hf] at hb
  rcases List.mem_cons.mp hb with rfl | hb
  · obtain ⟨o, es, ep, e, d, _⟩ := FG.ns
    exact ⟨o, es, ep, e, d⟩
  · obtain ⟨o, es, n, ho, hd⟩ := D b hb
    exact ⟨o, es, n, FG.keep _ _ ho, hd⟩
section
variable {prog : Program} {w : World} {A₀ A : Around} {s : Shared} {base h₀ : Heap} {outer : List Env} {L : Addr} {m mg mb : Str → Option Value} {env : Env} {news : Led} {K : Frag} {p : Program} {loose : List Str} {mean : ExcName → Option Value}
  {R : Result → Shared → Prop} {name qual : Str} {params : Arguments} {body : List Stmt} {scope : Scope} {dV kV doc pm cdv ct oc : Value} {an od : Option Addr} {osl : Array (Option Value)} {f : Addr} {args : Args} {binds : List (Str × Value)}
/-- a def of the text is entered, whose body may turn the ground -/
theorem enterP (B : Below A₀ base outer h₀) (F : Fr h₀ L s.heap m) (X₀ : K.In h₀) (N : News h₀ L s.heap news) (T : Top p loose mean mg mb h₀) (D : KtsDicts (outer.filterMap (·.frame)) h₀) (hA : A.frames = some (env :: outer)) (hf : env.frame = some L) (hke : env.scope.kind = .function)
    (ho : K.lookup f = some ⟨oc, od, .func (fnOf name qual params body scope dV kV doc pm an cdv ct), osl⟩) (hcd : codeIn K cdv qual = true) (hroom : A.depth < recursionLimit)
    (hbind : BindsTo s (fnOf name qual params body scope dV kV doc pm an cdv ct) args binds) (hloc : ∀ y ∈ binds, scope.names.lookup y.1 = some .local)
    (h : ∀ g L' h₁, BackT (outer.filterMap (·.frame)) A₀ base outer h₀ L m ((env :: outer).filterMap (·.frame)) g → Fr g L' h₁ (fun y => binds.reverse.lookup y) → News g L' h₁ news → Below A base (env :: outer) g → K.In g → Top p loose mean mg mb g → KtsDicts ((env :: outer).filterMap (·.frame)) g →
      wpAny (model prog w) (A.deeper (envOf qual scope L' f cdv)) (execs body (envOf qual scope L' f cdv))
        (fun fl s' => R (.ok (.ret (match fl with | .ret v => v | _ => .none))) s')
        (fun e s' => wpAny (model prog w) (A.deeper (envOf qual scope L' f cdv)) (leaving (envOf qual scope L' f cdv) e) (fun _ s'' => R (.error e) s'') (fun e' s'' => R (.error e') s'') s')
        { s with heap := h₁, toks := s.toks + binds.length })
    (hco : scope.isCoroutine = false) (hgen : scope.isGenerator = false) (hk : scope.kind = .function)
    (hcell : ∀ x ∈ scope.names, x.2 ≠ .cell) : codeAny (model prog w) A (.call (.ref f) args) R s := by
  obtain ⟨FG, BG, st, _⟩ := groundX (R := R) B F N hA hf hke
  have X := X₀.keeps F.keep
  refine codeAny_call_def (fd := fnOf name qual params body scope dV kV doc pm an cdv ct) (body := body) (binds := binds) hroom (X _ _ ho) rfl (T.nolimit.keeps F.keep) (codeRec_of X hcd) rfl hbind hcell hloc (fun h₁ hns hk₁ => ?_) hco hgen hk
  exact h _ s.heap.objs.size h₁ (fun g' L' m' h' news' TT F' N' => turn_back B (kts_self F) FG hf TT F' N') ⟨hns, fun b o e => hk₁ b o (of_hideAll _ e), Nat.le_of_eq (hideAll_size _ _)⟩
    (fun p hp => ⟨hk₁ _ _ (N p hp).1, Nat.ne_of_lt (Heap.lt_size (N p hp).1), hideAll_none _ (List.mem_map_of_mem hp)⟩) BG (X₀.keeps st) (T.keeps st) (dicts_push D FG hf)
/-- the same for a def whose locals are cells -/
theorem enterC (B : Below A₀ base outer h₀) (F : Fr h₀ L s.heap m) (X₀ : K.In h₀) (N : News h₀ L s.heap news) (T : Top p loose mean mg mb h₀) (D : KtsDicts (outer.filterMap (·.frame)) h₀) (hA : A.frames = some (env :: outer)) (hf : env.frame = some L) (hke : env.scope.kind = .function)
    (ho : K.lookup f = some ⟨oc, od, .func (fnX name qual params body scope [] dV kV doc pm an cdv ct), osl⟩) (hcd : codeIn K cdv qual = true) (hroom : A.depth < recursionLimit)
    (hbind : BindsTo s (fnX name qual params body scope [] dV kV doc pm an cdv ct) args binds)
    (hkind : ∀ n, ∀ x ∈ binds, scope.names.lookup x.1 = some .local ∨ (scope.names.lookup x.1 = some .cell ∧ ((cellsFrom n scope.names []).lookup x.1).isSome = true))
    (hnd : ((cellsFrom 0 scope.names []).map (·.1)).Nodup)
    (h : ∀ g L' h₁ tk cells, BackT (outer.filterMap (·.frame)) A₀ base outer h₀ L m ((env :: outer).filterMap (·.frame)) g → Fr g L' h₁ (bindL (envOfC qual scope L' f cdv).kindOf binds fun _ => none) → News g L' h₁ (cells ++ news) →
      CellsAre (bindC (envOfC qual scope L' f cdv).kindOf binds fun _ => none) (cellsFrom (L' + 1) scope.names []) cells → (∀ p ∈ news, p.1 < L') → Below A base (env :: outer) g → K.In g → Top p loose mean mg mb g → KtsDicts ((env :: outer).filterMap (·.frame)) g →
      wpAny (model prog w) (A.deeper (envOfC qual scope L' f cdv)) (execs body (envOfC qual scope L' f cdv))
        (fun fl s' => R (.ok (.ret (match fl with | .ret v => v | _ => .none))) s')
        (fun e s' => wpAny (model prog w) (A.deeper (envOfC qual scope L' f cdv)) (leaving (envOfC qual scope L' f cdv) e) (fun _ s'' => R (.error e) s'') (fun e' s'' => R (.error e') s'') s')
        { s with heap := h₁, toks := tk })
    (hco : scope.isCoroutine = false) (hgen : scope.isGenerator = false) (hk : scope.kind = .function) : codeAny (model prog w) A (.call (.ref f) args) R s := by
  obtain ⟨FG, BG, st, _⟩ := groundX (R := R) B F N hA hf hke
  have X := X₀.keeps F.keep
  refine codeAny_call_function hroom (X _ _ ho) rfl hco hgen rfl (codeRec_of X hcd) (hbind _ _ _ _ ?_)
  refine wpAny_newFunctionEnv_cells hk (hkind _) fun env' he s' x => ?_
  subst he
  refine ⟨(T.nolimit.keeps F.keep).keeps x.toInCall.keep, codeAny_func ?_⟩
  obtain ⟨h₁, tk, rfl, _⟩ := x.done
  have hk₁ := x.toInCall.keep
  obtain ⟨cells, NC, Y⟩ := Cl.news (h₀ := s.heap) (Nat.le_refl _) fun n c hm => ⟨x.cell n c (lookup_of_mem_nodup (cellsFrom_names scope.names 0 (s.heap.objs.size + 1) [] [] rfl ▸ hnd) hm), x.above n c hm⟩
  refine h _ s.heap.objs.size h₁ tk cells (fun g' L' m' h' news' TT F' N' => turn_back B (kts_self F) FG hf TT F' N') ⟨x.toInCall.ns, fun b o e => hk₁ b o (of_hideAll _ e), Nat.le_of_eq (hideAll_size _ _)⟩ (fun p hp => ?_) Y (fun p hp => Heap.lt_size (N p hp).1) BG (X₀.keeps st) (T.keeps st) (dicts_push D FG hf)
  rcases List.mem_append.mp hp with hp | hp
  · refine ⟨(NC p hp).1, (NC p hp).2.1, ?_⟩
    cases q : (hideAll s.heap (news.map (·.1))).get? p.1 with
    | none => rfl
    | some o =>
      have := of_hideAll _ q
      rw [(NC p hp).2.2] at this
      cases this
  · exact ⟨hk₁ _ _ (N p hp).1, Nat.ne_of_lt (Heap.lt_size (N p hp).1), hideAll_none _ (List.mem_map_of_mem hp)⟩
end
/-- a call of the text's def f that may turn the ground, and does not raise -/
noncomputable def CtT (w : World) (f : Addr) (vs : List Value) (news : Led) (d u : Nat) (R : Value → Led → Prop) : Prop :=
  ∀ (mean : ExcName → Option Value) (mg mb : Str → Option Value) (dp un : Nat) (gd : Option (List Code)) (cn : Str) (cs : Scope) (a : Addr) (ccd : Value) (cl : List (Str × Addr)) (outer : List Env) (A₀ : Around) (base h₀ : Heap) (L : Addr) (m : Str → Option Value) (s : Shared) (Q E : Value → Shared → Prop),
    (hd.heap_1 w.params).In h₀ → Below A₀ base outer h₀ → Fr h₀ L s.heap m → News h₀ L s.heap news → Top topProg Lo mean mg mb h₀ → (hd.heap_1 w.params).In base → Top topProg Lo mean mg mb base → KtsDicts (outer.filterMap (·.frame)) h₀ → cs.kind = .function → dp + d < recursionLimit → un + u < cLine →
    (∀ v news' h' tk' h₁, KtsTurn (outer.filterMap (·.frame)) h₀ h₁ → Fr h₁ L h' m → News h₁ L h' news' → Below A₀ base outer h₁ → (hd.heap_1 w.params).In h₁ → Top topProg Lo mean mg mb h₁ → KtsDicts (outer.filterMap (·.frame)) h₁ → R v news' → Q v { s with heap := h', toks := tk' }) →
    wpAny (model PySem.Challenge.rw_nt0560_01.row.prog w) (ktrTop dp un gd cn cs L a ccd cl outer) (call (.ref f) vs) Q E s
noncomputable def RetT (P : Prop) : Prop := P
theorem CtT.run {w : World} {f : Addr} {vs : List Value} {news : Led} {d u : Nat} {R : Value → Led → Prop} {mean : ExcName → Option Value} {mg mb : Str → Option Value} {dp un : Nat} {gd : Option (List Code)} {cn : Str} {cs : Scope} {a : Addr} {ccd : Value} {cl : List (Str × Addr)} {outer : List Env} {A₀ : Around} {base h₀ : Heap} {L : Addr} {m : Str → Option Value} {s : Shared} {Q E : Value → Shared → Prop}
    (F : Fr h₀ L s.heap m) (N : News h₀ L s.heap news) (C : CtT w f vs news d u R) (hX : (hd.heap_1 w.params).In h₀) (B : Below A₀ base outer h₀) (T : Top topProg Lo mean mg mb h₀) (XB : (hd.heap_1 w.params).In base) (TB : Top topProg Lo mean mg mb base) (D : KtsDicts (outer.filterMap (·.frame)) h₀) (hk : cs.kind = .function) (hd : dp + d < recursionLimit) (hu : un + u < cLine)
    (ret : RetT (∀ v news' h' tk' h₁, KtsTurn (outer.filterMap (·.frame)) h₀ h₁ → Fr h₁ L h' m → News h₁ L h' news' → Below A₀ base outer h₁ → (Mine.hd.heap_1 w.params).In h₁ → Top topProg Lo mean mg mb h₁ → KtsDicts (outer.filterMap (·.frame)) h₁ → R v news' → Q v { s with heap := h', toks := tk' })) :
    wpAny (model PySem.Challenge.rw_nt0560_01.row.prog w) (ktrTop dp un gd cn cs L a ccd cl outer) (call (.ref f) vs) Q E s :=
  C _ _ _ _ _ _ _ _ _ _ _ _ _ _ _ _ _ _ _ _ hX B F N T XB TB D hk hd hu ret
noncomputable def CtTK (w : World) (f : Addr) (vs : List Value) (news : Led) (d u : Nat) (Rk : (Value → Led → Prop) → Prop) : Prop :=
  ∀ (mean : ExcName → Option Value) (mg mb : Str → Option Value) (dp un : Nat) (gd : Option (List Code)) (cn : Str) (cs : Scope) (a : Addr) (ccd : Value) (cl : List (Str × Addr)) (outer : List Env) (A₀ : Around) (base h₀ : Heap) (L : Addr) (m : Str → Option Value) (s : Shared) (Q E : Value → Shared → Prop),
    (hd.heap_1 w.params).In h₀ → Below A₀ base outer h₀ → Fr h₀ L s.heap m → News h₀ L s.heap news → Top topProg Lo mean mg mb h₀ → (hd.heap_1 w.params).In base → Top topProg Lo mean mg mb base → KtsDicts (outer.filterMap (·.frame)) h₀ → cs.kind = .function → dp + d < recursionLimit → un + u < cLine →
    Rk (fun v news' => ∀ h' tk' h₁, KtsTurn (outer.filterMap (·.frame)) h₀ h₁ → Fr h₁ L h' m → News h₁ L h' news' → Below A₀ base outer h₁ → (hd.heap_1 w.params).In h₁ → Top topProg Lo mean mg mb h₁ → KtsDicts (outer.filterMap (·.frame)) h₁ → Q v { s with heap := h', toks := tk' }) →
    wpAny (model PySem.Challenge.rw_nt0560_01.row.prog w) (ktrTop dp un gd cn cs L a ccd cl outer) (call (.ref f) vs) Q E s
theorem CtT.k {w : World} {f : Addr} {vs : List Value} {news : Led} {d u : Nat} {R : Value → Led → Prop} {Rk : (Value → Led → Prop) → Prop} (C : CtT w f vs news d u R) (hR : ∀ φ : Value → Led → Prop, Rk φ → ∀ v n, R v n → φ v n) : CtTK w f vs news d u Rk :=
  fun mean mg mb dp un gd cn cs a ccd cl outer A₀ base h₀ L m s Q E X₀ B F N T XB TB D hk hd hu ret => C mean mg mb dp un gd cn cs a ccd cl outer A₀ base h₀ L m s Q E X₀ B F N T XB TB D hk hd hu (fun v n h' tk' h₁ a1 a2 a3 a4 a5 a6 a7 r => hR _ ret v n r h' tk' h₁ a1 a2 a3 a4 a5 a6 a7)
theorem CtTK.run {w : World} {f : Addr} {vs : List Value} {news : Led} {d u : Nat} {Rk : (Value → Led → Prop) → Prop} {mean : ExcName → Option Value} {mg mb : Str → Option Value} {dp un : Nat} {gd : Option (List Code)} {cn : Str} {cs : Scope} {a : Addr} {ccd : Value} {cl : List (Str × Addr)} {outer : List Env} {A₀ : Around} {base h₀ : Heap} {L : Addr} {m : Str → Option Value} {s : Shared} {Q E : Value → Shared → Prop}
    (F : Fr h₀ L s.heap m) (N : News h₀ L s.heap news) (C : CtTK w f vs news d u Rk) (hX : (hd.heap_1 w.params).In h₀) (B : Below A₀ base outer h₀) (T : Top topProg Lo mean mg mb h₀) (XB : (hd.heap_1 w.params).In base) (TB : Top topProg Lo mean mg mb base) (D : KtsDicts (outer.filterMap (·.frame)) h₀) (hk : cs.kind = .function) (hd : dp + d < recursionLimit) (hu : un + u < cLine)
    (ret : Rk (fun v news' => ∀ h' tk' h₁, KtsTurn (outer.filterMap (·.frame)) h₀ h₁ → Fr h₁ L h' m → News h₁ L h' news' → Below A₀ base outer h₁ → (Mine.hd.heap_1 w.params).In h₁ → Top topProg Lo mean mg mb h₁ → KtsDicts (outer.filterMap (·.frame)) h₁ → Q v { s with heap := h', toks := tk' })) :
    wpAny (model PySem.Challenge.rw_nt0560_01.row.prog w) (ktrTop dp un gd cn cs L a ccd cl outer) (call (.ref f) vs) Q E s :=
  C _ _ _ _ _ _ _ _ _ _ _ _ _ _ _ _ _ _ _ _ hX B F N T XB TB D hk hd hu ret
-- part T2
theorem wsT2_0 : True := by
  w_top off
  k_with_none
  k_with "ktr_room" => first | exact room1 (by assumption) | exact room3 (by assumption) (Nat.le_of_ble_eq_true rfl) | exact room2 (by assumption) (Nat.le_of_ble_eq_true rfl)
  k_with "ktr_units" => first | exact unit3 (by assumption) (Nat.le_of_ble_eq_true rfl) | exact unit2 (by assumption) (Nat.le_of_ble_eq_true rfl)
  k_with "callWith ref" => (k_here; k_dflt (refine' callWith_K ?cwA ?cwB ?_; (case cwA => k_asm); (case cwB => k_is); k_whole))
  k_with "omega" => first | decide | with_reducible assumption | exact Int.lt_of_le_of_lt (by with_reducible assumption) (by decide) | exact Int.lt_of_lt_of_le (by with_reducible assumption) (by decide) | exact Int.le_trans (by with_reducible assumption) (by decide) | exact lo_tr (by with_reducible assumption) (by decide) | exact lo_le (by with_reducible assumption) (by decide) | exact Nat.le_trans (by with_reducible assumption) (by decide) | exact Nat.lt_of_le_of_lt (by with_reducible assumption) (by decide) | lia
  k_with "k_ne" => (refine neN ?_; (try dsimp only); first | decide | with_reducible assumption | exact Ne.symm (by with_reducible assumption) | (refine Nat.ne_of_gt ?_; (first | with_reducible assumption | exact at1 (by with_reducible assumption) | exact at2 (by with_reducible assumption) | exact at3 (by with_reducible assumption) | exact at4 (by with_reducible assumption) | exact at5 (by with_reducible assumption) | exact at6 (by with_reducible assumption) | exact at7 (by with_reducible assumption) | exact at8 (by with_reducible assumption) | exact up1 (by with_reducible assumption) | exact up2 (by with_reducible assumption) | exact up2 (at1 (by with_reducible assumption)) | exact up2 (at2 (by with_reducible assumption)) | exact up2 (at3 (by with_reducible assumption)) | exact up2 (at4 (by with_reducible assumption)) | exact up1 (at1 (by with_reducible assumption)) | exact up1 (at2 (by with_reducible assumption)) | exact up1 (at3 (by with_reducible assumption)) | exact up1 (at4 (by with_reducible assumption)))) | (refine Nat.ne_of_lt ?_; (first | with_reducible assumption | exact at1 (by with_reducible assumption) | exact at2 (by with_reducible assumption) | exact at3 (by with_reducible assumption) | exact at4 (by with_reducible assumption) | exact at5 (by with_reducible assumption) | exact at6 (by with_reducible assumption) | exact at7 (by with_reducible assumption) | exact at8 (by with_reducible assumption) | exact up1 (by with_reducible assumption) | exact up2 (by with_reducible assumption) | exact up2 (at1 (by with_reducible assumption)) | exact up2 (at2 (by with_reducible assumption)) | exact up2 (at3 (by with_reducible assumption)) | exact up2 (at4 (by with_reducible assumption)) | exact up1 (at1 (by with_reducible assumption)) | exact up1 (at2 (by with_reducible assumption)) | exact up1 (at3 (by with_reducible assumption)) | exact up1 (at4 (by with_reducible assumption)))) | omega)
  k_with "mem_go" => first | with_reducible assumption | exact List.Mem.head _ | (refine List.mem_cons_of_mem _ ?_; (k_extra "mem_go"))
  k_with "sub_go" => first | exact fun _ h => h | exact sub_nil | (refine sub_cons ?hSub ?_; (case hSub => (k_extra "mem_go")); (k_extra "sub_go")) | ((fail_if_success (refine sub_cons ?_ ?_)); refine sub_drop ?_; (k_extra "sub_go")) | with_reducible assumption
  k_with "off_go" => first | exact off_nil | with_reducible assumption | (refine off_cons ?hOff ?_; (case hOff => k_ne); (k_extra "off_go")) | exact off_old (by with_reducible assumption) (by (k_extra "sub_go")) | exact off_sub (by with_reducible assumption) (by (k_extra "sub_go"))
  k_with "k_mem" => (k_extra "mem_go")
  k_with "k_all" => (k_extra "off_go")
  trivial
theorem wsT2_1 : True := by
  w_top off
  k_with_none
  k_with "ktr_room" => first | exact room1 (by assumption) | exact room3 (by assumption) (Nat.le_of_ble_eq_true rfl) | exact room2 (by assumption) (Nat.le_of_ble_eq_true rfl)
  k_with "ktr_units" => first | exact unit3 (by assumption) (Nat.le_of_ble_eq_true rfl) | exact unit2 (by assumption) (Nat.le_of_ble_eq_true rfl)
  k_with "callWith ref" => (k_here; k_dflt (refine' callWith_K ?cwA ?cwB ?_; (case cwA => k_asm); (case cwB => k_is); k_whole))
  k_with "omega" => first | decide | with_reducible assumption | exact Int.lt_of_le_of_lt (by with_reducible assumption) (by decide) | exact Int.lt_of_lt_of_le (by with_reducible assumption) (by decide) | exact Int.le_trans (by with_reducible assumption) (by decide) | exact lo_tr (by with_reducible assumption) (by decide) | exact lo_le (by with_reducible assumption) (by decide) | exact Nat.le_trans (by with_reducible assumption) (by decide) | exact Nat.lt_of_le_of_lt (by with_reducible assumption) (by decide) | lia
  k_with "k_ne" => (refine neN ?_; (try dsimp only); first | decide | with_reducible assumption | exact Ne.symm (by with_reducible assumption) | (refine Nat.ne_of_gt ?_; (first | with_reducible assumption | exact at1 (by with_reducible assumption) | exact at2 (by with_reducible assumption) | exact at3 (by with_reducible assumption) | exact at4 (by with_reducible assumption) | exact at5 (by with_reducible assumption) | exact at6 (by with_reducible assumption) | exact at7 (by with_reducible assumption) | exact at8 (by with_reducible assumption) | exact up1 (by with_reducible assumption) | exact up2 (by with_reducible assumption) | exact up2 (at1 (by with_reducible assumption)) | exact up2 (at2 (by with_reducible assumption)) | exact up2 (at3 (by with_reducible assumption)) | exact up2 (at4 (by with_reducible assumption)) | exact up1 (at1 (by with_reducible assumption)) | exact up1 (at2 (by with_reducible assumption)) | exact up1 (at3 (by with_reducible assumption)) | exact up1 (at4 (by with_reducible assumption)))) | (refine Nat.ne_of_lt ?_; (first | with_reducible assumption | exact at1 (by with_reducible assumption) | exact at2 (by with_reducible assumption) | exact at3 (by with_reducible assumption) | exact at4 (by with_reducible assumption) | exact at5 (by with_reducible assumption) | exact at6 (by with_reducible assumption) | exact at7 (by with_reducible assumption) | exact at8 (by with_reducible assumption) | exact up1 (by with_reducible assumption) | exact up2 (by with_reducible assumption) | exact up2 (at1 (by with_reducible assumption)) | exact up2 (at2 (by with_reducible assumption)) | exact up2 (at3 (by with_reducible assumption)) | exact up2 (at4 (by with_reducible assumption)) | exact up1 (at1 (by with_reducible assumption)) | exact up1 (at2 (by with_reducible assumption)) | exact up1 (at3 (by with_reducible assumption)) | exact up1 (at4 (by with_reducible assumption)))) | omega)
  k_with "mem_go" => first | with_reducible assumption | exact List.Mem.head _ | (refine List.mem_cons_of_mem _ ?_; (k_extra "mem_go"))
  k_with "sub_go" => first | exact fun _ h => h | exact sub_nil | (refine sub_cons ?hSub ?_; (case hSub => (k_extra "mem_go")); (k_extra "sub_go")) | ((fail_if_success (refine sub_cons ?_ ?_)); refine sub_drop ?_; (k_extra "sub_go")) | with_reducible assumption
  k_with "off_go" => first | exact off_nil | with_reducible assumption | (refine off_cons ?hOff ?_; (case hOff => k_ne); (k_extra "off_go")) | exact off_old (by with_reducible assumption) (by (k_extra "sub_go")) | exact off_sub (by with_reducible assumption) (by (k_extra "sub_go"))
  k_with "k_mem" => (k_extra "mem_go")
  k_with "k_all" => (k_extra "off_go")
  k_with "callWith ref" => (k_here; k_dflt (refine callWith_F0 (FnAt.of (by k_asm) hfun) ?_); dsimp only [List.nil_append])
  k_with "call ref" => (k_here; k_dflt (refine Ct.run (by k_asm) (by k_asm) ctX (by k_asm) (by k_asm) (by k_asm) (by first | rfl | assumption) (by ktr_room) (by ktr_units) ?_ ?_))
  k_with "RetP" => (unfold RetP; intro v' n' h' tk' F' N' r')
  k_with "ExcP" => (unfold ExcP; intro e3' e' t' vs' g' h' tk' Fg' U' R')
  trivial
set_option maxRecDepth 100000 in
set_option maxHeartbeats 8000000 in
theorem told_ct {w : World} {f : Addr} {oc : Value} {od : Option Addr} {fd : FuncData} {sl : Array (Option Value)} {news : Led} {d u : Nat} {R : Value → Led → Prop} {X : Prop} (hfun : (f, (⟨oc, od, .func fd, sl⟩ : Obj)) ∈ news) (ctX : Ct w f [] news d u R X) :
    CtT w 360 [.ref f] news (d + 4) (u + 60) (fun v news' => R v news' ∨ (v = .none ∧ news' = news ∧ X)) := by
  intro mean mg mb dp un gd cn cs a ccd cl outer A₀ base h₀ L m s Q E X₀ B F N T XB TB D hk hd hu hret
  refine wpAny_call ?_
  k_dflt (refine' enterP ?k1 ?k2 ?k3 ?k4 ?k5 ?kD ?kA ?kF ?kK ?k6 ?k7 ?k8 ?k9 ?kB ?_ ?c2 ?c3 ?c4 ?c5; (case kA => exact rfl); (case kF => exact rfl); (case kK => assumption); (case k1 => k_asm); (case k2 => k_asm); (case k3 => k_asm); (case k4 => k_asm); (case k5 => k_asm); (case kD => k_asm); (case k6 => k_is); (case k7 => k_is); (case k8 => ktr_room); (case k9 => exact BindsTo.of_eq rfl); (case c5 => decide); (case kB => exact locs rfl); (case c2 => exact rfl); (case c3 => exact rfl); (case c4 => exact rfl); k_whole; intro g' L' h' BK' F' N' B' X' T' D'; (try dsimp only); (try k_fold))
  k_steps
  · obtain ⟨h₁, t1, t2, t3, t4⟩ := BK' _ _ _ _ _ KtsTurn.refl (by k_asm) (by k_asm)
    exact hret _ _ _ _ h₁ t1 t2 t3 t4 (XB.keeps t4.stays) (TB.keeps t4.stays) (D.turn t1) (.inl r')
  · show Q .none _
    obtain ⟨h₁, t1, t2, t3, t4⟩ := BK' _ _ _ _ _ (by assumption) (by k_asm) (by k_asm)
    exact hret _ _ _ _ h₁ t1 t2 t3 t4 (XB.keeps t4.stays) (TB.keeps t4.stays) (D.turn t1) (.inr ⟨rfl, rfl, e3'⟩)
-- part S1
theorem wsS1_0 : True := by
  w_top off
  k_with_none
  k_with "ktr_room" => first | exact room1 (by assumption) | exact room3 (by assumption) (Nat.le_of_ble_eq_true rfl) | exact room2 (by assumption) (Nat.le_of_ble_eq_true rfl)
  k_with "ktr_units" => first | exact unit3 (by assumption) (Nat.le_of_ble_eq_true rfl) | exact unit2 (by assumption) (Nat.le_of_ble_eq_true rfl)
  k_with "callWith ref" => (k_here; k_dflt (refine' callWith_K ?cwA ?cwB ?_; (case cwA => k_asm); (case cwB => k_is); k_whole))
  k_with "omega" => first | decide | with_reducible assumption | exact Int.lt_of_le_of_lt (by with_reducible assumption) (by decide) | exact Int.lt_of_lt_of_le (by with_reducible assumption) (by decide) | exact Int.le_trans (by with_reducible assumption) (by decide) | exact lo_tr (by with_reducible assumption) (by decide) | exact lo_le (by with_reducible assumption) (by decide) | exact Nat.le_trans (by with_reducible assumption) (by decide) | exact Nat.lt_of_le_of_lt (by with_reducible assumption) (by decide) | lia
  k_with "k_ne" => (refine neN ?_; (try dsimp only); first | decide | with_reducible assumption | exact Ne.symm (by with_reducible assumption) | (refine Nat.ne_of_gt ?_; (first | with_reducible assumption | exact at1 (by with_reducible assumption) | exact at2 (by with_reducible assumption) | exact at3 (by with_reducible assumption) | exact at4 (by with_reducible assumption) | exact at5 (by with_reducible assumption) | exact at6 (by with_reducible assumption) | exact at7 (by with_reducible assumption) | exact at8 (by with_reducible assumption) | exact up1 (by with_reducible assumption) | exact up2 (by with_reducible assumption) | exact up2 (at1 (by with_reducible assumption)) | exact up2 (at2 (by with_reducible assumption)) | exact up2 (at3 (by with_reducible assumption)) | exact up2 (at4 (by with_reducible assumption)) | exact up1 (at1 (by with_reducible assumption)) | exact up1 (at2 (by with_reducible assumption)) | exact up1 (at3 (by with_reducible assumption)) | exact up1 (at4 (by with_reducible assumption)))) | (refine Nat.ne_of_lt ?_; (first | with_reducible assumption | exact at1 (by with_reducible assumption) | exact at2 (by with_reducible assumption) | exact at3 (by with_reducible assumption) | exact at4 (by with_reducible assumption) | exact at5 (by with_reducible assumption) | exact at6 (by with_reducible assumption) | exact at7 (by with_reducible assumption) | exact at8 (by with_reducible assumption) | exact up1 (by with_reducible assumption) | exact up2 (by with_reducible assumption) | exact up2 (at1 (by with_reducible assumption)) | exact up2 (at2 (by with_reducible assumption)) | exact up2 (at3 (by with_reducible assumption)) | exact up2 (at4 (by with_reducible assumption)) | exact up1 (at1 (by with_reducible assumption)) | exact up1 (at2 (by with_reducible assumption)) | exact up1 (at3 (by with_reducible assumption)) | exact up1 (at4 (by with_reducible assumption)))) | omega)
  k_with "mem_go" => first | with_reducible assumption | exact List.Mem.head _ | (refine List.mem_cons_of_mem _ ?_; (k_extra "mem_go"))
  k_with "sub_go" => first | exact fun _ h => h | exact sub_nil | (refine sub_cons ?hSub ?_; (case hSub => (k_extra "mem_go")); (k_extra "sub_go")) | ((fail_if_success (refine sub_cons ?_ ?_)); refine sub_drop ?_; (k_extra "sub_go")) | with_reducible assumption
  k_with "off_go" => first | exact off_nil | with_reducible assumption | (refine off_cons ?hOff ?_; (case hOff => k_ne); (k_extra "off_go")) | exact off_old (by with_reducible assumption) (by (k_extra "sub_go")) | exact off_sub (by with_reducible assumption) (by (k_extra "sub_go"))
  k_with "k_mem" => (k_extra "mem_go")
  k_with "k_all" => (k_extra "off_go")
  trivial
noncomputable def scanOk (n1 n2 n3 : List Int) (st en hi lo : Int) : Prop :=
  (1 ≤ n1.length ∧ n1.length ≤ 4) ∧ (n2.length = n1.length ∧ n3.length = n1.length) ∧ n1.Nodup ∧ (∀ i ∈ n1, 0 ≤ i ∧ i ≤ 255) ∧ (∀ i ∈ n2 ++ n3, 0 ≤ i ∧ i ≤ 3) ∧ ((0 ≤ st ∧ st ≤ 63) ∧ 0 ≤ en ∧ en ≤ 63) ∧ (0 ≤ hi ∧ hi ≤ 15) ∧ 0 ≤ lo ∧ lo ≤ 15
theorem ints_elim {v : Value} {r : List Value} {suf : List Int} {P : Prop} (h : IntsAre (v :: r) suf) (k : ∀ i ti suf', v = .int i ti → suf = i :: suf' → IntsAre r suf' → P) : P := by
  cases h with
  | cons i ti h => exact k i ti _ rfl rfl h
theorem ints_end {suf : List Int} (h : IntsAre [] suf) : suf = [] := by cases h; rfl
theorem wsS1_1 : True := by
  w_top off
  k_with_none
  k_with "ktr_room" => first | exact room1 (by assumption) | exact room3 (by assumption) (Nat.le_of_ble_eq_true rfl) | exact room2 (by assumption) (Nat.le_of_ble_eq_true rfl)
  k_with "ktr_units" => first | exact unit3 (by assumption) (Nat.le_of_ble_eq_true rfl) | exact unit2 (by assumption) (Nat.le_of_ble_eq_true rfl)
  k_with "callWith ref" => (k_here; k_dflt (refine' callWith_K ?cwA ?cwB ?_; (case cwA => k_asm); (case cwB => k_is); k_whole))
  k_with "omega" => first | decide | with_reducible assumption | exact Int.lt_of_le_of_lt (by with_reducible assumption) (by decide) | exact Int.lt_of_lt_of_le (by with_reducible assumption) (by decide) | exact Int.le_trans (by with_reducible assumption) (by decide) | exact lo_tr (by with_reducible assumption) (by decide) | exact lo_le (by with_reducible assumption) (by decide) | exact Nat.le_trans (by with_reducible assumption) (by decide) | exact Nat.lt_of_le_of_lt (by with_reducible assumption) (by decide) | lia
  k_with "k_ne" => (refine neN ?_; (try dsimp only); first | decide | with_reducible assumption | exact Ne.symm (by with_reducible assumption) | (refine Nat.ne_of_gt ?_; (first | with_reducible assumption | exact at1 (by with_reducible assumption) | exact at2 (by with_reducible assumption) | exact at3 (by with_reducible assumption) | exact at4 (by with_reducible assumption) | exact at5 (by with_reducible assumption) | exact at6 (by with_reducible assumption) | exact at7 (by with_reducible assumption) | exact at8 (by with_reducible assumption) | exact up1 (by with_reducible assumption) | exact up2 (by with_reducible assumption) | exact up2 (at1 (by with_reducible assumption)) | exact up2 (at2 (by with_reducible assumption)) | exact up2 (at3 (by with_reducible assumption)) | exact up2 (at4 (by with_reducible assumption)) | exact up1 (at1 (by with_reducible assumption)) | exact up1 (at2 (by with_reducible assumption)) | exact up1 (at3 (by with_reducible assumption)) | exact up1 (at4 (by with_reducible assumption)))) | (refine Nat.ne_of_lt ?_; (first | with_reducible assumption | exact at1 (by with_reducible assumption) | exact at2 (by with_reducible assumption) | exact at3 (by with_reducible assumption) | exact at4 (by with_reducible assumption) | exact at5 (by with_reducible assumption) | exact at6 (by with_reducible assumption) | exact at7 (by with_reducible assumption) | exact at8 (by with_reducible assumption) | exact up1 (by with_reducible assumption) | exact up2 (by with_reducible assumption) | exact up2 (at1 (by with_reducible assumption)) | exact up2 (at2 (by with_reducible assumption)) | exact up2 (at3 (by with_reducible assumption)) | exact up2 (at4 (by with_reducible assumption)) | exact up1 (at1 (by with_reducible assumption)) | exact up1 (at2 (by with_reducible assumption)) | exact up1 (at3 (by with_reducible assumption)) | exact up1 (at4 (by with_reducible assumption)))) | omega)
  k_with "mem_go" => first | with_reducible assumption | exact List.Mem.head _ | (refine List.mem_cons_of_mem _ ?_; (k_extra "mem_go"))
  k_with "sub_go" => first | exact fun _ h => h | exact sub_nil | (refine sub_cons ?hSub ?_; (case hSub => (k_extra "mem_go")); (k_extra "sub_go")) | ((fail_if_success (refine sub_cons ?_ ?_)); refine sub_drop ?_; (k_extra "sub_go")) | with_reducible assumption
  k_with "off_go" => first | exact off_nil | with_reducible assumption | (refine off_cons ?hOff ?_; (case hOff => k_ne); (k_extra "off_go")) | exact off_old (by with_reducible assumption) (by (k_extra "sub_go")) | exact off_sub (by with_reducible assumption) (by (k_extra "sub_go"))
  k_with "k_mem" => (k_extra "mem_go")
  k_with "k_all" => (k_extra "off_go")
  k_with "leaving ref" => (k_here; refine' leave_onS (by k_asm) (by assumption) (by assumption) (by assumption) ?_; intro h' R' Rk' U'; clear Rk'; (try dsimp only at R' U'))
  k_with "ExcP" => (unfold ExcP; intro e3'; first | exact e3'.elim | (intro e' t' vs' g' h' tk' Fg' U' R'; (try simp only [decide_eq_false_iff_not, beq_eq_false_iff_ne, ne_eq] at e3'); first | (exfalso; omega; done) | skip))
  k_with "call ref" => (k_here; (with_reducible refine (?_ : wpAny _ _ (call (Value.ref 224) _) _ _ _)); k_dflt (refine CtK.run0 (by k_asm) (by k_asm) (areUnlike_ck (by (k_extra "mem_go")) (by assumption) (by omega) (by omega)) (by k_asm) (by k_asm) (by k_asm) (by first | rfl | assumption) (by ktr_room) (by ktr_units) (fun  h' tk' F' N' => ?_)); ((try dsimp only at N')))
  k_with "call ref" => (k_here; (with_reducible refine (?_ : wpAny _ _ (call (Value.ref 203) _) _ _ _)); k_dflt (refine CtK.run (by k_asm) (by k_asm) (want_ck) (by k_asm) (by k_asm) (by k_asm) (by first | rfl | assumption) (by ktr_room) (by ktr_units) (fun e3' h' tk' F' N' => ?_) ?_); case' _ => ((try dsimp only at N'); (try simp only [decide_eq_true_eq, beq_iff_eq] at e3'); first | (exfalso; omega; done) | skip))
  k_with "call builtin:len" => (k_here; k_dflt (refine len_news (by k_asm) (by (k_extra "mem_go")) rfl (by omega) ?_); intro _ _)
  k_with "exec For Name Attribute cons nil" => (k_here; (rename Fr _ _ _ _ => lF'); (with_unfolding_all refine' For_invVF lF' ?k1 ?k2 ?_; (case k1 => exact rfl); (case k2 => exact rfl); k_whole))
  k_with "exec For Name BinOp cons nil" => (k_here; (rename Fr _ _ _ _ => lF'); (with_unfolding_all refine' For_invVF lF' ?k1 ?k2 ?_; (case k1 => exact rfl); (case k2 => exact rfl); k_whole))
  k_with "pyIter ref" => (k_here; (with_reducible refine (?_ : wpAny _ _ (pyIter (Value.ref _)) (fun it s₂ => LoopAtV _ _ _ _ _ _ _ _ _ it s₂) _ _)); (with_unfolding_all refine iter_listUnr (by rfl) (by k_asm) (by k_asm) (by (k_extra "mem_go")) (by rfl) (by rfl) ?_); intro i' l1)
  trivial
set_option maxRecDepth 100000 in
set_option maxHeartbeats 8000000 in
theorem checkScan_ct {w : World} {x dx l1 l2 l3 : Addr} {o : Obj} {n1 n2 n3 : List Int} {st en hi lo : Int} {v1 v2 v3 : List Value} {c1 c2 c3 : Nat} {news : Led} (hx : (x, instObj 192 dx) ∈ news) (hdx : (dx, o) ∈ news) (hO : ScD w.params o l1 l2 l3 st en hi lo)
    (hl1 : (l1, listOf v1.toArray c1) ∈ news) (hl2 : (l2, listOf v2.toArray c2) ∈ news) (hl3 : (l3, listOf v3.toArray c3) ∈ news) (h1 : IntsAre v1 n1) (h2 : IntsAre v2 n2) (h3 : IntsAre v3 n3) (z1 : n1.length ≤ 40) (z2 : n2.length ≤ 40) (z3 : n3.length ≤ 40) :
    Ct w 257 [.ref x] news 20 160 (fun v news' => v = .none ∧ news' = news ∧ scanOk n1 n2 n3 st en hi lo) (¬ scanOk n1 n2 n3 st en hi lo) := by
  intro mean mg mb dp un gd cn csc a' ccd cl outer A₀ base h₀ L m s Q E X B F N T hk hd hu hret hexc
  obtain ⟨k1, k2, k3, k4, k5, k6, k7, t1, t2, t3, t4, rfl⟩ := hO
  have y1 := h1.length
  have y2 := h2.length
  have y3 := h3.length
  refine wpAny_call ?_
  k_dflt cell_enter
  k_steps
  refine list_plain (fun r => ∃ pre suf, n1 = pre ++ suf ∧ IntsAre r suf ∧ ∀ i ∈ pre, 0 ≤ i ∧ i ≤ 255) ?_ ?_ hl1 (by (k_extra "off_go")) ⟨[], n1, rfl, h1, fun _ h => nomatch h⟩
  · rintro v r ⟨pre, suf, rfl, hI, hpre⟩ it h tk hit F2 N2
    refine ints_elim hI ?_
    · rintro i ti suf rfl rfl hI
      k_steps
      · refine UnrEnd.intro (by k_asm) (by k_asm) news (fun _ h => h) (by (k_extra "off_go")) ⟨rfl, ⟨_, rfl⟩, pre ++ [i], _, by simp, hI, ?_⟩
        intro c hc
        rcases List.mem_append.mp hc with hc | hc
        · exact hpre c hc
        · rw [List.mem_singleton.mp hc]
          exact ⟨by omega, by omega⟩
      all_goals exact hexc (fun ok => by have := ok.2.2.2.1 i (by simp); omega) _ _ _ _ _ _ (by k_asm) (by assumption) (raised_sub (by assumption) (by (k_extra "sub_go")))
  · rintro ⟨pre, suf, rfl, hI, hpre⟩ lv h tk F2 N2
    · obtain rfl := ints_end hI
      rw [List.append_nil] at *
      k_steps
      refine list_plain (fun r => ∃ pre2 suf, n2 ++ n3 = pre2 ++ suf ∧ IntsAre r suf ∧ ∀ i ∈ pre2, 0 ≤ i ∧ i ≤ 3) ?_ ?_ (by (k_extra "mem_go")) (by (k_extra "off_go")) ⟨[], _, rfl, by assumption, fun _ h => nomatch h⟩
      · rintro v r ⟨pre2, suf, hE, hI, hp2⟩ it h tk hit F2 N2
        refine ints_elim hI ?_
        · rintro i ti suf rfl rfl hI
          k_steps
          · refine UnrEnd.intro (by k_asm) (by k_asm) _ (sub_cons (by (k_extra "mem_go")) (by (k_extra "sub_go"))) (by (k_extra "off_go")) ⟨rfl, ⟨_, rfl⟩, pre2 ++ [i], _, by rw [hE]; simp, hI, ?_⟩
            intro c hc
            rcases List.mem_append.mp hc with hc | hc
            · exact hp2 c hc
            · rw [List.mem_singleton.mp hc]
              exact ⟨by omega, by omega⟩
          all_goals exact hexc (fun ok => by have := ok.2.2.2.2.1 i (by rw [hE]; simp); omega) _ _ _ _ _ _ (by k_asm) (by assumption) (raised_sub (by assumption) (by (k_extra "sub_go")))
      · rintro ⟨pre2, suf, hE, hI, hp2⟩ lv h tk F2 N2
        · obtain rfl := ints_end hI
          rw [List.append_nil] at hE
          k_steps
          all_goals first
            | exact hret _ _ _ _ (by k_asm) (news_sub (by k_asm) (by (k_extra "sub_go"))) ⟨rfl, rfl, ⟨by omega, by omega⟩, ⟨by omega, by omega⟩, by assumption, hpre, hE ▸ hp2, ⟨⟨by omega, by omega⟩, by omega, by omega⟩, ⟨by omega, by omega⟩, by omega, by omega⟩
            | exact hexc (fun ok => by have a6 := ok.2.2.2.2.2; omega) _ _ _ _ _ _ (by k_asm) (by assumption) (raised_sub (by assumption) (by (k_extra "sub_go")))
  all_goals exact hexc (by intro ok; obtain ⟨a1, a2, a3, _⟩ := ok; first | omega | (rename ¬ List.Nodup _ => hn; exact hn a3)) _ _ _ _ _ _ (by k_asm) (by assumption) (by assumption)
theorem checkScan_ck {w : World} {x dx l1 l2 l3 : Addr} {o : Obj} {n1 n2 n3 : List Int} {st en hi lo : Int} {v1 v2 v3 : List Value} {c1 c2 c3 : Nat} {news : Led} (hx : (x, instObj 192 dx) ∈ news) (hdx : (dx, o) ∈ news) (hO : ScD w.params o l1 l2 l3 st en hi lo)
    (hl1 : (l1, listOf v1.toArray c1) ∈ news) (hl2 : (l2, listOf v2.toArray c2) ∈ news) (hl3 : (l3, listOf v3.toArray c3) ∈ news) (h1 : IntsAre v1 n1) (h2 : IntsAre v2 n2) (h3 : IntsAre v3 n3) (z1 : n1.length ≤ 40) (z2 : n2.length ≤ 40) (z3 : n3.length ≤ 40) : CtK w 257 [.ref x] news 20 160 (fun φ => scanOk n1 n2 n3 st en hi lo → φ .none news) (¬ scanOk n1 n2 n3 st en hi lo) :=
  (checkScan_ct hx hdx hO hl1 hl2 hl3 h1 h2 h3 z1 z2 z3).k kValP
-- part S2
theorem wsS2_0 : True := by
  w_top off
  k_with_none
  k_with "ktr_room" => first | exact room1 (by assumption) | exact room3 (by assumption) (Nat.le_of_ble_eq_true rfl) | exact room2 (by assumption) (Nat.le_of_ble_eq_true rfl)
  k_with "ktr_units" => first | exact unit3 (by assumption) (Nat.le_of_ble_eq_true rfl) | exact unit2 (by assumption) (Nat.le_of_ble_eq_true rfl)
  k_with "callWith ref" => (k_here; k_dflt (refine' callWith_K ?cwA ?cwB ?_; (case cwA => k_asm); (case cwB => k_is); k_whole))
  k_with "omega" => first | decide | with_reducible assumption | exact Int.lt_of_le_of_lt (by with_reducible assumption) (by decide) | exact Int.lt_of_lt_of_le (by with_reducible assumption) (by decide) | exact Int.le_trans (by with_reducible assumption) (by decide) | exact lo_tr (by with_reducible assumption) (by decide) | exact lo_le (by with_reducible assumption) (by decide) | exact Nat.le_trans (by with_reducible assumption) (by decide) | exact Nat.lt_of_le_of_lt (by with_reducible assumption) (by decide) | lia
  k_with "k_ne" => (refine neN ?_; (try dsimp only); first | decide | with_reducible assumption | exact Ne.symm (by with_reducible assumption) | (refine Nat.ne_of_gt ?_; (first | with_reducible assumption | exact at1 (by with_reducible assumption) | exact at2 (by with_reducible assumption) | exact at3 (by with_reducible assumption) | exact at4 (by with_reducible assumption) | exact at5 (by with_reducible assumption) | exact at6 (by with_reducible assumption) | exact at7 (by with_reducible assumption) | exact at8 (by with_reducible assumption) | exact up1 (by with_reducible assumption) | exact up2 (by with_reducible assumption) | exact up2 (at1 (by with_reducible assumption)) | exact up2 (at2 (by with_reducible assumption)) | exact up2 (at3 (by with_reducible assumption)) | exact up2 (at4 (by with_reducible assumption)) | exact up1 (at1 (by with_reducible assumption)) | exact up1 (at2 (by with_reducible assumption)) | exact up1 (at3 (by with_reducible assumption)) | exact up1 (at4 (by with_reducible assumption)))) | (refine Nat.ne_of_lt ?_; (first | with_reducible assumption | exact at1 (by with_reducible assumption) | exact at2 (by with_reducible assumption) | exact at3 (by with_reducible assumption) | exact at4 (by with_reducible assumption) | exact at5 (by with_reducible assumption) | exact at6 (by with_reducible assumption) | exact at7 (by with_reducible assumption) | exact at8 (by with_reducible assumption) | exact up1 (by with_reducible assumption) | exact up2 (by with_reducible assumption) | exact up2 (at1 (by with_reducible assumption)) | exact up2 (at2 (by with_reducible assumption)) | exact up2 (at3 (by with_reducible assumption)) | exact up2 (at4 (by with_reducible assumption)) | exact up1 (at1 (by with_reducible assumption)) | exact up1 (at2 (by with_reducible assumption)) | exact up1 (at3 (by with_reducible assumption)) | exact up1 (at4 (by with_reducible assumption)))) | omega)
  k_with "mem_go" => first | with_reducible assumption | exact List.Mem.head _ | (refine List.mem_cons_of_mem _ ?_; (k_extra "mem_go"))
  k_with "sub_go" => first | exact fun _ h => h | exact sub_nil | (refine sub_cons ?hSub ?_; (case hSub => (k_extra "mem_go")); (k_extra "sub_go")) | ((fail_if_success (refine sub_cons ?_ ?_)); refine sub_drop ?_; (k_extra "sub_go")) | with_reducible assumption
  k_with "off_go" => first | exact off_nil | with_reducible assumption | (refine off_cons ?hOff ?_; (case hOff => k_ne); (k_extra "off_go")) | exact off_old (by with_reducible assumption) (by (k_extra "sub_go")) | exact off_sub (by with_reducible assumption) (by (k_extra "sub_go"))
  k_with "k_mem" => (k_extra "mem_go")
  k_with "k_all" => (k_extra "off_go")
  trivial
noncomputable def octPairs : List Int → List Int → List Int → List Int
  | a :: as, b :: bs, c :: cs => a :: (b * 16 + c) :: octPairs as bs cs
  | _, _, _ => []
noncomputable def scanOct (n1 n2 n3 : List Int) (st en hi lo : Int) : List Int := (n1.length : Int) :: octPairs n1 n2 n3 ++ [st, en, hi * 16 + lo]
theorem octPairs_len : ∀ (n1 n2 n3 : List Int), n2.length = n1.length → n3.length = n1.length → (octPairs n1 n2 n3).length = 2 * n1.length
  | [], _, _, _, _ => rfl
  | a :: as, b :: bs, c :: cs, h1, h2 => by
    simp only [octPairs, List.length_cons] at *
    rw [octPairs_len as bs cs (by omega) (by omega)]
    omega
theorem octPairs_snoc : ∀ (i : Nat) {n1 n2 n3 : List Int} {a b c : Int}, n1[i]? = some a → n2[i]? = some b → n3[i]? = some c → octPairs (n1.take (i + 1)) (n2.take (i + 1)) (n3.take (i + 1)) = octPairs (n1.take i) (n2.take i) (n3.take i) ++ [a, b * 16 + c]
  | 0, x :: _, y :: _, z :: _, _, _, _, h1, h2, h3 => by
    cases h1; cases h2; cases h3
    simp [octPairs]
  | i + 1, x :: n1, y :: n2, z :: n3, _, _, _, h1, h2, h3 => by
    rw [List.getElem?_cons_succ] at h1 h2 h3
    simp only [List.take_succ_cons, octPairs, List.cons_append]
    rw [octPairs_snoc i h1 h2 h3]
theorem wsS2_1 : True := by
  w_top off
  k_with_none
  k_with "ktr_room" => first | exact room1 (by assumption) | exact room3 (by assumption) (Nat.le_of_ble_eq_true rfl) | exact room2 (by assumption) (Nat.le_of_ble_eq_true rfl)
  k_with "ktr_units" => first | exact unit3 (by assumption) (Nat.le_of_ble_eq_true rfl) | exact unit2 (by assumption) (Nat.le_of_ble_eq_true rfl)
  k_with "callWith ref" => (k_here; k_dflt (refine' callWith_K ?cwA ?cwB ?_; (case cwA => k_asm); (case cwB => k_is); k_whole))
  k_with "omega" => first | decide | with_reducible assumption | exact Int.lt_of_le_of_lt (by with_reducible assumption) (by decide) | exact Int.lt_of_lt_of_le (by with_reducible assumption) (by decide) | exact Int.le_trans (by with_reducible assumption) (by decide) | exact lo_tr (by with_reducible assumption) (by decide) | exact lo_le (by with_reducible assumption) (by decide) | exact Nat.le_trans (by with_reducible assumption) (by decide) | exact Nat.lt_of_le_of_lt (by with_reducible assumption) (by decide) | lia
  k_with "k_ne" => (refine neN ?_; (try dsimp only); first | decide | with_reducible assumption | exact Ne.symm (by with_reducible assumption) | (refine Nat.ne_of_gt ?_; (first | with_reducible assumption | exact at1 (by with_reducible assumption) | exact at2 (by with_reducible assumption) | exact at3 (by with_reducible assumption) | exact at4 (by with_reducible assumption) | exact at5 (by with_reducible assumption) | exact at6 (by with_reducible assumption) | exact at7 (by with_reducible assumption) | exact at8 (by with_reducible assumption) | exact up1 (by with_reducible assumption) | exact up2 (by with_reducible assumption) | exact up2 (at1 (by with_reducible assumption)) | exact up2 (at2 (by with_reducible assumption)) | exact up2 (at3 (by with_reducible assumption)) | exact up2 (at4 (by with_reducible assumption)) | exact up1 (at1 (by with_reducible assumption)) | exact up1 (at2 (by with_reducible assumption)) | exact up1 (at3 (by with_reducible assumption)) | exact up1 (at4 (by with_reducible assumption)))) | (refine Nat.ne_of_lt ?_; (first | with_reducible assumption | exact at1 (by with_reducible assumption) | exact at2 (by with_reducible assumption) | exact at3 (by with_reducible assumption) | exact at4 (by with_reducible assumption) | exact at5 (by with_reducible assumption) | exact at6 (by with_reducible assumption) | exact at7 (by with_reducible assumption) | exact at8 (by with_reducible assumption) | exact up1 (by with_reducible assumption) | exact up2 (by with_reducible assumption) | exact up2 (at1 (by with_reducible assumption)) | exact up2 (at2 (by with_reducible assumption)) | exact up2 (at3 (by with_reducible assumption)) | exact up2 (at4 (by with_reducible assumption)) | exact up1 (at1 (by with_reducible assumption)) | exact up1 (at2 (by with_reducible assumption)) | exact up1 (at3 (by with_reducible assumption)) | exact up1 (at4 (by with_reducible assumption)))) | omega)
  k_with "mem_go" => first | with_reducible assumption | exact List.Mem.head _ | (refine List.mem_cons_of_mem _ ?_; (k_extra "mem_go"))
  k_with "sub_go" => first | exact fun _ h => h | exact sub_nil | (refine sub_cons ?hSub ?_; (case hSub => (k_extra "mem_go")); (k_extra "sub_go")) | ((fail_if_success (refine sub_cons ?_ ?_)); refine sub_drop ?_; (k_extra "sub_go")) | with_reducible assumption
  k_with "off_go" => first | exact off_nil | with_reducible assumption | (refine off_cons ?hOff ?_; (case hOff => k_ne); (k_extra "off_go")) | exact off_old (by with_reducible assumption) (by (k_extra "sub_go")) | exact off_sub (by with_reducible assumption) (by (k_extra "sub_go"))
  k_with "k_mem" => (k_extra "mem_go")
  k_with "k_all" => (k_extra "off_go")
  k_with "leaving ref" => (k_here; refine' leave_onS (by k_asm) (by assumption) (by assumption) (by assumption) ?_; intro h' R' Rk' U'; clear Rk'; (try dsimp only at R' U'))
  k_with "ExcP" => (unfold ExcP; intro e3' e' t' vs' g' h' tk' Fg' U' R')
  k_with "call ref" => (k_here; (with_reducible refine (?_ : wpAny _ _ (call (Value.ref 257) _) _ _ _)); k_dflt (refine CtK.run (by k_asm) (by k_asm) (checkScan_ck (by (k_extra "mem_go")) (by (k_extra "mem_go")) (by assumption) (by (k_extra "mem_go")) (by (k_extra "mem_go")) (by (k_extra "mem_go")) (by assumption) (by assumption) (by assumption) (by assumption) (by assumption) (by assumption)) (by k_asm) (by k_asm) (by k_asm) (by first | rfl | assumption) (by ktr_room) (by ktr_units) (fun ok' h' tk' F' N' => ?_) ?_); case' _ => ((try dsimp only at N'); obtain ⟨⟨ok1, ok1'⟩, ⟨ok2, ok2'⟩, ok3, ok4, ok5, ⟨⟨ok6, ok6'⟩, ok7, ok7'⟩, ⟨ok8, ok8'⟩, ok9, ok9'⟩ := (id ok' : scanOk _ _ _ _ _ _ _)))
  k_with "call builtin:len" => (k_here; k_dflt (refine len_news (by k_asm) (by (k_extra "mem_go")) (by assumption) (by omega) ?_); intro _ _)
  k_with "exec For Name Call cons nil" => (k_here; (rename Fr _ _ _ _ => lF'); (with_unfolding_all refine' For_invVF lF' ?k1 ?k2 ?_; (case k1 => exact rfl); (case k2 => exact rfl); k_whole))
  k_with "pyIter ref" => (k_here; (with_reducible refine (?_ : wpAny _ _ (pyIter (Value.ref _)) (fun it s₂ => LoopAtV _ _ _ _ _ _ _ _ _ it s₂) _ _)); (with_unfolding_all refine iter_rangeUnr (by rfl) (by assumption) (rg_small (by omega)) (rg_size _) (by k_asm) (by k_asm) ?_); intro i' l1)
  k_with "subscriptTail" => (k_here; (with_reducible refine (?_ : wpAny _ _ (subscriptTail _ _ (Value.ref _) (Value.int _ _)) _ _ _)); k_dflt (refine item_news (by k_asm) (by (k_extra "mem_go")) (by omega) (by omega) (by assumption) (by with_unfolding_all rfl) ?_))
  k_with "call type:bytes" => (k_here; (with_reducible refine (?_ : wpAny _ _ (call (Value.type "bytes") [Value.ref _]) _ _ _)); k_dflt (refine' KBa.make_K ?kbaF ?kbaN ?kbah ?kbal ?kbai ?kbar ?kban ?_; (case kbaF => k_asm); (case kbaN => k_asm); (case kbah => rfl); (case kbal => kba_isList); (case kbai => kba_listInts); (case kbar => ((repeat' (first | exact inB_nil | refine inB_cons ?_ ?_ ?_)) <;> omega)); (case kban => exact Nat.le_of_ble_eq_true rfl)); intro _ _ _ F' N' kbaIn)
  k_with "binaryOp Add bytes bytes" => (k_here; (with_reducible refine (?_ : wpAny _ _ (binaryOp Operator.Add (Value.bytes _ _) (Value.bytes _ _)) _ _ _)); (refine KBa.add_K (by kba_ints) (by kba_ints2) (by simp only [List.length_append, List.length_cons, List.length_nil]; omega) ?_); intro _ _ kbaApp)
  trivial
set_option maxRecDepth 100000 in
set_option maxHeartbeats 8000000 in
theorem writeScan_ct {w : World} {x dx l1 l2 l3 : Addr} {o : Obj} {n1 n2 n3 : List Int} {st en hi lo : Int} {v1 v2 v3 : List Value} {c1 c2 c3 : Nat} {news : Led} (hx : (x, instObj 192 dx) ∈ news) (hdx : (dx, o) ∈ news) (hO : ScD w.params o l1 l2 l3 st en hi lo)
    (hl1 : (l1, listOf v1.toArray c1) ∈ news) (hl2 : (l2, listOf v2.toArray c2) ∈ news) (hl3 : (l3, listOf v3.toArray c3) ∈ news) (h1 : IntsAre v1 n1) (h2 : IntsAre v2 n2) (h3 : IntsAre v3 n3) (z1 : n1.length ≤ 40) (z2 : n2.length ≤ 40) (z3 : n3.length ≤ 40) :
    Ct w 271 [.ref x] news 24 220 (fun v news' => (∃ b t, v = .bytes b t ∧ KBw.bInts b = scanOct n1 n2 n3 st en hi lo) ∧ news' = news ∧ scanOk n1 n2 n3 st en hi lo) (¬ scanOk n1 n2 n3 st en hi lo) := by
  intro mean mg mb dp un gd cn csc a' ccd cl outer A₀ base h₀ L m s Q E X B F N T hk hd hu hret hexc
  have hO' := hO
  obtain ⟨k1, k2, k3, k4, k5, k6, k7, t1, t2, t3, t4, rfl⟩ := hO
  have y1 := h1.length
  have y2 := h2.length
  have y3 := h3.length
  refine wpAny_call ?_
  k_dflt cell_enter
  k_steps
  rotate_left
  · exact hexc (by assumption) _ _ _ _ _ _ (by k_asm) (by assumption) (by assumption)
  refine range_acc (Str.ofString "found") (fun i u => ∃ b t, u = .bytes b t ∧ KBw.bInts b = (n1.length : Int) :: octPairs (n1.take i) (n2.take i) (n3.take i)) ?_ ?_ (by (k_extra "off_go")) (by rfl) ⟨_, _, rfl, by rename KBa.In _ => q; exact KBa.ints_make q⟩
  · rintro i u hi ⟨b, t, rfl, hb⟩ tt h tk F2 N2
    refine ints_get3 h1 h2 h3 (i := i) hi (by omega) (by omega) ?_
    intro a1 ta a2 tb a3 tc e1 f1 m1 e2 f2 m2 e3 f3 m3
    have q1 := ok4 a1 m1
    have q2 := ok5 a2 (List.mem_append_left _ m2)
    have q3 := ok5 a3 (List.mem_append_right _ m3)
    have hl := octPairs_len (n1.take i) (n2.take i) (n3.take i) (by simp only [List.length_take]; omega) (by simp only [List.length_take]; omega)
    rw [List.length_take] at hl
    k_steps
    exact UnrEnd.intro (by k_asm) (by k_asm) _ (sub_cons (by (k_extra "mem_go")) (by (k_extra "sub_go"))) (by (k_extra "off_go")) ⟨rfl, _, _, acc_norm (by decide), _, _, rfl, by
      rename KBw.bInts (b ++ _) = _ => q
      rw [q, octPairs_snoc i f1 f2 f3]
      rfl⟩
  · rintro u ⟨b, t, rfl, hb⟩ lv h tk F2 N2
    rw [List.take_of_length_le (Nat.le_refl _), List.take_of_length_le (by omega), List.take_of_length_le (by omega)] at hb
    have hl := octPairs_len n1 n2 n3 ok2 ok2'
    k_steps
    exact hret _ _ _ _ (by k_asm) (news_sub (by k_asm) (by (k_extra "sub_go"))) ⟨⟨_, _, rfl, by
      rename KBw.bInts (b ++ _) = _ => q
      rw [q]
      rfl⟩, rfl, ok'⟩
theorem writeScan_ck {w : World} {x dx l1 l2 l3 : Addr} {o : Obj} {n1 n2 n3 : List Int} {st en hi lo : Int} {v1 v2 v3 : List Value} {c1 c2 c3 : Nat} {news : Led} (hx : (x, instObj 192 dx) ∈ news) (hdx : (dx, o) ∈ news) (hO : ScD w.params o l1 l2 l3 st en hi lo)
    (hl1 : (l1, listOf v1.toArray c1) ∈ news) (hl2 : (l2, listOf v2.toArray c2) ∈ news) (hl3 : (l3, listOf v3.toArray c3) ∈ news) (h1 : IntsAre v1 n1) (h2 : IntsAre v2 n2) (h3 : IntsAre v3 n3) (z1 : n1.length ≤ 40) (z2 : n2.length ≤ 40) (z3 : n3.length ≤ 40) : CtK w 271 [.ref x] news 24 220 (fun φ => ∀ b t, KBw.bInts b = scanOct n1 n2 n3 st en hi lo → scanOk n1 n2 n3 st en hi lo → φ (.bytes b t) news) (¬ scanOk n1 n2 n3 st en hi lo) :=
  (writeScan_ct hx hdx hO hl1 hl2 hl3 h1 h2 h3 z1 z2 z3).k kBytesP
-- part R1
theorem wsR1_0 : True := by
  w_top off
  k_with_none
  k_with "ktr_room" => first | exact room1 (by assumption) | exact room3 (by assumption) (Nat.le_of_ble_eq_true rfl) | exact room2 (by assumption) (Nat.le_of_ble_eq_true rfl)
  k_with "ktr_units" => first | exact unit3 (by assumption) (Nat.le_of_ble_eq_true rfl) | exact unit2 (by assumption) (Nat.le_of_ble_eq_true rfl)
  k_with "callWith ref" => (k_here; k_dflt (refine' callWith_K ?cwA ?cwB ?_; (case cwA => k_asm); (case cwB => k_is); k_whole))
  k_with "omega" => first | decide | with_reducible assumption | exact Int.lt_of_le_of_lt (by with_reducible assumption) (by decide) | exact Int.lt_of_lt_of_le (by with_reducible assumption) (by decide) | exact Int.le_trans (by with_reducible assumption) (by decide) | exact lo_tr (by with_reducible assumption) (by decide) | exact lo_le (by with_reducible assumption) (by decide) | exact Nat.le_trans (by with_reducible assumption) (by decide) | exact Nat.lt_of_le_of_lt (by with_reducible assumption) (by decide) | lia
  k_with "k_ne" => (refine neN ?_; (try dsimp only); first | decide | with_reducible assumption | exact Ne.symm (by with_reducible assumption) | (refine Nat.ne_of_gt ?_; (first | with_reducible assumption | exact at1 (by with_reducible assumption) | exact at2 (by with_reducible assumption) | exact at3 (by with_reducible assumption) | exact at4 (by with_reducible assumption) | exact at5 (by with_reducible assumption) | exact at6 (by with_reducible assumption) | exact at7 (by with_reducible assumption) | exact at8 (by with_reducible assumption) | exact up1 (by with_reducible assumption) | exact up2 (by with_reducible assumption) | exact up2 (at1 (by with_reducible assumption)) | exact up2 (at2 (by with_reducible assumption)) | exact up2 (at3 (by with_reducible assumption)) | exact up2 (at4 (by with_reducible assumption)) | exact up1 (at1 (by with_reducible assumption)) | exact up1 (at2 (by with_reducible assumption)) | exact up1 (at3 (by with_reducible assumption)) | exact up1 (at4 (by with_reducible assumption)))) | (refine Nat.ne_of_lt ?_; (first | with_reducible assumption | exact at1 (by with_reducible assumption) | exact at2 (by with_reducible assumption) | exact at3 (by with_reducible assumption) | exact at4 (by with_reducible assumption) | exact at5 (by with_reducible assumption) | exact at6 (by with_reducible assumption) | exact at7 (by with_reducible assumption) | exact at8 (by with_reducible assumption) | exact up1 (by with_reducible assumption) | exact up2 (by with_reducible assumption) | exact up2 (at1 (by with_reducible assumption)) | exact up2 (at2 (by with_reducible assumption)) | exact up2 (at3 (by with_reducible assumption)) | exact up2 (at4 (by with_reducible assumption)) | exact up1 (at1 (by with_reducible assumption)) | exact up1 (at2 (by with_reducible assumption)) | exact up1 (at3 (by with_reducible assumption)) | exact up1 (at4 (by with_reducible assumption)))) | omega)
  k_with "mem_go" => first | with_reducible assumption | exact List.Mem.head _ | (refine List.mem_cons_of_mem _ ?_; (k_extra "mem_go"))
  k_with "sub_go" => first | exact fun _ h => h | exact sub_nil | (refine sub_cons ?hSub ?_; (case hSub => (k_extra "mem_go")); (k_extra "sub_go")) | ((fail_if_success (refine sub_cons ?_ ?_)); refine sub_drop ?_; (k_extra "sub_go")) | with_reducible assumption
  k_with "off_go" => first | exact off_nil | with_reducible assumption | (refine off_cons ?hOff ?_; (case hOff => k_ne); (k_extra "off_go")) | exact off_old (by with_reducible assumption) (by (k_extra "sub_go")) | exact off_sub (by with_reducible assumption) (by (k_extra "sub_go"))
  k_with "k_mem" => (k_extra "mem_go")
  k_with "k_all" => (k_extra "off_go")
  trivial
theorem wsR1_1 : True := by
  w_top off
  k_with_none
  k_with "ktr_room" => first | exact room1 (by assumption) | exact room3 (by assumption) (Nat.le_of_ble_eq_true rfl) | exact room2 (by assumption) (Nat.le_of_ble_eq_true rfl)
  k_with "ktr_units" => first | exact unit3 (by assumption) (Nat.le_of_ble_eq_true rfl) | exact unit2 (by assumption) (Nat.le_of_ble_eq_true rfl)
  k_with "callWith ref" => (k_here; k_dflt (refine' callWith_K ?cwA ?cwB ?_; (case cwA => k_asm); (case cwB => k_is); k_whole))
  k_with "omega" => first | decide | with_reducible assumption | exact Int.lt_of_le_of_lt (by with_reducible assumption) (by decide) | exact Int.lt_of_lt_of_le (by with_reducible assumption) (by decide) | exact Int.le_trans (by with_reducible assumption) (by decide) | exact lo_tr (by with_reducible assumption) (by decide) | exact lo_le (by with_reducible assumption) (by decide) | exact Nat.le_trans (by with_reducible assumption) (by decide) | exact Nat.lt_of_le_of_lt (by with_reducible assumption) (by decide) | lia
  k_with "k_ne" => (refine neN ?_; (try dsimp only); first | decide | with_reducible assumption | exact Ne.symm (by with_reducible assumption) | (refine Nat.ne_of_gt ?_; (first | with_reducible assumption | exact at1 (by with_reducible assumption) | exact at2 (by with_reducible assumption) | exact at3 (by with_reducible assumption) | exact at4 (by with_reducible assumption) | exact at5 (by with_reducible assumption) | exact at6 (by with_reducible assumption) | exact at7 (by with_reducible assumption) | exact at8 (by with_reducible assumption) | exact up1 (by with_reducible assumption) | exact up2 (by with_reducible assumption) | exact up2 (at1 (by with_reducible assumption)) | exact up2 (at2 (by with_reducible assumption)) | exact up2 (at3 (by with_reducible assumption)) | exact up2 (at4 (by with_reducible assumption)) | exact up1 (at1 (by with_reducible assumption)) | exact up1 (at2 (by with_reducible assumption)) | exact up1 (at3 (by with_reducible assumption)) | exact up1 (at4 (by with_reducible assumption)))) | (refine Nat.ne_of_lt ?_; (first | with_reducible assumption | exact at1 (by with_reducible assumption) | exact at2 (by with_reducible assumption) | exact at3 (by with_reducible assumption) | exact at4 (by with_reducible assumption) | exact at5 (by with_reducible assumption) | exact at6 (by with_reducible assumption) | exact at7 (by with_reducible assumption) | exact at8 (by with_reducible assumption) | exact up1 (by with_reducible assumption) | exact up2 (by with_reducible assumption) | exact up2 (at1 (by with_reducible assumption)) | exact up2 (at2 (by with_reducible assumption)) | exact up2 (at3 (by with_reducible assumption)) | exact up2 (at4 (by with_reducible assumption)) | exact up1 (at1 (by with_reducible assumption)) | exact up1 (at2 (by with_reducible assumption)) | exact up1 (at3 (by with_reducible assumption)) | exact up1 (at4 (by with_reducible assumption)))) | omega)
  k_with "mem_go" => first | with_reducible assumption | exact List.Mem.head _ | (refine List.mem_cons_of_mem _ ?_; (k_extra "mem_go"))
  k_with "sub_go" => first | exact fun _ h => h | exact sub_nil | (refine sub_cons ?hSub ?_; (case hSub => (k_extra "mem_go")); (k_extra "sub_go")) | ((fail_if_success (refine sub_cons ?_ ?_)); refine sub_drop ?_; (k_extra "sub_go")) | with_reducible assumption
  k_with "off_go" => first | exact off_nil | with_reducible assumption | (refine off_cons ?hOff ?_; (case hOff => k_ne); (k_extra "off_go")) | exact off_old (by with_reducible assumption) (by (k_extra "sub_go")) | exact off_sub (by with_reducible assumption) (by (k_extra "sub_go"))
  k_with "k_mem" => (k_extra "mem_go")
  k_with "k_all" => (k_extra "off_go")
  k_with "leaving ref" => (k_here; refine' leave_onS (by k_asm) (by assumption) (by assumption) (by assumption) ?_; intro h' R' Rk' U'; clear Rk'; (try dsimp only at R' U'))
  k_with "ExcP" => (unfold ExcP; intro e3' e' t' vs' g' h' tk' Fg' U' R')
  k_with "call ref" => (k_here; (with_reducible refine (?_ : wpAny _ _ (call (Value.ref 203) _) _ _ _)); k_dflt (refine CtK.run (by k_asm) (by k_asm) (want_ck) (by k_asm) (by k_asm) (by k_asm) (by first | rfl | assumption) (by ktr_room) (by ktr_units) (fun e3' h' tk' F' N' => ?_) ?_); case' _ => ((try dsimp only at N'); exfalso; simp only [decide_eq_true_eq, beq_iff_eq] at e3'; exact hbad ⟨by omega, by first | exact e3' | omega⟩))
  trivial
set_option maxRecDepth 100000 in
set_option maxHeartbeats 8000000 in
theorem readFrameBad_ct {w : World} {code : Int} {tc : Tok} {b : Array UInt8} {tb : Tok} {ns : List Int} {news : Led} (hb : KBw.bInts b = ns) (hz : ns.length ≤ 100) (hbad : ¬ (6 ≤ ns.length ∧ (ns.length : Int) = 6 + 3 * ns.getD 5 0)) :
    Ct w 243 [.int code tc, .bytes b tb] news 20 160 (fun _ _ => False) True := by
  intro mean mg mb dp un gd cn csc a' ccd cl outer A₀ base h₀ L m s Q E X B F N T hk hd hu hret hexc
  refine wpAny_call ?_
  k_dflt cell_enter
  k_steps
  all_goals exact hexc trivial _ _ _ _ _ _ (by k_asm) (by assumption) (by assumption)
set_option maxRecDepth 100000 in
set_option maxHeartbeats 8000000 in
theorem readScanBad_ct {w : World} {b : Array UInt8} {tb : Tok} {ns : List Int} {news : Led} (hb : KBw.bInts b = ns) (hz : ns.length ≤ 100) (hbad : ¬ (1 ≤ ns.length ∧ (ns.length : Int) = 4 + 2 * ns.getD 0 0)) :
    Ct w 264 [.bytes b tb] news 20 160 (fun _ _ => False) True := by
  intro mean mg mb dp un gd cn csc a' ccd cl outer A₀ base h₀ L m s Q E X B F N T hk hd hu hret hexc
  refine wpAny_call ?_
  k_dflt cell_enter
  k_steps
  all_goals exact hexc trivial _ _ _ _ _ _ (by k_asm) (by assumption) (by assumption)
-- part R2
theorem wsR2_0 : True := by
  w_top off
  k_with_none
  k_with "ktr_room" => first | exact room1 (by assumption) | exact room3 (by assumption) (Nat.le_of_ble_eq_true rfl) | exact room2 (by assumption) (Nat.le_of_ble_eq_true rfl)
  k_with "ktr_units" => first | exact unit3 (by assumption) (Nat.le_of_ble_eq_true rfl) | exact unit2 (by assumption) (Nat.le_of_ble_eq_true rfl)
  k_with "callWith ref" => (k_here; k_dflt (refine' callWith_K ?cwA ?cwB ?_; (case cwA => k_asm); (case cwB => k_is); k_whole))
  k_with "omega" => first | decide | with_reducible assumption | exact Int.lt_of_le_of_lt (by with_reducible assumption) (by decide) | exact Int.lt_of_lt_of_le (by with_reducible assumption) (by decide) | exact Int.le_trans (by with_reducible assumption) (by decide) | exact lo_tr (by with_reducible assumption) (by decide) | exact lo_le (by with_reducible assumption) (by decide) | exact Nat.le_trans (by with_reducible assumption) (by decide) | exact Nat.lt_of_le_of_lt (by with_reducible assumption) (by decide) | lia
  k_with "k_ne" => (refine neN ?_; (try dsimp only); first | decide | with_reducible assumption | exact Ne.symm (by with_reducible assumption) | (refine Nat.ne_of_gt ?_; (first | with_reducible assumption | exact at1 (by with_reducible assumption) | exact at2 (by with_reducible assumption) | exact at3 (by with_reducible assumption) | exact at4 (by with_reducible assumption) | exact at5 (by with_reducible assumption) | exact at6 (by with_reducible assumption) | exact at7 (by with_reducible assumption) | exact at8 (by with_reducible assumption) | exact up1 (by with_reducible assumption) | exact up2 (by with_reducible assumption) | exact up2 (at1 (by with_reducible assumption)) | exact up2 (at2 (by with_reducible assumption)) | exact up2 (at3 (by with_reducible assumption)) | exact up2 (at4 (by with_reducible assumption)) | exact up1 (at1 (by with_reducible assumption)) | exact up1 (at2 (by with_reducible assumption)) | exact up1 (at3 (by with_reducible assumption)) | exact up1 (at4 (by with_reducible assumption)))) | (refine Nat.ne_of_lt ?_; (first | with_reducible assumption | exact at1 (by with_reducible assumption) | exact at2 (by with_reducible assumption) | exact at3 (by with_reducible assumption) | exact at4 (by with_reducible assumption) | exact at5 (by with_reducible assumption) | exact at6 (by with_reducible assumption) | exact at7 (by with_reducible assumption) | exact at8 (by with_reducible assumption) | exact up1 (by with_reducible assumption) | exact up2 (by with_reducible assumption) | exact up2 (at1 (by with_reducible assumption)) | exact up2 (at2 (by with_reducible assumption)) | exact up2 (at3 (by with_reducible assumption)) | exact up2 (at4 (by with_reducible assumption)) | exact up1 (at1 (by with_reducible assumption)) | exact up1 (at2 (by with_reducible assumption)) | exact up1 (at3 (by with_reducible assumption)) | exact up1 (at4 (by with_reducible assumption)))) | omega)
  k_with "mem_go" => first | with_reducible assumption | exact List.Mem.head _ | (refine List.mem_cons_of_mem _ ?_; (k_extra "mem_go"))
  k_with "sub_go" => first | exact fun _ h => h | exact sub_nil | (refine sub_cons ?hSub ?_; (case hSub => (k_extra "mem_go")); (k_extra "sub_go")) | ((fail_if_success (refine sub_cons ?_ ?_)); refine sub_drop ?_; (k_extra "sub_go")) | with_reducible assumption
  k_with "off_go" => first | exact off_nil | with_reducible assumption | (refine off_cons ?hOff ?_; (case hOff => k_ne); (k_extra "off_go")) | exact off_old (by with_reducible assumption) (by (k_extra "sub_go")) | exact off_sub (by with_reducible assumption) (by (k_extra "sub_go"))
  k_with "k_mem" => (k_extra "mem_go")
  k_with "k_all" => (k_extra "off_go")
  trivial
/-- the frame's names, but for some -/
noncomputable def Off (xs : List Str) (m m₀ : Str → Option Value) : Prop := ∀ y, y ∉ xs → m y = m₀ y
theorem Off.refl {xs : List Str} {m : Str → Option Value} : Off xs m m := fun _ _ => rfl
theorem Off.set {xs : List Str} {m m₀ : Str → Option Value} {x : Str} {v : Option Value} (hx : x ∈ xs) (h : Off xs m m₀) : Off xs (fun y => if y = x then v else m y) m₀ := fun y hy => by
  show (if y = x then v else m y) = m₀ y
  rw [if_neg (fun e => hy (by rw [e]; exact hx))]
  exact h y hy
theorem Off.form3 {a b c : Str} {m m₀ : Str → Option Value} (h : Off [a, b, c] m m₀) : m = fun y => if y = a then m a else if y = b then m b else if y = c then m c else m₀ y := by
  funext y
  by_cases ha : y = a
  · subst ha; simp
  by_cases hb : y = b
  · subst hb; simp [ha]
  by_cases hc : y = c
  · subst hc; simp [ha, hb]
  · simp only [ha, hb, hc, if_false]
    exact h y (by simp [ha, hb, hc])
theorem flat_get : ∀ (cs : List C4) (i : Nat) {c : C4}, cs[i]? = some c → (cs.flatMap compOct)[3 * i]? = some c.1 ∧ (cs.flatMap compOct)[3 * i + 1]? = some (c.2.1 * 16 + c.2.2.1) ∧ (cs.flatMap compOct)[3 * i + 1 + 1]? = some c.2.2.2
  | c :: cs, 0, _, h => by cases h; exact ⟨rfl, rfl, rfl⟩
  | c :: cs, i + 1, _, h => by
    have q := flat_get cs i (by rwa [List.getElem?_cons_succ] at h)
    rw [List.flatMap_cons]
    have e : 3 * (i + 1) = 3 * i + 1 + 1 + 1 := by omega
    rw [e]
    exact q
theorem frameOct_get {prec height width : Int} {cs : List C4} {i : Nat} {c : C4} (h : cs[i]? = some c) : (frameOct prec height width cs)[6 + 3 * i]? = some c.1 ∧ (frameOct prec height width cs)[6 + 3 * i + 1]? = some (c.2.1 * 16 + c.2.2.1) ∧ (frameOct prec height width cs)[6 + 3 * i + 1 + 1]? = some c.2.2.2 := by
  have q := flat_get cs i h
  have e : 6 + 3 * i = 3 * i + 1 + 1 + 1 + 1 + 1 + 1 := by omega
  rw [e]
  exact q
theorem frameOct_len {prec height width : Int} {cs : List C4} : (frameOct prec height width cs).length = 6 + 3 * cs.length := by
  unfold frameOct
  rw [List.length_append, flat_len]
  rfl
theorem CompsIn.mono {P : Params} {n n' : Led} (h : ∀ p ∈ n, p ∈ n') : ∀ {vs : List Value} {cs : List C4}, CompsIn P n vs cs → CompsIn P n' vs cs
  | [], [], _ => trivial
  | _ :: _, _ :: _, ⟨⟨x, dx, o, e, h1, h2, h3⟩, r⟩ => ⟨⟨x, dx, o, e, h _ h1, h _ h2, h3⟩, r.mono h⟩
theorem CompsIn.snoc {P : Params} {n : Led} {v : Value} {c : C4} (hv : ∃ x dx o, v = .ref x ∧ (x, instObj 150 dx) ∈ n ∧ (dx, o) ∈ n ∧ CompD P o c.1 c.2.1 c.2.2.1 c.2.2.2) : ∀ {vs : List Value} {cs : List C4}, CompsIn P n vs cs → CompsIn P n (vs ++ [v]) (cs ++ [c])
  | [], [], _ => ⟨hv, trivial⟩
  | _ :: _, _ :: _, ⟨h, r⟩ => ⟨h, r.snoc hv⟩
theorem upd_of {d : Addr} {o o' : Obj} {post : Led} (hb : ∀ p ∈ post, p.1 ≠ d) : ∀ {pre : Led}, (∀ p ∈ pre, p.1 ≠ d) → Upd d o o' (pre ++ (d, o) :: post) (pre ++ (d, o') :: post)
  | [], _ => .head hb
  | p :: r, h => .tail (h p (.head _)) (upd_of hb fun q hq => h q (.tail _ hq))
theorem app_K {prog : Program} {w : World} {A : Around} {E : Value → Shared → Prop} {s : Shared} {h₀ : Heap} {L D : Addr} {m : Str → Option Value} {news : Led} {refs : List Value} {n : Nat} {x : Value} {g : Obj → Led} {Q : Value → Shared → Prop} (F : Fr h₀ L s.heap m) (N : News h₀ L s.heap news) (U : UpdF D (listOf refs.toArray n) news g) (hz : refs.length ≤ 1000)
    (h : ∀ h', Fr h₀ L h' m → News h₀ L h' (g (listOf (refs ++ [x]).toArray (n + 1))) → Q .none { s with heap := h' }) : wpAny (model prog w) A (call (.builtin "list.append") [.ref D, x]) Q E s := by
  obtain ⟨pre, post, rfl, hg, a, b⟩ := U.split
  refine append_K F N (upd_of b a) (fun h' F' N' => h h' F' ?_) (by rw [sizeLine_eq]; simp; omega)
  rw [hg]
  simpa using N'
theorem wordOz_ct {w : World} {r dx : Addr} {o : Obj} {news : Led} {g : Obj → Led} {ns : List Int} {a : Nat} {x y z : Int} (hr : (r, instObj 129 dx) ∈ news) (U : UpdF dx o news g) (hO : Rd w.params o ns a) (hx : ns[a]? = some x) (hy : ns[a + 1]? = some y) (hz : x * 256 + y = z) (h3 : ns.length ≤ 100) :
    Ct w 126 [.ref r] news 12 80 (fun v news' => ∃ t o', v = .int z t ∧ (0 ≤ x ∧ x < 256) ∧ (0 ≤ y ∧ y < 256) ∧ Rd w.params o' ns (a + 2) ∧ news' = g o') False := hz ▸ wordO_ct hr U hO hx hy h3
theorem wordOz_ck {w : World} {r dx : Addr} {o : Obj} {news : Led} {g : Obj → Led} {ns : List Int} {a : Nat} {x y z : Int} (hr : (r, instObj 129 dx) ∈ news) (U : UpdF dx o news g) (hO : Rd w.params o ns a) (hx : ns[a]? = some x) (hy : ns[a + 1]? = some y) (hz : x * 256 + y = z) (h3 : ns.length ≤ 100) :
    CtK w 126 [.ref r] news 12 80 (fun φ => ∀ t k1 k2 b tb ta, (0 ≤ x ∧ x < 256) → (0 ≤ y ∧ y < 256) → KBw.bInts b = ns → Rd w.params (rdD w.params k1 k2 b tb ((a + 2 : Nat) : Int) ta) ns (a + 2) → φ (.int z t) (g (rdD w.params k1 k2 b tb ((a + 2 : Nat) : Int) ta))) False := hz ▸ wordO_ck hr U hO hx hy h3
/-- a FrameHead of the ledger -/
noncomputable def FrameAt (P : Params) (news : Led) (v : Value) (code prec height width : Int) (cs : List C4) : Prop :=
  ∃ x dx o lx refs c, v = .ref x ∧ (x, instObj 171 dx) ∈ news ∧ (dx, o) ∈ news ∧ FrD P o code prec height width lx ∧ (lx, listOf refs.toArray c) ∈ news ∧ CompsIn P news refs cs
/-- between the turns of read_frame -/
inductive R2Inv (P : Params) (lx rx rdx : Addr) (news : Led) (m₀ : Str → Option Value) (os : List Int) (cs : List C4) (i : Nat) (m : Str → Option Value) (n : Led) : Prop
  | mk (o : Obj) (refs : List Value) (c : Nat) (rest : Led) (e : n = (lx, listOf refs.toArray c) :: (rx, instObj 129 rdx) :: (rdx, o) :: rest) (off : Off ["turn", "ident", "both"] m m₀) (hR : Rd P o os (6 + 3 * i)) (hC : CompsIn P rest refs (cs.take i)) (hs : ∀ p ∈ news, p ∈ rest) (h1 : ∀ p ∈ rest, p.1 ≠ rdx) (h2 : ∀ p ∈ rest, p.1 ≠ lx) : R2Inv P lx rx rdx news m₀ os cs i m n
theorem wsR2_1 : True := by
  w_top off
  k_with_none
  k_with "ktr_room" => first | exact room1 (by assumption) | exact room3 (by assumption) (Nat.le_of_ble_eq_true rfl) | exact room2 (by assumption) (Nat.le_of_ble_eq_true rfl)
  k_with "ktr_units" => first | exact unit3 (by assumption) (Nat.le_of_ble_eq_true rfl) | exact unit2 (by assumption) (Nat.le_of_ble_eq_true rfl)
  k_with "callWith ref" => (k_here; k_dflt (refine' callWith_K ?cwA ?cwB ?_; (case cwA => k_asm); (case cwB => k_is); k_whole))
  k_with "omega" => first | decide | with_reducible assumption | exact Int.lt_of_le_of_lt (by with_reducible assumption) (by decide) | exact Int.lt_of_lt_of_le (by with_reducible assumption) (by decide) | exact Int.le_trans (by with_reducible assumption) (by decide) | exact lo_tr (by with_reducible assumption) (by decide) | exact lo_le (by with_reducible assumption) (by decide) | exact Nat.le_trans (by with_reducible assumption) (by decide) | exact Nat.lt_of_le_of_lt (by with_reducible assumption) (by decide) | lia
  k_with "k_ne" => (refine neN ?_; (try dsimp only); first | decide | with_reducible assumption | exact Ne.symm (by with_reducible assumption) | (refine Nat.ne_of_gt ?_; (first | with_reducible assumption | exact at1 (by with_reducible assumption) | exact at2 (by with_reducible assumption) | exact at3 (by with_reducible assumption) | exact at4 (by with_reducible assumption) | exact at5 (by with_reducible assumption) | exact at6 (by with_reducible assumption) | exact at7 (by with_reducible assumption) | exact at8 (by with_reducible assumption) | exact up1 (by with_reducible assumption) | exact up2 (by with_reducible assumption) | exact up2 (at1 (by with_reducible assumption)) | exact up2 (at2 (by with_reducible assumption)) | exact up2 (at3 (by with_reducible assumption)) | exact up2 (at4 (by with_reducible assumption)) | exact up1 (at1 (by with_reducible assumption)) | exact up1 (at2 (by with_reducible assumption)) | exact up1 (at3 (by with_reducible assumption)) | exact up1 (at4 (by with_reducible assumption)))) | (refine Nat.ne_of_lt ?_; (first | with_reducible assumption | exact at1 (by with_reducible assumption) | exact at2 (by with_reducible assumption) | exact at3 (by with_reducible assumption) | exact at4 (by with_reducible assumption) | exact at5 (by with_reducible assumption) | exact at6 (by with_reducible assumption) | exact at7 (by with_reducible assumption) | exact at8 (by with_reducible assumption) | exact up1 (by with_reducible assumption) | exact up2 (by with_reducible assumption) | exact up2 (at1 (by with_reducible assumption)) | exact up2 (at2 (by with_reducible assumption)) | exact up2 (at3 (by with_reducible assumption)) | exact up2 (at4 (by with_reducible assumption)) | exact up1 (at1 (by with_reducible assumption)) | exact up1 (at2 (by with_reducible assumption)) | exact up1 (at3 (by with_reducible assumption)) | exact up1 (at4 (by with_reducible assumption)))) | omega)
  k_with "mem_go" => first | with_reducible assumption | exact List.Mem.head _ | (refine List.mem_cons_of_mem _ ?_; (k_extra "mem_go"))
  k_with "sub_go" => first | exact fun _ h => h | exact sub_nil | (refine sub_cons ?hSub ?_; (case hSub => (k_extra "mem_go")); (k_extra "sub_go")) | ((fail_if_success (refine sub_cons ?_ ?_)); refine sub_drop ?_; (k_extra "sub_go")) | with_reducible assumption
  k_with "off_go" => first | exact off_nil | with_reducible assumption | (refine off_cons ?hOff ?_; (case hOff => k_ne); (k_extra "off_go")) | exact off_old (by with_reducible assumption) (by (k_extra "sub_go")) | exact off_sub (by with_reducible assumption) (by (k_extra "sub_go"))
  k_with "k_mem" => (k_extra "mem_go")
  k_with "k_all" => (k_extra "off_go")
  k_with "leaving ref" => (k_here; refine' leave_onS (by k_asm) (by assumption) (by assumption) (by assumption) ?_; intro h' R' Rk' U'; clear Rk'; (try dsimp only at R' U'))
  k_with "ExcP" => (unfold ExcP; intro e3'; first | exact e3'.elim | (exfalso; simp only [beq_eq_false_iff_ne, ne_eq] at e3'; omega) | intro e' t' vs' g' h' tk' Fg' U' R')
  k_with "call ref" => (k_here; (with_reducible refine (?_ : wpAny _ _ (call (Value.ref 129) _) _ _ _)); k_dflt (refine CtK.run0 (by k_asm) (by k_asm) (newReader_ck) (by k_asm) (by k_asm) (by k_asm) (by first | rfl | assumption) (by ktr_room) (by ktr_units) (fun x' dx' _ _ _ _ _ eb' rd' m1' m2' h' tk' F' N' => ?_)); ((try dsimp only at N'); (try k_lt m1'); rw [hb] at rd' eb'))
  k_with "call ref" => (k_here; (with_reducible refine (?_ : wpAny _ _ (call (Value.ref 150) _) _ _ _)); k_dflt (refine CtK.run0 (by k_asm) (by k_asm) (newComp_ck) (by k_asm) (by k_asm) (by k_asm) (by first | rfl | assumption) (by ktr_room) (by ktr_units) (fun x' dx' o' rd' m1' m2' h' tk' F' N' => ?_)); ((try dsimp only at N'); (try k_lt m1')))
  k_with "call ref" => (k_here; (with_reducible refine (?_ : wpAny _ _ (call (Value.ref 171) _) _ _ _)); k_dflt (refine CtK.run0 (by k_asm) (by k_asm) (newFrame_ck) (by k_asm) (by k_asm) (by k_asm) (by first | rfl | assumption) (by ktr_room) (by ktr_units) (fun x' dx' o' rd' m1' m2' h' tk' F' N' => ?_)); ((try dsimp only at N'); (try k_lt m1')))
  k_with "call ref" => (k_here; (with_reducible refine (?_ : wpAny _ _ (call (Value.ref 203) _) _ _ _)); k_dflt (refine CtK.run (by k_asm) (by k_asm) (want_ck) (by k_asm) (by k_asm) (by k_asm) (by first | rfl | assumption) (by ktr_room) (by ktr_units) (fun e3' h' tk' F' N' => ?_) ?_); case' _ => ((try dsimp only at N')))
  k_with "call ref" => (k_here; (with_reducible refine (?_ : wpAny _ _ (call (Value.ref 236) _) _ _ _)); k_dflt (refine CtK.run (by k_asm) (by k_asm) (checkFrame_ck (by (k_extra "mem_go")) (by (k_extra "mem_go")) (by assumption) (by (k_extra "mem_go")) (CompsIn.mono (by (k_extra "sub_go")) hC) (by assumption)) (by k_asm) (by k_asm) (by k_asm) (by first | rfl | assumption) (by ktr_room) (by ktr_units) (fun e3' h' tk' F' N' => ?_) ?_); case' _ => ((try dsimp only at N')))
  k_with "call ref" => (k_here; (with_reducible refine (?_ : wpAny _ _ (call (Value.ref 119) _) _ _ _)); (try dsimp only [List.append_nil]); k_dflt (refine CtK.run0 (by k_asm) (by k_asm) (byteO_ck (by (k_extra "mem_go")) (by k_updF) (by assumption) (by assumption) (by assumption)) (by k_asm) (by k_asm) (by k_asm) (by first | rfl | assumption) (by ktr_room) (by ktr_units) (fun t' _ _ _ _ _ b1' b2' eb' rd' h' tk' F' N' => ?_)); ((try dsimp only at N')))
  k_with "call ref" => (k_here; (with_reducible refine (?_ : wpAny _ _ (call (Value.ref 126) _) _ _ _)); (try dsimp only [List.append_nil]); k_dflt (refine CtK.run0 (by k_asm) (by k_asm) (wordOz_ck (by (k_extra "mem_go")) (by k_updF) (by assumption) (by assumption) (by assumption) (by assumption) (by assumption)) (by k_asm) (by k_asm) (by k_asm) (by first | rfl | assumption) (by ktr_room) (by ktr_units) (fun t' _ _ _ _ _ b1' b2' eb' rd' h' tk' F' N' => ?_)); ((try dsimp only at N')))
  k_with "newList" => (k_here; k_dflt (refine' newList_K ?k1 ?k2 ?_; (case k1 => k_asm); (case k2 => k_asm)); intro lx' h' F' N' l1; (try k_lt l1))
  k_with "call builtin:list.append" => (k_here; (with_reducible refine (?_ : wpAny _ _ (call (Value.builtin _) [Value.ref _, _]) _ _ _)); k_dflt (refine app_K (by k_asm) (by k_asm) (by k_updF) (by omega) ?_); intro h' F' N'; (try dsimp only at N'))
  k_with "call type:range" => (k_here; (with_reducible refine (?_ : wpAny _ _ (call (Value.type "range") [Value.int _ _]) _ _ _)); k_dflt (refine range1_rows (by k_asm) (by k_asm) ?_); intro _ _ _ _ _ rg' F' N' _)
  k_with "exec For Name Call cons nil" => (k_here; (rename Fr _ _ _ _ => lF'); (with_unfolding_all refine' For_invVF lF' ?k1 ?k2 ?_; (case k1 => exact rfl); (case k2 => exact rfl); k_whole))
  k_with "pyIter ref" => (k_here; (with_reducible refine (?_ : wpAny _ _ (pyIter (Value.ref _)) (fun it s₂ => LoopAtV _ _ _ _ _ _ _ _ _ it s₂) _ _)); (with_unfolding_all refine iter_rangeUnr (by rfl) (by assumption) (rg_small (by omega)) (rg_size _) (by k_asm) (by k_asm) ?_); intro i' l1; (try k_lt l1))
  trivial
set_option maxRecDepth 100000 in
set_option maxHeartbeats 8000000 in
theorem readFrame_ct {w : World} {code prec height width : Int} {cs : List C4} {tc : Tok} {b : Array UInt8} {tb : Tok} {news : Led} (hb : KBw.bInts b = frameOct prec height width cs) (h4 : cs.length ≤ 4) (hc : ∀ c ∈ cs, (0 ≤ c.2.2.1 ∧ c.2.2.1 < 16)) (hh : 0 ≤ height) (hw : 0 ≤ width) :
    Ct w 243 [.int code tc, .bytes b tb] news 28 260 (fun v news' => FrameAt w.params news' v code prec height width cs ∧ (∀ p ∈ news, p ∈ news') ∧ frameOk code prec height width cs) (¬ frameOk code prec height width cs) := by
  intro mean mg mb dp un gd cn csc a' ccd cl outer A₀ base h₀ L m s Q E X B F N T hk hd hu hret hexc
  have hz := frameOct_len (prec := prec) (height := height) (width := width) (cs := cs)
  have hz100 : (frameOct prec height width cs).length ≤ 100 := by omega
  have i0 : (frameOct prec height width cs)[0]? = some prec := rfl
  have i1 : (frameOct prec height width cs)[0 + 1]? = some (height / 256) := rfl
  have i2 : (frameOct prec height width cs)[0 + 1 + 1]? = some (height % 256) := rfl
  have i3 : (frameOct prec height width cs)[0 + 1 + 2]? = some (width / 256) := rfl
  have i4 : (frameOct prec height width cs)[0 + 1 + 2 + 1]? = some (width % 256) := rfl
  have i5 : (frameOct prec height width cs)[0 + 1 + 2 + 2]? = some (cs.length : Int) := rfl
  have i5' : (frameOct prec height width cs).getD (Int.toNat 5) 0 = (cs.length : Int) := rfl
  have eh : height / 256 * 256 + height % 256 = height := by omega
  have ew : width / 256 * 256 + width % 256 = width := by omega
  refine wpAny_call ?_
  k_dflt cell_enter
  k_steps
  obtain ⟨rx, hrx⟩ : ∃ r, r = x' := ⟨x', rfl⟩
  obtain ⟨rdx, hrdx⟩ : ∃ r, r = dx' := ⟨dx', rfl⟩
  subst hrx hrdx
  refine range_ind (R2Inv w.params lx' rx rdx news _ (frameOct prec height width cs) cs) ?_ ?_ _ _ _ _ (Nat.zero_add _) ⟨_, [], _, _, rfl, Off.refl, rd', trivial, fun _ h => h, by (k_extra "off_go"), by (k_extra "off_go")⟩ (by (k_extra "off_go"))
  · rintro i m n hi ⟨o, refs, c, rest, rfl, hm, ⟨q1, q2, q3, q4, q5, rfl, q6⟩, hC, hsub, hd1, hd2⟩ ho tt h tk F2 N2
    have rd0 : Rd w.params (rdD w.params q1 q2 q3 q4 ((6 + 3 * i : Nat) : Int) q5) (frameOct prec height width cs) (6 + 3 * i) := ⟨_, _, _, _, _, rfl, q6⟩
    have hcomp : cs[i]? = some cs[i] := List.getElem?_eq_getElem hi
    generalize hce : cs[i] = ci at hcomp
    obtain ⟨ca, cb, cc, cd⟩ := ci
    obtain ⟨g0, g1, g2⟩ := frameOct_get (prec := prec) (height := height) (width := width) hcomp
    have hcc := hc _ (List.mem_of_getElem? hcomp)
    dsimp only at g0 g1 g2 hcc
    have hrl : refs.length ≤ 4 := by rw [hC.length, List.length_take]; omega
    rw [hm.form3] at F2
    k_steps
    rename Rd _ _ _ (6 + 3 * i + 1 + 1 + 1) => rdz
    rename CompD _ _ _ _ _ _ => rdc
    (rw [show (cb * 16 + cc).fdiv 16 = cb by rw [fdiv16]; omega, show (cb * 16 + cc).fmod 16 = cc by rw [fmod16]; omega] at rdc)
    (refine UnrEnd.intro (by k_asm) (by k_asm) ((lx', listOf (refs ++ [Value.ref x']).toArray (c + 1)) :: (rx, instObj 129 rdx) :: (rdx, _) :: (x', instObj 150 dx') :: (dx', o') :: rest) (sub_cons (.tail _ (.tail _ (.head _))) ?_) ?_ ⟨_, refs ++ [Value.ref x'], c + 1, (x', instObj 150 dx') :: (dx', o') :: rest, rfl, ?_, (by rw [show 6 + 3 * (i + 1) = 6 + 3 * i + 1 + 1 + 1 by omega]; exact rdz), ?_, ?_, ?_, ?_⟩)
    · (k_extra "sub_go")
    · (k_extra "off_go")
    · (repeat (first | (refine Off.set (by (k_extra "mem_go")) ?_) | exact Off.refl))
    · (rw [List.take_add_one, hcomp]; exact CompsIn.snoc ⟨x', dx', o', rfl, .head _, .tail _ (.head _), rdc⟩ (hC.mono (by (k_extra "sub_go"))))
    · exact fun p hp => .tail _ (.tail _ (hsub p hp))
    · (k_extra "off_go")
    · (k_extra "off_go")
  · rintro m n ⟨o, refs, c, rest, rfl, hm, ⟨q1, q2, q3, q4, q5, rfl, q6⟩, hC, hsub, hd1, hd2⟩ h tk F2 N2
    rw [hm.form3] at F2
    rw [List.take_of_length_le (Nat.le_refl _)] at hC
    k_steps
    · exact hret _ _ _ _ (by k_asm) (by k_asm) ⟨⟨_, _, _, _, _, _, rfl, by (k_extra "mem_go"), by (k_extra "mem_go"), by assumption, by (k_extra "mem_go"), hC.mono (by (k_extra "sub_go"))⟩, by (k_extra "sub_go"), by assumption⟩
    · exact hexc (by assumption) _ _ _ _ _ _ (by k_asm) (by assumption) (raised_sub (by assumption) (by (k_extra "sub_go")))
-- part R3
theorem wsR3_0 : True := by
  w_top off
  k_with_none
  k_with "ktr_room" => first | exact room1 (by assumption) | exact room3 (by assumption) (Nat.le_of_ble_eq_true rfl) | exact room2 (by assumption) (Nat.le_of_ble_eq_true rfl)
  k_with "ktr_units" => first | exact unit3 (by assumption) (Nat.le_of_ble_eq_true rfl) | exact unit2 (by assumption) (Nat.le_of_ble_eq_true rfl)
  k_with "callWith ref" => (k_here; k_dflt (refine' callWith_K ?cwA ?cwB ?_; (case cwA => k_asm); (case cwB => k_is); k_whole))
  k_with "omega" => first | decide | with_reducible assumption | exact Int.lt_of_le_of_lt (by with_reducible assumption) (by decide) | exact Int.lt_of_lt_of_le (by with_reducible assumption) (by decide) | exact Int.le_trans (by with_reducible assumption) (by decide) | exact lo_tr (by with_reducible assumption) (by decide) | exact lo_le (by with_reducible assumption) (by decide) | exact Nat.le_trans (by with_reducible assumption) (by decide) | exact Nat.lt_of_le_of_lt (by with_reducible assumption) (by decide) | lia
  k_with "k_ne" => (refine neN ?_; (try dsimp only); first | decide | with_reducible assumption | exact Ne.symm (by with_reducible assumption) | (refine Nat.ne_of_gt ?_; (first | with_reducible assumption | exact at1 (by with_reducible assumption) | exact at2 (by with_reducible assumption) | exact at3 (by with_reducible assumption) | exact at4 (by with_reducible assumption) | exact at5 (by with_reducible assumption) | exact at6 (by with_reducible assumption) | exact at7 (by with_reducible assumption) | exact at8 (by with_reducible assumption) | exact up1 (by with_reducible assumption) | exact up2 (by with_reducible assumption) | exact up2 (at1 (by with_reducible assumption)) | exact up2 (at2 (by with_reducible assumption)) | exact up2 (at3 (by with_reducible assumption)) | exact up2 (at4 (by with_reducible assumption)) | exact up1 (at1 (by with_reducible assumption)) | exact up1 (at2 (by with_reducible assumption)) | exact up1 (at3 (by with_reducible assumption)) | exact up1 (at4 (by with_reducible assumption)))) | (refine Nat.ne_of_lt ?_; (first | with_reducible assumption | exact at1 (by with_reducible assumption) | exact at2 (by with_reducible assumption) | exact at3 (by with_reducible assumption) | exact at4 (by with_reducible assumption) | exact at5 (by with_reducible assumption) | exact at6 (by with_reducible assumption) | exact at7 (by with_reducible assumption) | exact at8 (by with_reducible assumption) | exact up1 (by with_reducible assumption) | exact up2 (by with_reducible assumption) | exact up2 (at1 (by with_reducible assumption)) | exact up2 (at2 (by with_reducible assumption)) | exact up2 (at3 (by with_reducible assumption)) | exact up2 (at4 (by with_reducible assumption)) | exact up1 (at1 (by with_reducible assumption)) | exact up1 (at2 (by with_reducible assumption)) | exact up1 (at3 (by with_reducible assumption)) | exact up1 (at4 (by with_reducible assumption)))) | omega)
  k_with "mem_go" => first | with_reducible assumption | exact List.Mem.head _ | (refine List.mem_cons_of_mem _ ?_; (k_extra "mem_go"))
  k_with "sub_go" => first | exact fun _ h => h | exact sub_nil | (refine sub_cons ?hSub ?_; (case hSub => (k_extra "mem_go")); (k_extra "sub_go")) | ((fail_if_success (refine sub_cons ?_ ?_)); refine sub_drop ?_; (k_extra "sub_go")) | with_reducible assumption
  k_with "off_go" => first | exact off_nil | with_reducible assumption | (refine off_cons ?hOff ?_; (case hOff => k_ne); (k_extra "off_go")) | exact off_old (by with_reducible assumption) (by (k_extra "sub_go")) | exact off_sub (by with_reducible assumption) (by (k_extra "sub_go"))
  k_with "k_mem" => (k_extra "mem_go")
  k_with "k_all" => (k_extra "off_go")
  trivial
theorem octPairs_get : ∀ (i : Nat) {n1 n2 n3 tl : List Int} {a b c : Int}, n1[i]? = some a → n2[i]? = some b → n3[i]? = some c → (octPairs n1 n2 n3 ++ tl)[2 * i]? = some a ∧ (octPairs n1 n2 n3 ++ tl)[2 * i + 1]? = some (b * 16 + c)
  | 0, x :: _, y :: _, z :: _, _, _, _, _, h1, h2, h3 => by
    cases h1; cases h2; cases h3
    exact ⟨rfl, rfl⟩
  | i + 1, x :: n1, y :: n2, z :: n3, tl, _, _, _, h1, h2, h3 => by
    rw [List.getElem?_cons_succ] at h1 h2 h3
    rw [show 2 * (i + 1) = 2 * i + 1 + 1 by omega]
    exact octPairs_get i (tl := tl) h1 h2 h3
theorem scanOct_get {n1 n2 n3 : List Int} {st en hi lo : Int} {i : Nat} {a b c : Int} (h1 : n1[i]? = some a) (h2 : n2[i]? = some b) (h3 : n3[i]? = some c) : (scanOct n1 n2 n3 st en hi lo)[1 + 2 * i]? = some a ∧ (scanOct n1 n2 n3 st en hi lo)[1 + 2 * i + 1]? = some (b * 16 + c) := by
  rw [show 1 + 2 * i = 2 * i + 1 by omega]
  exact octPairs_get i (tl := [st, en, hi * 16 + lo]) h1 h2 h3
theorem scanOct_end {n1 n2 n3 : List Int} {st en hi lo : Int} (h2 : n2.length = n1.length) (h3 : n3.length = n1.length) : (scanOct n1 n2 n3 st en hi lo)[1 + 2 * n1.length]? = some st ∧ (scanOct n1 n2 n3 st en hi lo)[1 + 2 * n1.length + 1]? = some en ∧ (scanOct n1 n2 n3 st en hi lo)[1 + 2 * n1.length + 1 + 1]? = some (hi * 16 + lo) := by
  have e := octPairs_len n1 n2 n3 h2 h3
  have q : ∀ k, (scanOct n1 n2 n3 st en hi lo)[1 + 2 * n1.length + k]? = [st, en, hi * 16 + lo][k]? := fun k => by
    rw [show 1 + 2 * n1.length + k = 2 * n1.length + k + 1 by omega]
    show (octPairs n1 n2 n3 ++ [st, en, hi * 16 + lo])[2 * n1.length + k]? = _
    rw [List.getElem?_append_right (by omega), e, Nat.add_sub_cancel_left]
  exact ⟨q 0, q 1, q 2⟩
theorem scanOct_len {n1 n2 n3 : List Int} {st en hi lo : Int} (h2 : n2.length = n1.length) (h3 : n3.length = n1.length) : (scanOct n1 n2 n3 st en hi lo).length = 4 + 2 * n1.length := by
  unfold scanOct
  rw [List.length_append, List.length_cons, octPairs_len n1 n2 n3 h2 h3]
  show 2 * n1.length + 1 + 3 = _
  omega
theorem Off.form2 {a b : Str} {m m₀ : Str → Option Value} (h : Off [a, b] m m₀) : m = fun y => if y = a then m a else if y = b then m b else m₀ y := by
  funext y
  by_cases ha : y = a
  · subst ha; simp
  by_cases hb : y = b
  · subst hb; simp [ha]
  · simp only [ha, hb, if_false]
    exact h y (by simp [ha, hb])
/-- a ScanHead of the ledger -/
noncomputable def ScanAt (P : Params) (news : Led) (v : Value) (n1 n2 n3 : List Int) (st en hi lo : Int) : Prop :=
  ∃ x dx o l1 l2 l3 v1 v2 v3 c1 c2 c3, v = .ref x ∧ (x, instObj 192 dx) ∈ news ∧ (dx, o) ∈ news ∧ ScD P o l1 l2 l3 st en hi lo ∧ (l1, listOf v1.toArray c1) ∈ news ∧ (l2, listOf v2.toArray c2) ∈ news ∧ (l3, listOf v3.toArray c3) ∈ news ∧ IntsAre v1 n1 ∧ IntsAre v2 n2 ∧ IntsAre v3 n3
/-- between the turns of read_scan -/
inductive R3Inv (P : Params) (lA lB lC rx rdx : Addr) (news : Led) (m₀ : Str → Option Value) (n1 n2 n3 os : List Int) (i : Nat) (m : Str → Option Value) (n : Led) : Prop
  | mk (o : Obj) (a b c : List Value) (ka kb kc : Nat) (e : n = (lC, listOf c.toArray kc) :: (lB, listOf b.toArray kb) :: (lA, listOf a.toArray ka) :: (rx, instObj 129 rdx) :: (rdx, o) :: news) (off : Off ["turn", "both"] m m₀) (hR : Rd P o os (1 + 2 * i)) (hA : IntsAre a (n1.take i)) (hB : IntsAre b (n2.take i)) (hC : IntsAre c (n3.take i)) : R3Inv P lA lB lC rx rdx news m₀ n1 n2 n3 os i m n
theorem wsR3_1 : True := by
  w_top off
  k_with_none
  k_with "ktr_room" => first | exact room1 (by assumption) | exact room3 (by assumption) (Nat.le_of_ble_eq_true rfl) | exact room2 (by assumption) (Nat.le_of_ble_eq_true rfl)
  k_with "ktr_units" => first | exact unit3 (by assumption) (Nat.le_of_ble_eq_true rfl) | exact unit2 (by assumption) (Nat.le_of_ble_eq_true rfl)
  k_with "callWith ref" => (k_here; k_dflt (refine' callWith_K ?cwA ?cwB ?_; (case cwA => k_asm); (case cwB => k_is); k_whole))
  k_with "omega" => first | decide | with_reducible assumption | exact Int.lt_of_le_of_lt (by with_reducible assumption) (by decide) | exact Int.lt_of_lt_of_le (by with_reducible assumption) (by decide) | exact Int.le_trans (by with_reducible assumption) (by decide) | exact lo_tr (by with_reducible assumption) (by decide) | exact lo_le (by with_reducible assumption) (by decide) | exact Nat.le_trans (by with_reducible assumption) (by decide) | exact Nat.lt_of_le_of_lt (by with_reducible assumption) (by decide) | lia
  k_with "k_ne" => (refine neN ?_; (try dsimp only); first | decide | with_reducible assumption | exact Ne.symm (by with_reducible assumption) | (refine Nat.ne_of_gt ?_; (first | with_reducible assumption | exact at1 (by with_reducible assumption) | exact at2 (by with_reducible assumption) | exact at3 (by with_reducible assumption) | exact at4 (by with_reducible assumption) | exact at5 (by with_reducible assumption) | exact at6 (by with_reducible assumption) | exact at7 (by with_reducible assumption) | exact at8 (by with_reducible assumption) | exact up1 (by with_reducible assumption) | exact up2 (by with_reducible assumption) | exact up2 (at1 (by with_reducible assumption)) | exact up2 (at2 (by with_reducible assumption)) | exact up2 (at3 (by with_reducible assumption)) | exact up2 (at4 (by with_reducible assumption)) | exact up1 (at1 (by with_reducible assumption)) | exact up1 (at2 (by with_reducible assumption)) | exact up1 (at3 (by with_reducible assumption)) | exact up1 (at4 (by with_reducible assumption)))) | (refine Nat.ne_of_lt ?_; (first | with_reducible assumption | exact at1 (by with_reducible assumption) | exact at2 (by with_reducible assumption) | exact at3 (by with_reducible assumption) | exact at4 (by with_reducible assumption) | exact at5 (by with_reducible assumption) | exact at6 (by with_reducible assumption) | exact at7 (by with_reducible assumption) | exact at8 (by with_reducible assumption) | exact up1 (by with_reducible assumption) | exact up2 (by with_reducible assumption) | exact up2 (at1 (by with_reducible assumption)) | exact up2 (at2 (by with_reducible assumption)) | exact up2 (at3 (by with_reducible assumption)) | exact up2 (at4 (by with_reducible assumption)) | exact up1 (at1 (by with_reducible assumption)) | exact up1 (at2 (by with_reducible assumption)) | exact up1 (at3 (by with_reducible assumption)) | exact up1 (at4 (by with_reducible assumption)))) | omega)
  k_with "mem_go" => first | with_reducible assumption | exact List.Mem.head _ | (refine List.mem_cons_of_mem _ ?_; (k_extra "mem_go"))
  k_with "sub_go" => first | exact fun _ h => h | exact sub_nil | (refine sub_cons ?hSub ?_; (case hSub => (k_extra "mem_go")); (k_extra "sub_go")) | ((fail_if_success (refine sub_cons ?_ ?_)); refine sub_drop ?_; (k_extra "sub_go")) | with_reducible assumption
  k_with "off_go" => first | exact off_nil | with_reducible assumption | (refine off_cons ?hOff ?_; (case hOff => k_ne); (k_extra "off_go")) | exact off_old (by with_reducible assumption) (by (k_extra "sub_go")) | exact off_sub (by with_reducible assumption) (by (k_extra "sub_go"))
  k_with "k_mem" => (k_extra "mem_go")
  k_with "k_all" => (k_extra "off_go")
  k_with "leaving ref" => (k_here; refine' leave_onS (by k_asm) (by assumption) (by assumption) (by assumption) ?_; intro h' R' Rk' U'; clear Rk'; (try dsimp only at R' U'))
  k_with "ExcP" => (unfold ExcP; intro e3'; first | exact e3'.elim | (exfalso; simp only [beq_eq_false_iff_ne, ne_eq] at e3'; omega) | intro e' t' vs' g' h' tk' Fg' U' R')
  k_with "call ref" => (k_here; (with_reducible refine (?_ : wpAny _ _ (call (Value.ref 129) _) _ _ _)); k_dflt (refine CtK.run0 (by k_asm) (by k_asm) (newReader_ck) (by k_asm) (by k_asm) (by k_asm) (by first | rfl | assumption) (by ktr_room) (by ktr_units) (fun x' dx' _ _ _ _ _ eb' rd' m1' m2' h' tk' F' N' => ?_)); ((try dsimp only at N'); (try k_lt m1'); rw [hb] at rd' eb'))
  k_with "call ref" => (k_here; (with_reducible refine (?_ : wpAny _ _ (call (Value.ref 192) _) _ _ _)); k_dflt (refine CtK.run0 (by k_asm) (by k_asm) (newScan_ck) (by k_asm) (by k_asm) (by k_asm) (by first | rfl | assumption) (by ktr_room) (by ktr_units) (fun x' dx' o' rd' m1' m2' h' tk' F' N' => ?_)); ((try dsimp only at N'); (try k_lt m1'); rw [efd, efm] at rd'))
  k_with "call ref" => (k_here; (with_reducible refine (?_ : wpAny _ _ (call (Value.ref 203) _) _ _ _)); k_dflt (refine CtK.run (by k_asm) (by k_asm) (want_ck) (by k_asm) (by k_asm) (by k_asm) (by first | rfl | assumption) (by ktr_room) (by ktr_units) (fun e3' h' tk' F' N' => ?_) ?_); case' _ => ((try dsimp only at N')))
  k_with "call ref" => (k_here; (with_reducible refine (?_ : wpAny _ _ (call (Value.ref 257) _) _ _ _)); k_dflt (refine CtK.run (by k_asm) (by k_asm) (checkScan_ck (by (k_extra "mem_go")) (by (k_extra "mem_go")) (by assumption) (by (k_extra "mem_go")) (by (k_extra "mem_go")) (by (k_extra "mem_go")) (by assumption) (by assumption) (by assumption) (by assumption) (by assumption) (by assumption)) (by k_asm) (by k_asm) (by k_asm) (by first | rfl | assumption) (by ktr_room) (by ktr_units) (fun e3' h' tk' F' N' => ?_) ?_); case' _ => ((try dsimp only at N')))
  k_with "call ref" => (k_here; (with_reducible refine (?_ : wpAny _ _ (call (Value.ref 119) _) _ _ _)); (try dsimp only [List.append_nil]); k_dflt (refine CtK.run0 (by k_asm) (by k_asm) (byteO_ck (by (k_extra "mem_go")) (by k_updF) (by assumption) (by assumption) (by assumption)) (by k_asm) (by k_asm) (by k_asm) (by first | rfl | assumption) (by ktr_room) (by ktr_units) (fun t' _ _ _ _ _ b1' b2' eb' rd' h' tk' F' N' => ?_)); ((try dsimp only at N')))
  k_with "newList" => (k_here; k_dflt (refine' newList_K ?k1 ?k2 ?_; (case k1 => k_asm); (case k2 => k_asm)); first
      | ((fail_if_success (have zz := lA)); intro lA h' F' N' l1; (try k_lt l1))
      | ((fail_if_success (have zz := lB)); intro lB h' F' N' l1; (try k_lt l1))
      | (intro lC h' F' N' l1; (try k_lt l1)))
  k_with "call builtin:list.append" => (k_here; (with_reducible refine (?_ : wpAny _ _ (call (Value.builtin _) [Value.ref _, _]) _ _ _)); k_dflt (refine app_K (by k_asm) (by k_asm) (by k_updF) (by omega) ?_); intro h' F' N'; (try dsimp only at N'))
  k_with "call type:range" => (k_here; (with_reducible refine (?_ : wpAny _ _ (call (Value.type "range") [Value.int _ _]) _ _ _)); k_dflt (refine range1_rows (by k_asm) (by k_asm) ?_); intro _ _ _ _ _ rg' F' N' _)
  k_with "exec For Name Call cons nil" => (k_here; (rename Fr _ _ _ _ => lF'); (with_unfolding_all refine' For_invVF lF' ?k1 ?k2 ?_; (case k1 => exact rfl); (case k2 => exact rfl); k_whole))
  k_with "pyIter ref" => (k_here; (with_reducible refine (?_ : wpAny _ _ (pyIter (Value.ref _)) (fun it s₂ => LoopAtV _ _ _ _ _ _ _ _ _ it s₂) _ _)); (with_unfolding_all refine iter_rangeUnr (by rfl) (by assumption) (rg_small (by omega)) (rg_size _) (by k_asm) (by k_asm) ?_); intro i' l1; (try k_lt l1))
  trivial
set_option maxRecDepth 100000 in
set_option maxHeartbeats 8000000 in
theorem readScan_ct {w : World} {n1 n2 n3 : List Int} {st en hi lo : Int} {b : Array UInt8} {tb : Tok} {news : Led} (hb : KBw.bInts b = scanOct n1 n2 n3 st en hi lo) (h2 : n2.length = n1.length) (h3 : n3.length = n1.length) (h6 : n1.length ≤ 6) (hc : ∀ c ∈ n3, 0 ≤ c ∧ c < 16) (hlo : 0 ≤ lo ∧ lo < 16) :
    Ct w 264 [.bytes b tb] news 28 260 (fun v news' => ScanAt w.params news' v n1 n2 n3 st en hi lo ∧ (∀ p ∈ news, p ∈ news') ∧ scanOk n1 n2 n3 st en hi lo) (¬ scanOk n1 n2 n3 st en hi lo) := by
  intro mean mg mb dp un gd cn csc a' ccd cl outer A₀ base h₀ L m s Q E X B F N T hk hd hu hret hexc
  have hz := scanOct_len (st := st) (en := en) (hi := hi) (lo := lo) h2 h3
  have hz100 : (scanOct n1 n2 n3 st en hi lo).length ≤ 100 := by omega
  have i0 : (scanOct n1 n2 n3 st en hi lo)[0]? = some (n1.length : Int) := rfl
  have i0' : (scanOct n1 n2 n3 st en hi lo).getD (Int.toNat 0) 0 = (n1.length : Int) := rfl
  have efd : (hi * 16 + lo).fdiv 16 = hi := by rw [fdiv16]; omega
  have efm : (hi * 16 + lo).fmod 16 = lo := by rw [fmod16]; omega
  have z1 : n1.length ≤ 40 := by omega
  have z2 : n2.length ≤ 40 := by omega
  have z3 : n3.length ≤ 40 := by omega
  refine wpAny_call ?_
  k_dflt cell_enter
  k_steps

  obtain ⟨rx, hrx⟩ : ∃ r, r = x' := ⟨x', rfl⟩
  obtain ⟨rdx, hrdx⟩ : ∃ r, r = dx' := ⟨dx', rfl⟩
  subst hrx hrdx
  refine range_ind (R3Inv w.params lA lB lC rx rdx news _ n1 n2 n3 (scanOct n1 n2 n3 st en hi lo)) ?_ ?_ _ _ _ _ (Nat.zero_add _) ⟨_, [], [], [], _, _, _, rfl, Off.refl, rd', .nil, .nil, .nil⟩ (by (k_extra "off_go"))
  · rintro i m n hi' ⟨o, ra, rb, rc, ka, kb, kc, rfl, hm, ⟨q1, q2, q3, q4, q5, rfl, q6⟩, hA, hB, hC⟩ ho tt h tk F2 N2
    have rd0 : Rd w.params (rdD w.params q1 q2 q3 q4 ((1 + 2 * i : Nat) : Int) q5) (scanOct n1 n2 n3 st en hi lo) (1 + 2 * i) := ⟨_, _, _, _, _, rfl, q6⟩
    have f1 : n1[i]? = some n1[i] := List.getElem?_eq_getElem hi'
    have f2 : n2[i]? = some n2[i] := List.getElem?_eq_getElem (by omega)
    have f3 : n3[i]? = some n3[i] := List.getElem?_eq_getElem (by omega)
    generalize n1[i] = a1 at f1
    generalize n2[i] = a2 at f2
    generalize n3[i] = a3 at f3
    obtain ⟨g0, g1⟩ := scanOct_get (st := st) (en := en) (hi := hi) (lo := lo) f1 f2 f3
    have hcc := hc _ (List.mem_of_getElem? f3)
    have za : ra.length ≤ 100 := by rw [hA.length, List.length_take]; omega
    have zb : rb.length ≤ 100 := by rw [hB.length, List.length_take]; omega
    have zc : rc.length ≤ 100 := by rw [hC.length, List.length_take]; omega
    have e1 : (a2 * 16 + a3).fdiv 16 = a2 := by rw [fdiv16]; omega
    have e2 : (a2 * 16 + a3).fmod 16 = a3 := by rw [fmod16]; omega
    rw [hm.form2] at F2
    k_steps

    rename Rd _ _ _ (1 + 2 * i + 1 + 1) => rdz
    refine UnrEnd.intro (by k_asm) (by k_asm) _ (sub_cons (.head _) (by (k_extra "sub_go"))) ?_ ⟨_, ra ++ [_], rb ++ [_], rc ++ [_], ka + 1, kb + 1, kc + 1, rfl, ?_, (by rw [show 1 + 2 * (i + 1) = 1 + 2 * i + 1 + 1 by omega]; exact rdz), ints_snoc hA f1, ints_snoc hB (by rw [e1]; exact f2), ints_snoc hC (by rw [e2]; exact f3)⟩
    · (k_extra "off_go")
    · repeat (first | (refine Off.set (by (k_extra "mem_go")) ?_) | exact Off.refl)
  · rintro m n ⟨o, ra, rb, rc, ka, kb, kc, rfl, hm, ⟨q1, q2, q3, q4, q5, rfl, q6⟩, hA, hB, hC⟩ h tk F2 N2
    rw [List.take_of_length_le (Nat.le_refl _)] at hA
    rw [List.take_of_length_le (by omega)] at hB hC
    have rd0 : Rd w.params (rdD w.params q1 q2 q3 q4 ((1 + 2 * n1.length : Nat) : Int) q5) (scanOct n1 n2 n3 st en hi lo) (1 + 2 * n1.length) := ⟨_, _, _, _, _, rfl, q6⟩
    obtain ⟨g0, g1, g2⟩ := scanOct_end (st := st) (en := en) (hi := hi) (lo := lo) h2 h3
    rw [hm.form2] at F2
    k_steps

    · exact hret _ _ _ _ (by k_asm) (by k_asm) ⟨⟨_, _, _, _, _, _, _, _, _, _, _, _, rfl, by (k_extra "mem_go"), by (k_extra "mem_go"), by assumption, by (k_extra "mem_go"), by (k_extra "mem_go"), by (k_extra "mem_go"), hA, hB, hC⟩, by (k_extra "sub_go"), by assumption⟩
    · exact hexc (by assumption) _ _ _ _ _ _ (by k_asm) (by assumption) (raised_sub (by assumption) (by (k_extra "sub_go")))
-- part R4
theorem wsR4_0 : True := by
  w_top off
  k_with_none
  k_with "ktr_room" => first | exact room1 (by assumption) | exact room3 (by assumption) (Nat.le_of_ble_eq_true rfl) | exact room2 (by assumption) (Nat.le_of_ble_eq_true rfl)
  k_with "ktr_units" => first | exact unit3 (by assumption) (Nat.le_of_ble_eq_true rfl) | exact unit2 (by assumption) (Nat.le_of_ble_eq_true rfl)
  k_with "callWith ref" => (k_here; k_dflt (refine' callWith_K ?cwA ?cwB ?_; (case cwA => k_asm); (case cwB => k_is); k_whole))
  k_with "omega" => first | decide | with_reducible assumption | exact Int.lt_of_le_of_lt (by with_reducible assumption) (by decide) | exact Int.lt_of_lt_of_le (by with_reducible assumption) (by decide) | exact Int.le_trans (by with_reducible assumption) (by decide) | exact lo_tr (by with_reducible assumption) (by decide) | exact lo_le (by with_reducible assumption) (by decide) | exact Nat.le_trans (by with_reducible assumption) (by decide) | exact Nat.lt_of_le_of_lt (by with_reducible assumption) (by decide) | lia
  k_with "k_ne" => (refine neN ?_; (try dsimp only); first | decide | with_reducible assumption | exact Ne.symm (by with_reducible assumption) | (refine Nat.ne_of_gt ?_; (first | with_reducible assumption | exact at1 (by with_reducible assumption) | exact at2 (by with_reducible assumption) | exact at3 (by with_reducible assumption) | exact at4 (by with_reducible assumption) | exact at5 (by with_reducible assumption) | exact at6 (by with_reducible assumption) | exact at7 (by with_reducible assumption) | exact at8 (by with_reducible assumption) | exact up1 (by with_reducible assumption) | exact up2 (by with_reducible assumption) | exact up2 (at1 (by with_reducible assumption)) | exact up2 (at2 (by with_reducible assumption)) | exact up2 (at3 (by with_reducible assumption)) | exact up2 (at4 (by with_reducible assumption)) | exact up1 (at1 (by with_reducible assumption)) | exact up1 (at2 (by with_reducible assumption)) | exact up1 (at3 (by with_reducible assumption)) | exact up1 (at4 (by with_reducible assumption)))) | (refine Nat.ne_of_lt ?_; (first | with_reducible assumption | exact at1 (by with_reducible assumption) | exact at2 (by with_reducible assumption) | exact at3 (by with_reducible assumption) | exact at4 (by with_reducible assumption) | exact at5 (by with_reducible assumption) | exact at6 (by with_reducible assumption) | exact at7 (by with_reducible assumption) | exact at8 (by with_reducible assumption) | exact up1 (by with_reducible assumption) | exact up2 (by with_reducible assumption) | exact up2 (at1 (by with_reducible assumption)) | exact up2 (at2 (by with_reducible assumption)) | exact up2 (at3 (by with_reducible assumption)) | exact up2 (at4 (by with_reducible assumption)) | exact up1 (at1 (by with_reducible assumption)) | exact up1 (at2 (by with_reducible assumption)) | exact up1 (at3 (by with_reducible assumption)) | exact up1 (at4 (by with_reducible assumption)))) | omega)
  k_with "mem_go" => first | with_reducible assumption | exact List.Mem.head _ | (refine List.mem_cons_of_mem _ ?_; (k_extra "mem_go"))
  k_with "sub_go" => first | exact fun _ h => h | exact sub_nil | (refine sub_cons ?hSub ?_; (case hSub => (k_extra "mem_go")); (k_extra "sub_go")) | ((fail_if_success (refine sub_cons ?_ ?_)); refine sub_drop ?_; (k_extra "sub_go")) | with_reducible assumption
  k_with "off_go" => first | exact off_nil | with_reducible assumption | (refine off_cons ?hOff ?_; (case hOff => k_ne); (k_extra "off_go")) | exact off_old (by with_reducible assumption) (by (k_extra "sub_go")) | exact off_sub (by with_reducible assumption) (by (k_extra "sub_go"))
  k_with "k_mem" => (k_extra "mem_go")
  k_with "k_all" => (k_extra "off_go")
  trivial
noncomputable def numOf2 (ns : List Int) : Int := ns.getD 0 0 * 256 + ns.getD 1 0
theorem wsR4_1 : True := by
  w_top off
  k_with_none
  k_with "ktr_room" => first | exact room1 (by assumption) | exact room3 (by assumption) (Nat.le_of_ble_eq_true rfl) | exact room2 (by assumption) (Nat.le_of_ble_eq_true rfl)
  k_with "ktr_units" => first | exact unit3 (by assumption) (Nat.le_of_ble_eq_true rfl) | exact unit2 (by assumption) (Nat.le_of_ble_eq_true rfl)
  k_with "callWith ref" => (k_here; k_dflt (refine' callWith_K ?cwA ?cwB ?_; (case cwA => k_asm); (case cwB => k_is); k_whole))
  k_with "omega" => first | decide | with_reducible assumption | exact Int.lt_of_le_of_lt (by with_reducible assumption) (by decide) | exact Int.lt_of_lt_of_le (by with_reducible assumption) (by decide) | exact Int.le_trans (by with_reducible assumption) (by decide) | exact lo_tr (by with_reducible assumption) (by decide) | exact lo_le (by with_reducible assumption) (by decide) | exact Nat.le_trans (by with_reducible assumption) (by decide) | exact Nat.lt_of_le_of_lt (by with_reducible assumption) (by decide) | lia
  k_with "k_ne" => (refine neN ?_; (try dsimp only); first | decide | with_reducible assumption | exact Ne.symm (by with_reducible assumption) | (refine Nat.ne_of_gt ?_; (first | with_reducible assumption | exact at1 (by with_reducible assumption) | exact at2 (by with_reducible assumption) | exact at3 (by with_reducible assumption) | exact at4 (by with_reducible assumption) | exact at5 (by with_reducible assumption) | exact at6 (by with_reducible assumption) | exact at7 (by with_reducible assumption) | exact at8 (by with_reducible assumption) | exact up1 (by with_reducible assumption) | exact up2 (by with_reducible assumption) | exact up2 (at1 (by with_reducible assumption)) | exact up2 (at2 (by with_reducible assumption)) | exact up2 (at3 (by with_reducible assumption)) | exact up2 (at4 (by with_reducible assumption)) | exact up1 (at1 (by with_reducible assumption)) | exact up1 (at2 (by with_reducible assumption)) | exact up1 (at3 (by with_reducible assumption)) | exact up1 (at4 (by with_reducible assumption)))) | (refine Nat.ne_of_lt ?_; (first | with_reducible assumption | exact at1 (by with_reducible assumption) | exact at2 (by with_reducible assumption) | exact at3 (by with_reducible assumption) | exact at4 (by with_reducible assumption) | exact at5 (by with_reducible assumption) | exact at6 (by with_reducible assumption) | exact at7 (by with_reducible assumption) | exact at8 (by with_reducible assumption) | exact up1 (by with_reducible assumption) | exact up2 (by with_reducible assumption) | exact up2 (at1 (by with_reducible assumption)) | exact up2 (at2 (by with_reducible assumption)) | exact up2 (at3 (by with_reducible assumption)) | exact up2 (at4 (by with_reducible assumption)) | exact up1 (at1 (by with_reducible assumption)) | exact up1 (at2 (by with_reducible assumption)) | exact up1 (at3 (by with_reducible assumption)) | exact up1 (at4 (by with_reducible assumption)))) | omega)
  k_with "mem_go" => first | with_reducible assumption | exact List.Mem.head _ | (refine List.mem_cons_of_mem _ ?_; (k_extra "mem_go"))
  k_with "sub_go" => first | exact fun _ h => h | exact sub_nil | (refine sub_cons ?hSub ?_; (case hSub => (k_extra "mem_go")); (k_extra "sub_go")) | ((fail_if_success (refine sub_cons ?_ ?_)); refine sub_drop ?_; (k_extra "sub_go")) | with_reducible assumption
  k_with "off_go" => first | exact off_nil | with_reducible assumption | (refine off_cons ?hOff ?_; (case hOff => k_ne); (k_extra "off_go")) | exact off_old (by with_reducible assumption) (by (k_extra "sub_go")) | exact off_sub (by with_reducible assumption) (by (k_extra "sub_go"))
  k_with "k_mem" => (k_extra "mem_go")
  k_with "k_all" => (k_extra "off_go")
  k_with "leaving ref" => (k_here; refine' leave_onS (by k_asm) (by assumption) (by assumption) (by assumption) ?_; intro h' R' Rk' U'; clear Rk'; (try dsimp only at R' U'))
  k_with "ExcP" => (unfold ExcP; intro e3'; first | exact e3'.elim | intro e' t' vs' g' h' tk' Fg' U' R'; (try simp only [decide_eq_false_iff_not, beq_eq_false_iff_ne, ne_eq] at e3'))
  k_with "call ref" => (k_here; (with_reducible refine (?_ : wpAny _ _ (call (Value.ref 203) _) _ _ _)); k_dflt (refine CtK.run (by k_asm) (by k_asm) (want_ck) (by k_asm) (by k_asm) (by k_asm) (by first | rfl | assumption) (by ktr_room) (by ktr_units) (fun e3' h' tk' F' N' => ?_) ?_); case' _ => ((try dsimp only at N'); simp only [decide_eq_true_eq, beq_iff_eq] at e3'))
  k_with "call ref" => (k_here; (with_reducible refine (?_ : wpAny _ _ (call (Value.ref 84) _) _ _ _)); k_dflt (refine CtK.run0 (by k_asm) (by k_asm) (word_ck (by omega) (by omega)) (by k_asm) (by k_asm) (by k_asm) (by first | rfl | assumption) (by ktr_room) (by ktr_units) (fun b' u' bi' h' tk' F' N' => ?_)); ((try dsimp only at N')))
  trivial
set_option maxRecDepth 100000 in
set_option maxHeartbeats 8000000 in
theorem readNumber_ct {w : World} {b : Array UInt8} {tb : Tok} {ns : List Int} {news : Led} (hb : KBw.bInts b = ns) (hz : ns.length ≤ 100) :
    Ct w 278 [.bytes b tb] news 12 90 (fun v news' => (∃ t, v = .int (numOf2 ns) t) ∧ news' = news ∧ ns.length = 2) (ns.length ≠ 2) := by
  intro mean mg mb dp un gd cn csc a' ccd cl outer A₀ base h₀ L m s Q E X B F N T hk hd hu hret hexc
  refine wpAny_call ?_
  k_dflt cell_enter
  k_steps
  · exact hret _ _ _ _ (by k_asm) (by k_asm) ⟨⟨_, rfl⟩, rfl, by omega⟩
  · exact hexc (by omega) _ _ _ _ _ _ (by k_asm) (by assumption) (by assumption)
set_option maxRecDepth 100000 in
set_option maxHeartbeats 8000000 in
theorem writeInterval_ct {w : World} {n : Int} {t : Tok} {news : Led} (h0 : 0 ≤ n) (h1 : n ≤ 65535) : Ct w 292 [.int n t] news 4 40 (fun r news' => (∃ b u, r = .bytes b u ∧ KBw.bInts b = [n / 256, n % 256]) ∧ news' = news) False := by
  intro mean mg mb dp un gd cn csc a' ccd cl outer A₀ base h₀ L m s Q E X B F N T hk hd hu hret _
  refine wpAny_call ?_
  k_dflt cell_enter
  k_steps
  exact hret _ _ _ _ (by k_asm) (by k_asm) ⟨⟨_, _, rfl, by assumption⟩, rfl⟩
set_option maxRecDepth 100000 in
set_option maxHeartbeats 8000000 in
theorem writeLines_ct {w : World} {n : Int} {t : Tok} {news : Led} (h0 : 0 ≤ n) (h1 : n ≤ 65535) : Ct w 306 [.int n t] news 12 90 (fun r news' => (∃ b u, r = .bytes b u ∧ KBw.bInts b = [n / 256, n % 256]) ∧ news' = news ∧ 0 < n) (¬ 0 < n) := by
  intro mean mg mb dp un gd cn csc a' ccd cl outer A₀ base h₀ L m s Q E X B F N T hk hd hu hret hexc
  refine wpAny_call ?_
  k_dflt cell_enter
  k_steps
  · exact hret _ _ _ _ (by k_asm) (by k_asm) ⟨⟨_, _, rfl, by assumption⟩, rfl, by omega⟩
  · exact hexc (by omega) _ _ _ _ _ _ (by k_asm) (by assumption) (by assumption)
theorem readNumber_ck {w : World} {b : Array UInt8} {tb : Tok} {ns : List Int} {news : Led} (hb : KBw.bInts b = ns) (hz : ns.length ≤ 100) : CtK w 278 [.bytes b tb] news 12 90 (fun φ => ∀ t, ns.length = 2 → φ (.int (numOf2 ns) t) news) (ns.length ≠ 2) :=
  (readNumber_ct hb hz).k kIntP
theorem wsR4_2 : True := by
  k_with "call ref" => (k_here; (with_reducible refine (?_ : wpAny _ _ (call (Value.ref 278) _) _ _ _)); k_dflt (refine CtK.run (by k_asm) (by k_asm) (readNumber_ck (by assumption) (by assumption)) (by k_asm) (by k_asm) (by k_asm) (by first | rfl | assumption) (by ktr_room) (by ktr_units) (fun t' e3' h' tk' F' N' => ?_) ?_); case' _ => ((try dsimp only at N')))
  trivial
set_option maxRecDepth 100000 in
set_option maxHeartbeats 8000000 in
theorem readInterval_ct {w : World} {b : Array UInt8} {tb : Tok} {ns : List Int} {news : Led} (hb : KBw.bInts b = ns) (hz : ns.length ≤ 100) :
    Ct w 285 [.bytes b tb] news 14 100 (fun v news' => (∃ t, v = .int (numOf2 ns) t) ∧ news' = news ∧ ns.length = 2) (ns.length ≠ 2) := by
  intro mean mg mb dp un gd cn csc a' ccd cl outer A₀ base h₀ L m s Q E X B F N T hk hd hu hret hexc
  refine wpAny_call ?_
  k_dflt cell_enter
  k_steps
  · exact hret _ _ _ _ (by k_asm) (by k_asm) ⟨⟨_, rfl⟩, rfl, by assumption⟩
  · exact hexc (by assumption) _ _ _ _ _ _ (by k_asm) (by assumption) (by assumption)
set_option maxRecDepth 100000 in
set_option maxHeartbeats 8000000 in
theorem readLines_ct {w : World} {b : Array UInt8} {tb : Tok} {ns : List Int} {news : Led} (hb : KBw.bInts b = ns) (hz : ns.length ≤ 100) :
    Ct w 299 [.bytes b tb] news 14 100 (fun v news' => (∃ t, v = .int (numOf2 ns) t) ∧ news' = news ∧ ns.length = 2 ∧ 0 < numOf2 ns) (¬ (ns.length = 2 ∧ 0 < numOf2 ns)) := by
  intro mean mg mb dp un gd cn csc a' ccd cl outer A₀ base h₀ L m s Q E X B F N T hk hd hu hret hexc
  refine wpAny_call ?_
  k_dflt cell_enter
  k_steps
  all_goals first
    | exact hret _ _ _ _ (by k_asm) (by k_asm) ⟨⟨_, rfl⟩, rfl, by assumption, by omega⟩
    | exact hexc (by omega) _ _ _ _ _ _ (by k_asm) (by assumption) (by assumption)
theorem writeLines_ck {w : World} {n : Int} {t : Tok} {news : Led} (h0 : 0 ≤ n) (h1 : n ≤ 65535) : CtK w 306 [.int n t] news 12 90 (fun φ => ∀ b u, KBw.bInts b = [n / 256, n % 256] → 0 < n → φ (.bytes b u) news) (¬ 0 < n) :=
  (writeLines_ct h0 h1).k kBytesP
theorem writeInterval_ck {w : World} {n : Int} {t : Tok} {news : Led} (h0 : 0 ≤ n) (h1 : n ≤ 65535) : CtK w 292 [.int n t] news 4 40 (fun φ => ∀ b u, KBw.bInts b = [n / 256, n % 256] → φ (.bytes b u) news) False :=
  (writeInterval_ct h0 h1).k kBytes
theorem readInterval_ck {w : World} {b : Array UInt8} {tb : Tok} {ns : List Int} {news : Led} (hb : KBw.bInts b = ns) (hz : ns.length ≤ 100) : CtK w 285 [.bytes b tb] news 14 100 (fun φ => ∀ t, ns.length = 2 → φ (.int (numOf2 ns) t) news) (ns.length ≠ 2) :=
  (readInterval_ct hb hz).k kIntP
-- part P1
theorem wsP1_0 : True := by
  w_top off
  k_with_none
  k_with "ktr_room" => first | exact room1 (by assumption) | exact room3 (by assumption) (Nat.le_of_ble_eq_true rfl) | exact room2 (by assumption) (Nat.le_of_ble_eq_true rfl)
  k_with "ktr_units" => first | exact unit3 (by assumption) (Nat.le_of_ble_eq_true rfl) | exact unit2 (by assumption) (Nat.le_of_ble_eq_true rfl)
  k_with "callWith ref" => (k_here; k_dflt (refine' callWith_K ?cwA ?cwB ?_; (case cwA => k_asm); (case cwB => k_is); k_whole))
  k_with "omega" => first | decide | with_reducible assumption | exact Int.lt_of_le_of_lt (by with_reducible assumption) (by decide) | exact Int.lt_of_lt_of_le (by with_reducible assumption) (by decide) | exact Int.le_trans (by with_reducible assumption) (by decide) | exact lo_tr (by with_reducible assumption) (by decide) | exact lo_le (by with_reducible assumption) (by decide) | exact Nat.le_trans (by with_reducible assumption) (by decide) | exact Nat.lt_of_le_of_lt (by with_reducible assumption) (by decide) | lia
  k_with "k_ne" => (refine neN ?_; (try dsimp only); first | decide | with_reducible assumption | exact Ne.symm (by with_reducible assumption) | (refine Nat.ne_of_gt ?_; (first | with_reducible assumption | exact at1 (by with_reducible assumption) | exact at2 (by with_reducible assumption) | exact at3 (by with_reducible assumption) | exact at4 (by with_reducible assumption) | exact at5 (by with_reducible assumption) | exact at6 (by with_reducible assumption) | exact at7 (by with_reducible assumption) | exact at8 (by with_reducible assumption) | exact up1 (by with_reducible assumption) | exact up2 (by with_reducible assumption) | exact up2 (at1 (by with_reducible assumption)) | exact up2 (at2 (by with_reducible assumption)) | exact up2 (at3 (by with_reducible assumption)) | exact up2 (at4 (by with_reducible assumption)) | exact up1 (at1 (by with_reducible assumption)) | exact up1 (at2 (by with_reducible assumption)) | exact up1 (at3 (by with_reducible assumption)) | exact up1 (at4 (by with_reducible assumption)))) | (refine Nat.ne_of_lt ?_; (first | with_reducible assumption | exact at1 (by with_reducible assumption) | exact at2 (by with_reducible assumption) | exact at3 (by with_reducible assumption) | exact at4 (by with_reducible assumption) | exact at5 (by with_reducible assumption) | exact at6 (by with_reducible assumption) | exact at7 (by with_reducible assumption) | exact at8 (by with_reducible assumption) | exact up1 (by with_reducible assumption) | exact up2 (by with_reducible assumption) | exact up2 (at1 (by with_reducible assumption)) | exact up2 (at2 (by with_reducible assumption)) | exact up2 (at3 (by with_reducible assumption)) | exact up2 (at4 (by with_reducible assumption)) | exact up1 (at1 (by with_reducible assumption)) | exact up1 (at2 (by with_reducible assumption)) | exact up1 (at3 (by with_reducible assumption)) | exact up1 (at4 (by with_reducible assumption)))) | omega)
  k_with "mem_go" => first | with_reducible assumption | exact List.Mem.head _ | (refine List.mem_cons_of_mem _ ?_; (k_extra "mem_go"))
  k_with "sub_go" => first | exact fun _ h => h | exact sub_nil | (refine sub_cons ?hSub ?_; (case hSub => (k_extra "mem_go")); (k_extra "sub_go")) | ((fail_if_success (refine sub_cons ?_ ?_)); refine sub_drop ?_; (k_extra "sub_go")) | with_reducible assumption
  k_with "off_go" => first | exact off_nil | with_reducible assumption | (refine off_cons ?hOff ?_; (case hOff => k_ne); (k_extra "off_go")) | exact off_old (by with_reducible assumption) (by (k_extra "sub_go")) | exact off_sub (by with_reducible assumption) (by (k_extra "sub_go"))
  k_with "k_mem" => (k_extra "mem_go")
  k_with "k_all" => (k_extra "off_go")
  trivial
theorem wsP1_1 : True := by
  w_top off
  k_with_none
  k_with "ktr_room" => first | exact room1 (by assumption) | exact room3 (by assumption) (Nat.le_of_ble_eq_true rfl) | exact room2 (by assumption) (Nat.le_of_ble_eq_true rfl)
  k_with "ktr_units" => first | exact unit3 (by assumption) (Nat.le_of_ble_eq_true rfl) | exact unit2 (by assumption) (Nat.le_of_ble_eq_true rfl)
  k_with "callWith ref" => (k_here; k_dflt (refine' callWith_K ?cwA ?cwB ?_; (case cwA => k_asm); (case cwB => k_is); k_whole))
  k_with "omega" => first | decide | with_reducible assumption | exact Int.lt_of_le_of_lt (by with_reducible assumption) (by decide) | exact Int.lt_of_lt_of_le (by with_reducible assumption) (by decide) | exact Int.le_trans (by with_reducible assumption) (by decide) | exact lo_tr (by with_reducible assumption) (by decide) | exact lo_le (by with_reducible assumption) (by decide) | exact Nat.le_trans (by with_reducible assumption) (by decide) | exact Nat.lt_of_le_of_lt (by with_reducible assumption) (by decide) | lia
  k_with "k_ne" => (refine neN ?_; (try dsimp only); first | decide | with_reducible assumption | exact Ne.symm (by with_reducible assumption) | (refine Nat.ne_of_gt ?_; (first | with_reducible assumption | exact at1 (by with_reducible assumption) | exact at2 (by with_reducible assumption) | exact at3 (by with_reducible assumption) | exact at4 (by with_reducible assumption) | exact at5 (by with_reducible assumption) | exact at6 (by with_reducible assumption) | exact at7 (by with_reducible assumption) | exact at8 (by with_reducible assumption) | exact up1 (by with_reducible assumption) | exact up2 (by with_reducible assumption) | exact up2 (at1 (by with_reducible assumption)) | exact up2 (at2 (by with_reducible assumption)) | exact up2 (at3 (by with_reducible assumption)) | exact up2 (at4 (by with_reducible assumption)) | exact up1 (at1 (by with_reducible assumption)) | exact up1 (at2 (by with_reducible assumption)) | exact up1 (at3 (by with_reducible assumption)) | exact up1 (at4 (by with_reducible assumption)))) | (refine Nat.ne_of_lt ?_; (first | with_reducible assumption | exact at1 (by with_reducible assumption) | exact at2 (by with_reducible assumption) | exact at3 (by with_reducible assumption) | exact at4 (by with_reducible assumption) | exact at5 (by with_reducible assumption) | exact at6 (by with_reducible assumption) | exact at7 (by with_reducible assumption) | exact at8 (by with_reducible assumption) | exact up1 (by with_reducible assumption) | exact up2 (by with_reducible assumption) | exact up2 (at1 (by with_reducible assumption)) | exact up2 (at2 (by with_reducible assumption)) | exact up2 (at3 (by with_reducible assumption)) | exact up2 (at4 (by with_reducible assumption)) | exact up1 (at1 (by with_reducible assumption)) | exact up1 (at2 (by with_reducible assumption)) | exact up1 (at3 (by with_reducible assumption)) | exact up1 (at4 (by with_reducible assumption)))) | omega)
  k_with "mem_go" => first | with_reducible assumption | exact List.Mem.head _ | (refine List.mem_cons_of_mem _ ?_; (k_extra "mem_go"))
  k_with "sub_go" => first | exact fun _ h => h | exact sub_nil | (refine sub_cons ?hSub ?_; (case hSub => (k_extra "mem_go")); (k_extra "sub_go")) | ((fail_if_success (refine sub_cons ?_ ?_)); refine sub_drop ?_; (k_extra "sub_go")) | with_reducible assumption
  k_with "off_go" => first | exact off_nil | with_reducible assumption | (refine off_cons ?hOff ?_; (case hOff => k_ne); (k_extra "off_go")) | exact off_old (by with_reducible assumption) (by (k_extra "sub_go")) | exact off_sub (by with_reducible assumption) (by (k_extra "sub_go"))
  k_with "k_mem" => (k_extra "mem_go")
  k_with "k_all" => (k_extra "off_go")
  k_with "call type:range" => (k_here; (with_reducible refine (?_ : wpAny _ _ (call (Value.type "range") [Value.int _ _]) _ _ _)); k_dflt (refine range1_rows (by k_asm) (by k_asm) ?_); intro _ _ _ _ _ rg' F' N' _)
  k_with "exec For Name Call cons nil" => (k_here; (rename Fr _ _ _ _ => lF'); (with_unfolding_all refine' For_invVF lF' ?k1 ?k2 ?_; (case k1 => exact rfl); (case k2 => exact rfl); k_whole))
  k_with "pyIter ref" => (k_here; (with_reducible refine (?_ : wpAny _ _ (pyIter (Value.ref _)) (fun it s₂ => LoopAtV _ _ _ _ _ _ _ _ _ it s₂) _ _)); (with_unfolding_all refine iter_rangeUnr (by rfl) rg' (small_one (by decide) (by decide) (by split <;> omega) (by split <;> omega)) (rangeSize_nat _ _) (by k_asm) (by k_asm) ?_); intro i' l1; (try k_lt l1))
  k_with "subscriptTail" => (k_here; (with_reducible refine (?_ : wpAny _ _ (subscriptTail _ _ (Value.ref _) (Value.int _ _)) _ _ _)); k_dflt (refine item_litK (hL1.imp fun o z => ⟨Fr.keep (by k_asm) _ _ z.1, z.2⟩) (by omega) (by omega) e1 ?_ (by with_unfolding_all rfl)))
  k_with "mul_fits" => exact PySem.IntMulOk.of_left (PySem.intBits_le_64 (by omega) (by omega))
  trivial
set_option maxRecDepth 100000 in
set_option maxHeartbeats 8000000 in
theorem pool_ct {w : World} {mean : ExcName → Option Value} {mg mb : Str → Option Value} {dp un : Nat} {gd : Option (List Code)} {cn : Str} {cs : Scope} {a : Addr} {ccd : Value} {cl : List (Str × Addr)} {outer : List Env} {A₀ : Around} {base h₀ : Heap} {L : Addr} {m : Str → Option Value} {s : Shared} {Q E : Value → Shared → Prop}
    {news : Led} {l : Addr} {vs : List Value} {ns : List Int}
    (X : (hd.heap_1 w.params).In h₀) (B : Below A₀ base outer h₀) (F : Fr h₀ L s.heap m) (N : News h₀ L s.heap news) (T : Top topProg Lo mean mg mb h₀) (hk : cs.kind = .function) (hdp : dp + 6 < recursionLimit) (hu : un + 60 < cLine)
    (hL : h₀.IsList l vs.toArray) (hI : IntsAre vs ns) (h63 : ns.length ≤ 63)
    (ret : ∀ r o h' tk', Fr h₀ L h' m → News h₀ L h' ((r, o) :: news) → (∀ p ∈ news, p.1 < r) → Src r o → Q (.ref r) { s with heap := h', toks := tk' }) :
    wpAny (model PySem.Challenge.rw_nt0560_01.row.prog w) (ktrTop dp un gd cn cs L a ccd cl outer) (call (.ref 313) [.ref l]) Q E s := by
  have hlen := hI.length
  refine wpAny_call ?_
  k_dflt cell_enter
  rename Fr h₀ _ _ _ => FG1
  have hL1 := (hL.imp fun o z => ⟨FG1.keep _ _ z.1, z.2⟩ : Heap.IsList _ l vs.toArray)
  k_steps
  all_goals (
    refine range_acc (Str.ofString "mixed") (fun _ u => ∃ x t, u = .int x t ∧ 0 ≤ x ∧ x < 2147483647) ?_ ?_ (by (k_extra "off_go")) (by rfl) ⟨_, _, rfl, Int.add_nonneg (fmod_lo _ (by decide)) (by decide), Int.lt_of_lt_of_le (Int.add_lt_add_right (fmod_hi _ (by decide)) 17) (by decide)⟩
    · rintro i u hi ⟨x, t, rfl, x0, x1⟩ tt h tk F2 N2
      obtain ⟨n, tn, e1, e2, e3⟩ := ints_get hI (i := i) (by revert hi; split <;> omega)
      rw [show i = ((0 : Int) + (i : Int)).toNat by omega] at e1
      k_steps
      exact UnrEnd.intro (by k_asm) (by k_asm) news (by (k_extra "sub_go")) (by (k_extra "off_go")) ⟨rfl, _, _, acc_norm (by decide), _, _, rfl, fmod_lo _ (by decide), fmod_hi _ (by decide)⟩
    · rintro u ⟨x, t, rfl, x0, x1⟩ lv h tk F2 N2
      k_steps
      all_goals exact ret _ _ _ _ (by k_asm) (by k_asm) (by assumption) ⟨_, _, _, _, _, rfl, by omega, by omega, by omega⟩)
-- part Q0
theorem wsQ0_0 : True := by
  w_top off
  k_with_none
  k_with "ktr_room" => first | exact room1 (by assumption) | exact room3 (by assumption) (Nat.le_of_ble_eq_true rfl) | exact room2 (by assumption) (Nat.le_of_ble_eq_true rfl)
  k_with "ktr_units" => first | exact unit3 (by assumption) (Nat.le_of_ble_eq_true rfl) | exact unit2 (by assumption) (Nat.le_of_ble_eq_true rfl)
  k_with "callWith ref" => (k_here; k_dflt (refine' callWith_K ?cwA ?cwB ?_; (case cwA => k_asm); (case cwB => k_is); k_whole))
  k_with "omega" => first | decide | with_reducible assumption | exact Int.lt_of_le_of_lt (by with_reducible assumption) (by decide) | exact Int.lt_of_lt_of_le (by with_reducible assumption) (by decide) | exact Int.le_trans (by with_reducible assumption) (by decide) | exact lo_tr (by with_reducible assumption) (by decide) | exact lo_le (by with_reducible assumption) (by decide) | exact Nat.le_trans (by with_reducible assumption) (by decide) | exact Nat.lt_of_le_of_lt (by with_reducible assumption) (by decide) | lia
  k_with "k_ne" => (refine neN ?_; (try dsimp only); first | decide | with_reducible assumption | exact Ne.symm (by with_reducible assumption) | (refine Nat.ne_of_gt ?_; (first | with_reducible assumption | exact at1 (by with_reducible assumption) | exact at2 (by with_reducible assumption) | exact at3 (by with_reducible assumption) | exact at4 (by with_reducible assumption) | exact at5 (by with_reducible assumption) | exact at6 (by with_reducible assumption) | exact at7 (by with_reducible assumption) | exact at8 (by with_reducible assumption) | exact up1 (by with_reducible assumption) | exact up2 (by with_reducible assumption) | exact up2 (at1 (by with_reducible assumption)) | exact up2 (at2 (by with_reducible assumption)) | exact up2 (at3 (by with_reducible assumption)) | exact up2 (at4 (by with_reducible assumption)) | exact up1 (at1 (by with_reducible assumption)) | exact up1 (at2 (by with_reducible assumption)) | exact up1 (at3 (by with_reducible assumption)) | exact up1 (at4 (by with_reducible assumption)))) | (refine Nat.ne_of_lt ?_; (first | with_reducible assumption | exact at1 (by with_reducible assumption) | exact at2 (by with_reducible assumption) | exact at3 (by with_reducible assumption) | exact at4 (by with_reducible assumption) | exact at5 (by with_reducible assumption) | exact at6 (by with_reducible assumption) | exact at7 (by with_reducible assumption) | exact at8 (by with_reducible assumption) | exact up1 (by with_reducible assumption) | exact up2 (by with_reducible assumption) | exact up2 (at1 (by with_reducible assumption)) | exact up2 (at2 (by with_reducible assumption)) | exact up2 (at3 (by with_reducible assumption)) | exact up2 (at4 (by with_reducible assumption)) | exact up1 (at1 (by with_reducible assumption)) | exact up1 (at2 (by with_reducible assumption)) | exact up1 (at3 (by with_reducible assumption)) | exact up1 (at4 (by with_reducible assumption)))) | omega)
  k_with "mem_go" => first | with_reducible assumption | exact List.Mem.head _ | (refine List.mem_cons_of_mem _ ?_; (k_extra "mem_go"))
  k_with "sub_go" => first | exact fun _ h => h | exact sub_nil | (refine sub_cons ?hSub ?_; (case hSub => (k_extra "mem_go")); (k_extra "sub_go")) | ((fail_if_success (refine sub_cons ?_ ?_)); refine sub_drop ?_; (k_extra "sub_go")) | with_reducible assumption
  k_with "off_go" => first | exact off_nil | with_reducible assumption | (refine off_cons ?hOff ?_; (case hOff => k_ne); (k_extra "off_go")) | exact off_old (by with_reducible assumption) (by (k_extra "sub_go")) | exact off_sub (by with_reducible assumption) (by (k_extra "sub_go"))
  k_with "k_mem" => (k_extra "mem_go")
  k_with "k_all" => (k_extra "off_go")
  trivial
noncomputable def compDat (c : C4) : Dat := .tuple [.int c.1, .int c.2.1, .int c.2.2.1, .int c.2.2.2]
noncomputable def frameDat (code prec height width : Int) (cs : List C4) : Dat := .tuple [.int code, .int prec, .int height, .int width, .list (cs.map compDat)]
noncomputable abbrev tupN (vs : List Value) (n : Nat) : Obj := { cls := .type "tuple", data := .seq vs.toArray n }
theorem dat_int {news : Led} {v : Value} {i : Int} (h : DatIn news v (.int i)) : ∃ t, v = .int i t := by cases h; exact ⟨_, rfl⟩
theorem dat_ints1 {news : Led} {vs : List Value} {i : Int} {ds : List Dat} (h : DatAll news vs (.int i :: ds)) : ∃ t r, vs = .int i t :: r ∧ DatAll news r ds := by
  cases h with
  | cons a b =>
    obtain ⟨t, rfl⟩ := dat_int a
    exact ⟨t, _, rfl, b⟩
theorem comp_inv {news : Led} {v : Value} {c : C4} (h : DatIn news v (compDat c)) : ∃ x n t1 t2 t3 t4, v = .ref x ∧ (x, tupN [.int c.1 t1, .int c.2.1 t2, .int c.2.2.1 t3, .int c.2.2.2 t4] n) ∈ news := by
  unfold compDat at h
  cases h with
  | tuple hm r =>
    obtain ⟨t1, r1, rfl, q1⟩ := dat_ints1 r
    obtain ⟨t2, r2, rfl, q2⟩ := dat_ints1 q1
    obtain ⟨t3, r3, rfl, q3⟩ := dat_ints1 q2
    obtain ⟨t4, r4, rfl, q4⟩ := dat_ints1 q3
    cases q4
    exact ⟨_, _, t1, t2, t3, t4, rfl, hm⟩
theorem frame_inv {news : Led} {f : Addr} {code prec height width : Int} {cs : List C4} (h : DatIn news (.ref f) (frameDat code prec height width cs)) : ∃ n t1 t2 t3 t4 lc vs k, (f, tupN [.int code t1, .int prec t2, .int height t3, .int width t4, .ref lc] n) ∈ news ∧ (lc, listOf vs.toArray k) ∈ news ∧ DatAll news vs (cs.map compDat) := by
  unfold frameDat at h
  cases h with
  | tuple hm r =>
    obtain ⟨t1, r1, rfl, q1⟩ := dat_ints1 r
    obtain ⟨t2, r2, rfl, q2⟩ := dat_ints1 q1
    obtain ⟨t3, r3, rfl, q3⟩ := dat_ints1 q2
    obtain ⟨t4, r4, rfl, q4⟩ := dat_ints1 q3
    cases q4 with
    | cons a b =>
      cases b
      cases a with
      | list hl hd => exact ⟨_, t1, t2, t3, t4, _, _, _, hm, hl, hd⟩
noncomputable def mask : List Str → (Str → Option Value) → (Str → Option Value) → Str → Option Value
  | [], _, m₀ => m₀
  | x :: xs, m, m₀ => fun y => if y = x then m x else mask xs m m₀ y
theorem Off.form : ∀ {xs : List Str} {m m₀ : Str → Option Value}, Off xs m m₀ → m = mask xs m m₀ := fun {xs m m₀} h => by
  funext y
  by_cases hy : y ∈ xs
  · clear h
    induction xs with
    | nil => exact nomatch hy
    | cons x xs ih =>
      show _ = if y = x then m x else mask xs m m₀ y
      by_cases e : y = x
      · rw [if_pos e, e]
      · rw [if_neg e]
        exact ih ((List.mem_cons.mp hy).resolve_left e)
  · rw [h y hy]
    clear h
    induction xs with
    | nil => rfl
    | cons x xs ih =>
      show _ = if y = x then m x else mask xs m m₀ y
      rw [if_neg fun e => hy (by rw [e]; exact List.mem_cons_self), ← ih fun q => hy (.tail _ q)]
theorem Off.setR {xs : List Str} {m m₀ : Str → Option Value} {x : Str} {v : Option Value} (hx : x ∈ xs) (h : Off xs m m₀) : Off xs m (fun y => if y = x then v else m₀ y) := fun y hy => by
  show m y = if y = x then v else m₀ y
  rw [if_neg (fun e => hy (by rw [e]; exact hx))]
  exact h y hy
theorem subL1 {p : Addr × Obj} {n : Led} (h : p ∈ n) : SubL [p] n := ⟨h, trivial⟩
/-- a for over a list, its target any: by the items that are left -/
theorem items_ind {prog : Program} {w : World} {A : Around} {E : Value → Shared → Prop} {s : Shared} {env : Env} {h₀ : Heap} {target : Expr} {body : List Stmt} {Q : Flow → Shared → Prop} {I : Addr} {lp : Addr × Obj} (P : List Value → (Str → Option Value) → Led → Prop)
    (hbody : ∀ v r m n, P (v :: r) m n → ∀ (o : Obj) h tk, o.cls = .type "list_iterator" → Fr h₀ env.locals h m → News h₀ env.locals h ((I, o) :: n) →
      wpAny (model prog w) A (assign target env v) (fun _ s₂ => wpAny (model prog w) A (execs body env) (UnrPostW h₀ env.locals { s with heap := h, toks := tk } [(I, o)] (fun m' n' => lp ∈ n' ∧ P r m' n') Q) E s₂) E { s with heap := h, toks := tk })
    (hend : ∀ m n, P [] m n → ∀ h tk, Fr h₀ env.locals h m → News h₀ env.locals h n → Q .next { s with heap := h, toks := tk }) :
    ∀ vs m n, P vs m n → ItemsRest prog w A E h₀ env target body Q s [(I, "list_iterator")] [lp] (vs.map .val) m n
  | [], m, n, p => ItemsRest.zero (hend m n p)
  | v :: r, m, n, p => ItemsRest.val fun h tk F => AllObj.cons fun o hc => AllObj.nil fun N =>
    wpAny_mono (hbody v r m n p o h tk hc F N) (fun _ s₂ q => wpAny_mono q (fun f s₃ q => by
      have go : ∀ {s₃}, UnrEndW h₀ env.locals { s with heap := h, toks := tk } [(I, o)] (fun m' n' => lp ∈ n' ∧ P r m' n') s₃ → UnrEndW h₀ env.locals { s with heap := h, toks := tk } [(I, o)] (fun m' n' => SubL [lp] n' ∧ ItemsRest prog w A E h₀ env target body Q s [(I, "list_iterator")] [lp] (r.map .val) m' n') s₃ :=
        fun ⟨h', tk', m', n', e, F', N', off, hl, p'⟩ => ⟨h', tk', m', n', e, F', N', off, subL1 hl, items_ind P hbody hend r m' n' p'⟩
      cases f with
      | ret v => exact q
      | brk => exact q
      | next => exact go q
      | cont => exact go q) fun _ _ e => e) fun _ _ e => e
theorem unrEndW_of {h₀ : Heap} {L : Addr} {s₁ : Shared} {I : Addr} {o : Obj} {rest : (Str → Option Value) → Led → Prop} {h' : Heap} {tk : Nat} {m' : Str → Option Value} {all : Led} (F : Fr h₀ L h' m') (N : News h₀ L h' all) (n' : Led) (hI : (I, o) ∈ all) (sub : ∀ p ∈ n', p ∈ all) (off : ∀ p ∈ n', p.1 ≠ I) (r : rest m' n') :
    UnrEndW h₀ L s₁ [(I, o)] rest { s₁ with heap := h', toks := tk } :=
  ⟨h', tk, m', n', rfl, F, fun p hp => (List.mem_cons.mp hp).elim (fun e => e ▸ N _ hI) fun q => N p (sub p q), fun p hp q hq => by rw [List.mem_singleton.mp hq]; exact off p hp, r⟩
open Classical in
theorem dat_ne {prog : Program} {w : World} {A : Around} {E : Value → Shared → Prop} {s : Shared} {h₀ : Heap} {L : Addr} {news n₁ n₂ : Led} {v₁ v₂ : Value} {d₁ d₂ : Dat} {Q : Value → Shared → Prop} (N : News h₀ L s.heap news) (D₁ : DatIn n₁ v₁ d₁) (s₁ : ∀ p ∈ n₁, p ∈ news) (D₂ : DatIn n₂ v₂ d₂) (s₂ : ∀ p ∈ n₂, p ∈ news)
    (o₁ : kqdOk 8 d₁ = true) (o₂ : kqdOk 8 d₂ = true) (hu : A.units + 64 < cLine) (h : Q (.bool (!decide (d₁ = d₂))) s) : wpAny (model prog w) A (compareOp .NotEq v₁ v₂) Q E s := by
  obtain ⟨as, ra⟩ := kqd_in N 8 (D₁.mono s₁) o₁
  obtain ⟨bs, rb⟩ := kqd_in N 8 (D₂.mono s₂) o₂
  have la := kqd_lay 8 d₁ o₁
  have lb := kqd_lay 8 d₂ o₂
  have e : PyData.eqv (kqdP d₁) (kqdP d₂) = decide (d₁ = d₂) := by
    have q := kqd_eqv 8 d₁ d₂ 8 o₁ o₂
    by_cases hq : d₁ = d₂
    · rw [decide_eq_true hq]; exact q.mpr hq
    · rw [decide_eq_false hq]; exact Bool.eq_false_iff.mpr fun x => hq (q.mp x)
  refine ne_dataH ra rb ?_ ?_ hu (by rw [e]; exact h)
  · unfold SeqAt.shaped; rw [la.1, Bool.true_and]; exact decide_eq_true (Nat.le_trans la.2 (by decide))
  · unfold SeqAt.shaped; rw [lb.1, Bool.true_and]; exact decide_eq_true (Nat.le_trans lb.2 (by decide))
-- part Q1
theorem wsQ1_0 : True := by
  w_top off
  k_with_none
  k_with "ktr_room" => first | exact room1 (by assumption) | exact room3 (by assumption) (Nat.le_of_ble_eq_true rfl) | exact room2 (by assumption) (Nat.le_of_ble_eq_true rfl)
  k_with "ktr_units" => first | exact unit3 (by assumption) (Nat.le_of_ble_eq_true rfl) | exact unit2 (by assumption) (Nat.le_of_ble_eq_true rfl)
  k_with "callWith ref" => (k_here; k_dflt (refine' callWith_K ?cwA ?cwB ?_; (case cwA => k_asm); (case cwB => k_is); k_whole))
  k_with "omega" => first | decide | with_reducible assumption | exact Int.lt_of_le_of_lt (by with_reducible assumption) (by decide) | exact Int.lt_of_lt_of_le (by with_reducible assumption) (by decide) | exact Int.le_trans (by with_reducible assumption) (by decide) | exact lo_tr (by with_reducible assumption) (by decide) | exact lo_le (by with_reducible assumption) (by decide) | exact Nat.le_trans (by with_reducible assumption) (by decide) | exact Nat.lt_of_le_of_lt (by with_reducible assumption) (by decide) | lia
  k_with "k_ne" => (refine neN ?_; (try dsimp only); first | decide | with_reducible assumption | exact Ne.symm (by with_reducible assumption) | (refine Nat.ne_of_gt ?_; (first | with_reducible assumption | exact at1 (by with_reducible assumption) | exact at2 (by with_reducible assumption) | exact at3 (by with_reducible assumption) | exact at4 (by with_reducible assumption) | exact at5 (by with_reducible assumption) | exact at6 (by with_reducible assumption) | exact at7 (by with_reducible assumption) | exact at8 (by with_reducible assumption) | exact up1 (by with_reducible assumption) | exact up2 (by with_reducible assumption) | exact up2 (at1 (by with_reducible assumption)) | exact up2 (at2 (by with_reducible assumption)) | exact up2 (at3 (by with_reducible assumption)) | exact up2 (at4 (by with_reducible assumption)) | exact up1 (at1 (by with_reducible assumption)) | exact up1 (at2 (by with_reducible assumption)) | exact up1 (at3 (by with_reducible assumption)) | exact up1 (at4 (by with_reducible assumption)))) | (refine Nat.ne_of_lt ?_; (first | with_reducible assumption | exact at1 (by with_reducible assumption) | exact at2 (by with_reducible assumption) | exact at3 (by with_reducible assumption) | exact at4 (by with_reducible assumption) | exact at5 (by with_reducible assumption) | exact at6 (by with_reducible assumption) | exact at7 (by with_reducible assumption) | exact at8 (by with_reducible assumption) | exact up1 (by with_reducible assumption) | exact up2 (by with_reducible assumption) | exact up2 (at1 (by with_reducible assumption)) | exact up2 (at2 (by with_reducible assumption)) | exact up2 (at3 (by with_reducible assumption)) | exact up2 (at4 (by with_reducible assumption)) | exact up1 (at1 (by with_reducible assumption)) | exact up1 (at2 (by with_reducible assumption)) | exact up1 (at3 (by with_reducible assumption)) | exact up1 (at4 (by with_reducible assumption)))) | omega)
  k_with "mem_go" => first | with_reducible assumption | exact List.Mem.head _ | (refine List.mem_cons_of_mem _ ?_; (k_extra "mem_go"))
  k_with "sub_go" => first | exact fun _ h => h | exact sub_nil | (refine sub_cons ?hSub ?_; (case hSub => (k_extra "mem_go")); (k_extra "sub_go")) | ((fail_if_success (refine sub_cons ?_ ?_)); refine sub_drop ?_; (k_extra "sub_go")) | with_reducible assumption
  k_with "off_go" => first | exact off_nil | with_reducible assumption | (refine off_cons ?hOff ?_; (case hOff => k_ne); (k_extra "off_go")) | exact off_old (by with_reducible assumption) (by (k_extra "sub_go")) | exact off_sub (by with_reducible assumption) (by (k_extra "sub_go"))
  k_with "k_mem" => (k_extra "mem_go")
  k_with "k_all" => (k_extra "off_go")
  trivial
noncomputable def c4Ok (c : C4) : Prop := (0 ≤ c.1 ∧ c.1 ≤ 255) ∧ (0 ≤ c.2.1 ∧ c.2.1 ≤ 5) ∧ (0 ≤ c.2.2.1 ∧ c.2.2.1 ≤ 5) ∧ 0 ≤ c.2.2.2 ∧ c.2.2.2 ≤ 4
noncomputable def frOk (prec height width : Int) (cs : List C4) : Prop := (0 ≤ prec ∧ prec ≤ 255) ∧ (0 ≤ height ∧ height ≤ 65535) ∧ (0 ≤ width ∧ width ≤ 65535) ∧ cs.length ≤ 4 ∧ ∀ c ∈ cs, c4Ok c
theorem comps_elim {n : Led} {v : Value} {r : List Value} {cs : List C4} {P : Prop} (h : DatAll n (v :: r) (cs.map compDat)) (k : ∀ c1 cs' y k2 u1 u2 u3 u4, cs = c1 :: cs' → v = .ref y → (y, tupN [.int c1.1 u1, .int c1.2.1 u2, .int c1.2.2.1 u3, .int c1.2.2.2 u4] k2) ∈ n → DatAll n r (cs'.map compDat) → P) : P := by
  cases cs with
  | nil => cases h
  | cons c1 cs' =>
    rw [List.map_cons] at h
    cases h with
    | cons hd hD =>
      obtain ⟨y, k2, u1, u2, u3, u4, e, hy⟩ := comp_inv hd
      exact k c1 cs' y k2 u1 u2 u3 u4 rfl e hy hD
theorem comps_end {n : Led} {cs : List C4} (h : DatAll n [] (cs.map compDat)) : cs = [] := by
  cases cs with
  | nil => rfl
  | cons c1 cs' => rw [List.map_cons] at h; cases h
/-- between the turns of _law_frame_octets -/
inductive Q1Inv (news : Led) (I : Addr) (m₀ : Str → Option Value) (prec height width : Int) (cs : List C4) (r : List Value) (m : Str → Option Value) (n : Led) : Prop
  | mk (a b : Addr × Obj) (u : Array UInt8) (t : Tok) (pre cs' : List C4) (e : n = a :: b :: news) (off : ∀ q ∈ n, q.1 ≠ I) (f : m "found" = some (.bytes u t)) (o : Off ["ident", "across", "down", "quant", "found"] m m₀) (hc : cs = pre ++ cs') (hd : DatAll news r (cs'.map compDat)) (hb : KBw.bInts u = [prec, height / 256, height % 256, width / 256, width % 256, (cs.length : Int)] ++ pre.flatMap compOct) : Q1Inv news I m₀ prec height width cs r m n
theorem wsQ1_1 : True := by
  w_top off
  k_with_none
  k_with "ktr_room" => first | exact room1 (by assumption) | exact room3 (by assumption) (Nat.le_of_ble_eq_true rfl) | exact room2 (by assumption) (Nat.le_of_ble_eq_true rfl)
  k_with "ktr_units" => first | exact unit3 (by assumption) (Nat.le_of_ble_eq_true rfl) | exact unit2 (by assumption) (Nat.le_of_ble_eq_true rfl)
  k_with "callWith ref" => (k_here; k_dflt (refine' callWith_K ?cwA ?cwB ?_; (case cwA => k_asm); (case cwB => k_is); k_whole))
  k_with "omega" => first | decide | with_reducible assumption | exact Int.lt_of_le_of_lt (by with_reducible assumption) (by decide) | exact Int.lt_of_lt_of_le (by with_reducible assumption) (by decide) | exact Int.le_trans (by with_reducible assumption) (by decide) | exact lo_tr (by with_reducible assumption) (by decide) | exact lo_le (by with_reducible assumption) (by decide) | exact Nat.le_trans (by with_reducible assumption) (by decide) | exact Nat.lt_of_le_of_lt (by with_reducible assumption) (by decide) | lia
  k_with "k_ne" => (refine neN ?_; (try dsimp only); first | decide | with_reducible assumption | exact Ne.symm (by with_reducible assumption) | (refine Nat.ne_of_gt ?_; (first | with_reducible assumption | exact at1 (by with_reducible assumption) | exact at2 (by with_reducible assumption) | exact at3 (by with_reducible assumption) | exact at4 (by with_reducible assumption) | exact at5 (by with_reducible assumption) | exact at6 (by with_reducible assumption) | exact at7 (by with_reducible assumption) | exact at8 (by with_reducible assumption) | exact up1 (by with_reducible assumption) | exact up2 (by with_reducible assumption) | exact up2 (at1 (by with_reducible assumption)) | exact up2 (at2 (by with_reducible assumption)) | exact up2 (at3 (by with_reducible assumption)) | exact up2 (at4 (by with_reducible assumption)) | exact up1 (at1 (by with_reducible assumption)) | exact up1 (at2 (by with_reducible assumption)) | exact up1 (at3 (by with_reducible assumption)) | exact up1 (at4 (by with_reducible assumption)))) | (refine Nat.ne_of_lt ?_; (first | with_reducible assumption | exact at1 (by with_reducible assumption) | exact at2 (by with_reducible assumption) | exact at3 (by with_reducible assumption) | exact at4 (by with_reducible assumption) | exact at5 (by with_reducible assumption) | exact at6 (by with_reducible assumption) | exact at7 (by with_reducible assumption) | exact at8 (by with_reducible assumption) | exact up1 (by with_reducible assumption) | exact up2 (by with_reducible assumption) | exact up2 (at1 (by with_reducible assumption)) | exact up2 (at2 (by with_reducible assumption)) | exact up2 (at3 (by with_reducible assumption)) | exact up2 (at4 (by with_reducible assumption)) | exact up1 (at1 (by with_reducible assumption)) | exact up1 (at2 (by with_reducible assumption)) | exact up1 (at3 (by with_reducible assumption)) | exact up1 (at4 (by with_reducible assumption)))) | omega)
  k_with "mem_go" => first | with_reducible assumption | exact List.Mem.head _ | (refine List.mem_cons_of_mem _ ?_; (k_extra "mem_go"))
  k_with "sub_go" => first | exact fun _ h => h | exact sub_nil | (refine sub_cons ?hSub ?_; (case hSub => (k_extra "mem_go")); (k_extra "sub_go")) | ((fail_if_success (refine sub_cons ?_ ?_)); refine sub_drop ?_; (k_extra "sub_go")) | with_reducible assumption
  k_with "off_go" => first | exact off_nil | with_reducible assumption | (refine off_cons ?hOff ?_; (case hOff => k_ne); (k_extra "off_go")) | exact off_old (by with_reducible assumption) (by (k_extra "sub_go")) | exact off_sub (by with_reducible assumption) (by (k_extra "sub_go"))
  k_with "k_mem" => (k_extra "mem_go")
  k_with "k_all" => (k_extra "off_go")
  k_with "call builtin:len" => (k_here; k_dflt (refine len_news (by k_asm) (by (k_extra "mem_go")) (by assumption) (by omega) ?_); intro _ _)
  k_with "exec For Tuple Name cons nil" => (k_here; (rename Fr _ _ _ _ => lF'); (with_unfolding_all refine' For_turns lF' ?_; k_whole))
  k_with "pyIter ref" => (k_here; (with_reducible refine (?_ : wpAny _ _ (pyIter (Value.ref _)) (fun it s₂ => TurnsAt _ _ _ _ _ _ _ _ _ it s₂) _ _)); (with_unfolding_all refine iter_listTurns (by rfl) (by k_asm) (by k_asm) (by (k_extra "mem_go")) (by rfl) (by rfl) ?_); intro i' l1; (try k_lt l1))
  k_with "call type:bytes" => (k_here; (with_reducible refine (?_ : wpAny _ _ (call (Value.type "bytes") [Value.ref _]) _ _ _)); k_dflt (refine' KBa.make_K ?kbaF ?kbaN ?kbah ?kbal ?kbai ?kbar ?kban ?_; (case kbaF => k_asm); (case kbaN => k_asm); (case kbah => rfl); (case kbal => kba_isList); (case kbai => kba_listInts); (case kbar => ((repeat' (first | exact inB_nil | refine inB_cons ?_ ?_ ?_)) <;> omega)); (case kban => exact Nat.le_of_ble_eq_true rfl)); intro _ _ _ F' N' kbaIn)
  k_with "binaryOp Add bytes bytes" => (k_here; (with_reducible refine (?_ : wpAny _ _ (binaryOp Operator.Add (Value.bytes _ _) (Value.bytes _ _)) _ _ _)); (refine KBa.add_K (by kba_ints) (by kba_ints2) (by simp only [List.length_append, flat_len, List.length_cons, List.length_nil]; omega) ?_); intro _ _ kbaApp)
  trivial
set_option maxRecDepth 100000 in
set_option maxHeartbeats 8000000 in
theorem lawFrameOctets_ct {w : World} {f : Addr} {code prec height width : Int} {cs : List C4} {news : Led} (hf : DatIn news (.ref f) (frameDat code prec height width cs)) (hr : frOk prec height width cs) :
    Ct w 353 [.ref f] news 4 60 (fun v news' => (∃ b t, v = .bytes b t ∧ KBw.bInts b = frameOct prec height width cs) ∧ news' = news) False := by
  intro mean mg mb dp un gd cn csc a' ccd cl outer A₀ base h₀ L m s Q E X B F N T hk hd hu hret hexc
  obtain ⟨n, t1, t2, t3, t4, lc, vs, k, hm, hl, hD⟩ := frame_inv hf
  obtain ⟨⟨p1, p2⟩, ⟨p3, p4⟩, ⟨p5, p6⟩, p7, p8⟩ := hr
  have hlen : vs.length = cs.length := by rw [hD.length, List.length_map]
  refine wpAny_call ?_
  k_dflt cell_enter
  k_steps
  have e1 : height / 256 % 256 = height / 256 := by omega
  have e2 : width / 256 % 256 = width / 256 := by omega
  rename KBw.bInts _ = _ ++ _ ++ _ ++ _ => hfound
  rw [e1, e2] at hfound
  refine items_ind (Q1Inv news i' _ prec height width cs) ?_ ?_ _ _ _ ⟨_, _, _, _, [], cs, rfl, by (k_extra "off_go"), rfl, Off.refl, rfl, hD, hfound⟩
  · rintro v r m n ⟨a, b, u, t, pre, cs', rfl, hoff, hu0, hm0, hcs, hD', hb⟩ o h tk hc F2 N2
    · refine comps_elim hD' ?_
      · rintro c1 cs' y k2 u1 u2 u3 u4 rfl rfl hy hD'
        obtain ⟨z1, z2, z3, z4⟩ := p8 c1 (by rw [hcs]; simp)
        have hpl : pre.length ≤ 4 := by have := congrArg List.length hcs; rw [List.length_append] at this; omega
        rw [hm0.form] at F2
        simp only [mask, hu0] at F2
        k_steps
        refine unrEndW_of (by k_asm) (by k_asm) (a :: b :: news) (by (k_extra "mem_go")) (by (k_extra "sub_go")) hoff ⟨by (k_extra "mem_go"), a, b, _, _, pre ++ [c1], cs', rfl, hoff, rfl, ?_, by rw [hcs]; simp, hD', ?_⟩
        · repeat (first | (refine Off.set (by (k_extra "mem_go")) ?_) | exact Off.refl | (refine Off.setR (by (k_extra "mem_go")) ?_))
        · rename KBw.bInts (u ++ _) = _ => e
          rw [e, List.flatMap_append, List.append_assoc]
          rfl
  · rintro m n ⟨a, b, u, t, pre, cs', rfl, hoff, hu0, hm0, hcs, hD', hb⟩ h tk F2 N2
    · obtain rfl := comps_end hD'
      rw [List.append_nil] at hcs
      subst hcs
      rw [hm0.form] at F2
      simp only [mask, hu0] at F2
      k_steps
      exact hret _ _ _ _ (by k_asm) (news_sub (by k_asm) (by (k_extra "sub_go"))) ⟨⟨_, _, rfl, hb⟩, rfl⟩
theorem lawFrameOctets_ck {w : World} {f : Addr} {code prec height width : Int} {cs : List C4} {news : Led} (hf : DatIn news (.ref f) (frameDat code prec height width cs)) (hr : frOk prec height width cs) : CtK w 353 [.ref f] news 4 60 (fun φ => ∀ b t, KBw.bInts b = frameOct prec height width cs → φ (.bytes b t) news) False :=
  (lawFrameOctets_ct hf hr).k kBytes
-- part Q2
theorem wsQ2_0 : True := by
  w_top off
  k_with_none
  k_with "ktr_room" => first | exact room1 (by assumption) | exact room3 (by assumption) (Nat.le_of_ble_eq_true rfl) | exact room2 (by assumption) (Nat.le_of_ble_eq_true rfl)
  k_with "ktr_units" => first | exact unit3 (by assumption) (Nat.le_of_ble_eq_true rfl) | exact unit2 (by assumption) (Nat.le_of_ble_eq_true rfl)
  k_with "callWith ref" => (k_here; k_dflt (refine' callWith_K ?cwA ?cwB ?_; (case cwA => k_asm); (case cwB => k_is); k_whole))
  k_with "omega" => first | decide | with_reducible assumption | exact Int.lt_of_le_of_lt (by with_reducible assumption) (by decide) | exact Int.lt_of_lt_of_le (by with_reducible assumption) (by decide) | exact Int.le_trans (by with_reducible assumption) (by decide) | exact lo_tr (by with_reducible assumption) (by decide) | exact lo_le (by with_reducible assumption) (by decide) | exact Nat.le_trans (by with_reducible assumption) (by decide) | exact Nat.lt_of_le_of_lt (by with_reducible assumption) (by decide) | lia
  k_with "k_ne" => (refine neN ?_; (try dsimp only); first | decide | with_reducible assumption | exact Ne.symm (by with_reducible assumption) | (refine Nat.ne_of_gt ?_; (first | with_reducible assumption | exact at1 (by with_reducible assumption) | exact at2 (by with_reducible assumption) | exact at3 (by with_reducible assumption) | exact at4 (by with_reducible assumption) | exact at5 (by with_reducible assumption) | exact at6 (by with_reducible assumption) | exact at7 (by with_reducible assumption) | exact at8 (by with_reducible assumption) | exact up1 (by with_reducible assumption) | exact up2 (by with_reducible assumption) | exact up2 (at1 (by with_reducible assumption)) | exact up2 (at2 (by with_reducible assumption)) | exact up2 (at3 (by with_reducible assumption)) | exact up2 (at4 (by with_reducible assumption)) | exact up1 (at1 (by with_reducible assumption)) | exact up1 (at2 (by with_reducible assumption)) | exact up1 (at3 (by with_reducible assumption)) | exact up1 (at4 (by with_reducible assumption)))) | (refine Nat.ne_of_lt ?_; (first | with_reducible assumption | exact at1 (by with_reducible assumption) | exact at2 (by with_reducible assumption) | exact at3 (by with_reducible assumption) | exact at4 (by with_reducible assumption) | exact at5 (by with_reducible assumption) | exact at6 (by with_reducible assumption) | exact at7 (by with_reducible assumption) | exact at8 (by with_reducible assumption) | exact up1 (by with_reducible assumption) | exact up2 (by with_reducible assumption) | exact up2 (at1 (by with_reducible assumption)) | exact up2 (at2 (by with_reducible assumption)) | exact up2 (at3 (by with_reducible assumption)) | exact up2 (at4 (by with_reducible assumption)) | exact up1 (at1 (by with_reducible assumption)) | exact up1 (at2 (by with_reducible assumption)) | exact up1 (at3 (by with_reducible assumption)) | exact up1 (at4 (by with_reducible assumption)))) | omega)
  k_with "mem_go" => first | with_reducible assumption | exact List.Mem.head _ | (refine List.mem_cons_of_mem _ ?_; (k_extra "mem_go"))
  k_with "sub_go" => first | exact fun _ h => h | exact sub_nil | (refine sub_cons ?hSub ?_; (case hSub => (k_extra "mem_go")); (k_extra "sub_go")) | ((fail_if_success (refine sub_cons ?_ ?_)); refine sub_drop ?_; (k_extra "sub_go")) | with_reducible assumption
  k_with "off_go" => first | exact off_nil | with_reducible assumption | (refine off_cons ?hOff ?_; (case hOff => k_ne); (k_extra "off_go")) | exact off_old (by with_reducible assumption) (by (k_extra "sub_go")) | exact off_sub (by with_reducible assumption) (by (k_extra "sub_go"))
  k_with "k_mem" => (k_extra "mem_go")
  k_with "k_all" => (k_extra "off_go")
  trivial
noncomputable def codes7 (c : Int) : Prop := c = 192 ∨ c = 193 ∨ c = 194 ∨ c = 195 ∨ c = 201 ∨ c = 202 ∨ c = 203
noncomputable def codes11 (c : Int) : Prop := codes7 c ∨ c = 196 ∨ c = 200 ∨ c = 204 ∨ c = 208
theorem prec_a {code prec : Int} (q7 : ([192, 193, 194, 195, 201, 202, 203].any fun x => x == code) = true) (q2 : ([195, 203].any fun x => x == code) = true) : (decide (2 ≤ prec ∧ prec ≤ 16) = true ↔ isPrecision code prec = true) := by
  simp at q2
  rcases q2 with rfl | rfl <;> simp [isPrecision, isLossless]
theorem prec_g {code prec : Int} (q7 : ([192, 193, 194, 195, 201, 202, 203].any fun x => x == code) = true) (q2 : ([195, 203].any fun x => x == code) = false) : (isPrecision code prec = true ↔ (prec = 8 ∨ (prec = 12 ∧ code ≠ 192))) := by
  simp at q7 q2
  rcases q7 with rfl | rfl | rfl | rfl | rfl | rfl | rfl <;> simp [isPrecision, isLossless] at q2 ⊢
noncomputable def preOk (code prec : Int) (cs : List C4) (i : Nat) : Prop := isPrecision code prec = true ∧ (∀ c ∈ cs.take i, (1 ≤ c.2.1 ∧ c.2.1 ≤ 4) ∧ (1 ≤ c.2.2.1 ∧ c.2.2.1 ≤ 4) ∧ c.2.2.2 < 4) ∧ ((cs.map (·.1)).take i).Nodup
theorem pre_zero {code prec : Int} {cs : List C4} {b : Bool} (h : b = true ↔ isPrecision code prec = true) : b = true ↔ preOk code prec cs 0 := h.trans ⟨fun h => ⟨h, by simp, by simp⟩, fun h => h.1⟩
theorem pre_step {code prec : Int} {cs : List C4} {i : Nat} {b : Bool} {c : C4} (hb : b = true ↔ preOk code prec cs i) (hc : cs[i]? = some c) : preOk code prec cs (i + 1) ↔ b = true ∧ (1 ≤ c.2.1 ∧ c.2.1 ≤ 4) ∧ (1 ≤ c.2.2.1 ∧ c.2.2.1 ≤ 4) ∧ c.2.2.2 < 4 ∧ c.1 ∉ (cs.map (·.1)).take i := by
  rw [hb]
  unfold preOk
  rw [List.take_add_one, List.take_add_one, List.getElem?_map, hc]
  simp only [Option.map_some, Option.toList_some, List.mem_append, List.mem_singleton, List.nodup_append, List.nodup_cons, List.not_mem_nil, not_false_eq_true, List.nodup_nil, and_true, true_and]
  constructor
  · rintro ⟨h1, h2, h3, h4⟩
    have q := h2 c (.inr rfl)
    exact ⟨⟨h1, fun d hd => h2 d (.inl hd), h3⟩, q.1, q.2.1, q.2.2, fun hm => h4 _ hm _ rfl rfl⟩
  · rintro ⟨⟨h1, h2, h3⟩, q1, q2, q3, q4⟩
    refine ⟨h1, fun d hd => hd.elim (h2 d) (fun e => e ▸ ⟨q1, q2, q3⟩), h3, fun a ha b hb e => ?_⟩
    subst hb
    exact q4 (e ▸ ha)
theorem pre_all {code prec height width : Int} {cs : List C4} (q7 : ([192, 193, 194, 195, 201, 202, 203].any fun x => x == code) = true) (hw : width ≠ 0) (hne : cs ≠ []) (p3 : 0 ≤ height) (p4 : height ≤ 65535) (p5 : 0 ≤ width) (p6 : width ≤ 65535) (p8 : ∀ c ∈ cs, c4Ok c) : preOk code prec cs cs.length ↔ frameOk code prec height width cs := by
  have hf : isFrame code = true := by
    simp at q7
    rcases q7 with rfl | rfl | rfl | rfl | rfl | rfl | rfl <;> rfl
  have hl : 1 ≤ cs.length := by cases cs with | nil => exact absurd rfl hne | cons _ _ => simp
  unfold preOk frameOk
  rw [List.take_of_length_le (Nat.le_refl _), List.take_of_length_le (by simp)]
  constructor
  · rintro ⟨h1, h2, h3⟩
    refine ⟨hf, h1, ⟨p3, p4⟩, ⟨by omega, p6⟩, hl, fun c hc => ?_, h3⟩
    obtain ⟨a1, a2, a3⟩ := h2 c hc
    obtain ⟨z1, z2, z3, z4, z5⟩ := p8 c hc
    exact ⟨z1, a1, a2, z4, by omega⟩
  · rintro ⟨_, h1, _, _, _, h2, h3⟩
    refine ⟨h1, fun c hc => ?_, h3⟩
    obtain ⟨a1, a2, a3, a4, a5⟩ := h2 c hc
    exact ⟨a2, a3, by omega⟩
theorem no_code {code prec height width : Int} {cs : List C4} (hco : codes11 code) (q7 : ([192, 193, 194, 195, 201, 202, 203].any fun x => x == code) = false) : false = true ↔ frameOk code prec height width cs := by
  refine ⟨fun h => (nomatch h), fun ok => ?_⟩
  have h1 := ok.1
  unfold isFrame at h1
  simp at q7 h1
  unfold codes11 codes7 at hco
  omega
theorem no_width {code prec height width : Int} {cs : List C4} (hw : width = 0) : false = true ↔ frameOk code prec height width cs :=
  ⟨fun h => (nomatch h), fun ok => by have := ok.2.2.2.1; omega⟩
theorem ne_comps {cs : List C4} (h : decide (cs.map compDat = []) = false) : cs ≠ [] := fun e => by subst e; simp at h
theorem no_comps {code prec height width : Int} {cs : List C4} (h : decide (cs.map compDat = []) = true) : false = true ↔ frameOk code prec height width cs :=
  ⟨fun h => (nomatch h), fun ok => by
    have := ok.2.2.2.2.1
    have e := of_decide_eq_true h
    rw [List.map_eq_nil_iff.mp e] at this
    simp at this⟩
noncomputable def JoinEnd (g : Heap) (L : Addr) (m : Str → Option Value) (news : Led) (x : Str) (P : Bool → Prop) (s : Shared) (f : Flow) (s' : Shared) : Prop :=
  f = .next ∧ ∃ b h' tk', s' = { s with heap := h', toks := tk' } ∧ Fr g L h' (fun y => if y = x then some (.bool b) else m y) ∧ News g L h' news ∧ P b
theorem if_join {M : Model} {A : Around} {t : Sem Flow} {Q : Flow → Shared → Prop} {E : Value → Shared → Prop} {s : Shared} {g : Heap} {L : Addr} {m : Str → Option Value} {news : Led} (_F : Fr g L s.heap m) (x : Str) (P : Bool → Prop)
    (h : wpAny M A t (JoinEnd g L m news x P s) E s)
    (k : ∀ b h' tk', Fr g L h' (fun y => if y = x then some (.bool b) else m y) → News g L h' news → P b → Q .next { s with heap := h', toks := tk' }) : wpAny M A t Q E s :=
  wpAny_mono h (fun f s' ⟨e, b, h', tk', e', F', N', p⟩ => by subst e e'; exact k b h' tk' F' N' p) fun _ _ e => e
theorem nin_iff {l : List Int} {a : Int} : (!(l.any fun x => x == a)) = true ↔ a ∉ l := by
  rw [Bool.not_eq_true', Bool.eq_false_iff, ne_eq, List.any_eq_true]
  simp
theorem wsQ2_1 : True := by
  w_top off
  k_with_none
  k_with "ktr_room" => first | exact room1 (by assumption) | exact room3 (by assumption) (Nat.le_of_ble_eq_true rfl) | exact room2 (by assumption) (Nat.le_of_ble_eq_true rfl)
  k_with "ktr_units" => first | exact unit3 (by assumption) (Nat.le_of_ble_eq_true rfl) | exact unit2 (by assumption) (Nat.le_of_ble_eq_true rfl)
  k_with "callWith ref" => (k_here; k_dflt (refine' callWith_K ?cwA ?cwB ?_; (case cwA => k_asm); (case cwB => k_is); k_whole))
  k_with "omega" => first | decide | with_reducible assumption | exact Int.lt_of_le_of_lt (by with_reducible assumption) (by decide) | exact Int.lt_of_lt_of_le (by with_reducible assumption) (by decide) | exact Int.le_trans (by with_reducible assumption) (by decide) | exact lo_tr (by with_reducible assumption) (by decide) | exact lo_le (by with_reducible assumption) (by decide) | exact Nat.le_trans (by with_reducible assumption) (by decide) | exact Nat.lt_of_le_of_lt (by with_reducible assumption) (by decide) | lia
  k_with "k_ne" => (refine neN ?_; (try dsimp only); first | decide | with_reducible assumption | exact Ne.symm (by with_reducible assumption) | (refine Nat.ne_of_gt ?_; (first | with_reducible assumption | exact at1 (by with_reducible assumption) | exact at2 (by with_reducible assumption) | exact at3 (by with_reducible assumption) | exact at4 (by with_reducible assumption) | exact at5 (by with_reducible assumption) | exact at6 (by with_reducible assumption) | exact at7 (by with_reducible assumption) | exact at8 (by with_reducible assumption) | exact up1 (by with_reducible assumption) | exact up2 (by with_reducible assumption) | exact up2 (at1 (by with_reducible assumption)) | exact up2 (at2 (by with_reducible assumption)) | exact up2 (at3 (by with_reducible assumption)) | exact up2 (at4 (by with_reducible assumption)) | exact up1 (at1 (by with_reducible assumption)) | exact up1 (at2 (by with_reducible assumption)) | exact up1 (at3 (by with_reducible assumption)) | exact up1 (at4 (by with_reducible assumption)))) | (refine Nat.ne_of_lt ?_; (first | with_reducible assumption | exact at1 (by with_reducible assumption) | exact at2 (by with_reducible assumption) | exact at3 (by with_reducible assumption) | exact at4 (by with_reducible assumption) | exact at5 (by with_reducible assumption) | exact at6 (by with_reducible assumption) | exact at7 (by with_reducible assumption) | exact at8 (by with_reducible assumption) | exact up1 (by with_reducible assumption) | exact up2 (by with_reducible assumption) | exact up2 (at1 (by with_reducible assumption)) | exact up2 (at2 (by with_reducible assumption)) | exact up2 (at3 (by with_reducible assumption)) | exact up2 (at4 (by with_reducible assumption)) | exact up1 (at1 (by with_reducible assumption)) | exact up1 (at2 (by with_reducible assumption)) | exact up1 (at3 (by with_reducible assumption)) | exact up1 (at4 (by with_reducible assumption)))) | omega)
  k_with "mem_go" => first | with_reducible assumption | exact List.Mem.head _ | (refine List.mem_cons_of_mem _ ?_; (k_extra "mem_go"))
  k_with "sub_go" => first | exact fun _ h => h | exact sub_nil | (refine sub_cons ?hSub ?_; (case hSub => (k_extra "mem_go")); (k_extra "sub_go")) | ((fail_if_success (refine sub_cons ?_ ?_)); refine sub_drop ?_; (k_extra "sub_go")) | with_reducible assumption
  k_with "off_go" => first | exact off_nil | with_reducible assumption | (refine off_cons ?hOff ?_; (case hOff => k_ne); (k_extra "off_go")) | exact off_old (by with_reducible assumption) (by (k_extra "sub_go")) | exact off_sub (by with_reducible assumption) (by (k_extra "sub_go"))
  k_with "k_mem" => (k_extra "mem_go")
  k_with "k_all" => (k_extra "off_go")
  k_with "call ref" => (k_here; (with_reducible refine (?_ : wpAny _ _ (call (Value.ref 334) _) _ _ _)); k_dflt (refine CtK.run0 (by k_asm) (by k_asm) (lawIs_ck) (by k_asm) (by k_asm) (by k_asm) (by first | rfl | assumption) (by ktr_room) (by ktr_units) (fun  h' tk' F' N' => ?_)); ((try dsimp only at N')))
  k_with "call builtin:len" => (k_here; k_dflt (refine len_news (by k_asm) (by (k_extra "mem_go")) (by assumption) (by omega) ?_); intro _ _)
  k_with "call type:range" => (k_here; (with_reducible refine (?_ : wpAny _ _ (call (Value.type "range") [Value.int _ _]) _ _ _)); k_dflt (refine range1_rows (by k_asm) (by k_asm) ?_); intro _ _ _ _ _ rg' F' N' _)
  k_with "exec For Name Call cons nil" => (k_here; (rename Fr _ _ _ _ => lF'); (with_unfolding_all refine' For_invVF lF' ?k1 ?k2 ?_; (case k1 => exact rfl); (case k2 => exact rfl); k_whole))
  k_with "pyIter ref" => (k_here; (with_reducible refine (?_ : wpAny _ _ (pyIter (Value.ref _)) (fun it s₂ => LoopAtV _ _ _ _ _ _ _ _ _ it s₂) _ _)); (with_unfolding_all refine iter_rangeUnr (by rfl) (by assumption) (rg_small (by omega)) (rg_size _) (by k_asm) (by k_asm) ?_); intro i' l1; (try k_lt l1))
  k_with "exec Assign cons ListComp" => (k_here; k_dflt (refine LCg.Assign_ListComp_U (F₀ := by k_asm) (by rfl) (by with_unfolding_all rfl) (by with_unfolding_all rfl) (by decide) (by rfl) (by decide) (by rfl) (by rfl) (by rfl) ?_))
  k_with "exec If" => (k_here; (fail_if_success (have zz := joined)); (with_reducible refine (?_ : wpAny _ _ (exec (Stmt.If _ _ (_ :: _) _) _) _ _ _)); refine if_join (by k_asm) (news := news) (Str.ofString "right") (fun b => b = true ↔ isPrecision code prec = true) ?_ ?_; (have joined : True := trivial); rotate_left; intro b' h' tk' F' N' hpr'; rotate_left)
  k_with "CompSrc" => fail "no"
  k_with "eval ListComp" => (k_here; k_dflt (refine LCg.ListComp_U (F₀ := by k_asm) (by rfl) (by decide) (by rfl) (by decide) (by rfl) ?_))
  k_with "subscriptTail" => (k_here; (with_reducible refine (?_ : wpAny _ _ (subscriptTail _ _ (Value.ref _) (Value.int _ _)) _ _ _)); k_dflt (refine item_news (by k_asm) (by (k_extra "mem_go")) (by omega) (by omega) e1 (by with_unfolding_all rfl) ?_))
  trivial
set_option maxRecDepth 100000 in
set_option maxHeartbeats 8000000 in
theorem lawFrameRight_ct {w : World} {f : Addr} {code prec height width : Int} {cs : List C4} {news : Led} (hf : DatIn news (.ref f) (frameDat code prec height width cs)) (hr : frOk prec height width cs) (hco : codes11 code) :
    Ct w 346 [.ref f] news 8 90 (fun v news' => (∃ b, v = .bool b ∧ (b = true ↔ frameOk code prec height width cs)) ∧ news' = news) False := by
  intro mean mg mb dp un gd cn csc a' ccd cl outer A₀ base h₀ L m s Q E X B F N T hk hd hu hret hexc
  obtain ⟨n, t1, t2, t3, t4, lc, vs, k, hm, hl, hD⟩ := frame_inv hf
  obtain ⟨⟨p1, p2⟩, ⟨p3, p4⟩, ⟨p5, p6⟩, p7, p8⟩ := hr
  have hlen : vs.length = cs.length := by rw [hD.length, List.length_map]
  refine wpAny_call ?_
  k_dflt cell_enter
  k_steps
  iterate 2 exact hret _ _ _ _ (by k_asm) (news_sub (by k_asm) (by (k_extra "sub_go"))) ⟨⟨_, rfl, by first | exact no_code hco (by assumption) | exact no_width (by assumption) | exact no_comps (by assumption)⟩, rfl⟩
  iterate 4 (refine ⟨rfl, _, _, _, rfl, by k_asm, news_sub (by k_asm) (by (k_extra "sub_go")), ?_⟩; first
        | exact prec_a (by assumption) (by assumption)
        | (rw [prec_g (by assumption) (by assumption)]; simp; omega))
  rotate_left
  · exact hret _ _ _ _ (by k_asm) (news_sub (by k_asm) (by (k_extra "sub_go"))) ⟨⟨_, rfl, by first | exact no_code hco (by assumption) | exact no_width (by assumption) | exact no_comps (by assumption)⟩, rfl⟩
  all_goals (
    refine LCg.CompSrc.ledger (by rfl) (by k_asm) (by k_asm) (by (k_extra "mem_go")) (by rw [List.size_toArray, sizeLine_eq]; omega) ?_
    intro g
    refine comp_ind (n₀ := vs.toArray.size) (fun i ys n => (∀ p ∈ news, p ∈ n) ∧ IntsAre ys ((cs.map (·.1)).take i)) ?_ ?_ _ 0 [] _ (Nat.zero_add _) ⟨by (k_extra "sub_go"), by simpa using IntsAre.nil⟩ (Or.inr ⟨_, by (k_extra "mem_go"), rfl, _, rfl⟩)
    · rintro i ys n hi ⟨hsub, hI⟩ hS v I oI C oC D m₂ h' tk' E' hv hC2 hx2 F3 N3 hoff hne
      obtain ⟨d1, hd1, hdd⟩ := hD.get (k := i) (by rw [List.length_map]; simpa [hlen] using hi)
      have hve : d1 = v := Option.some.inj (hd1.symm.trans (by simpa using hv))
      rw [hve] at hdd
      rw [List.getElem_map] at hdd
      obtain ⟨y, k2, u1, u2, u3, u4, rfl, hy⟩ := comp_inv hdd
      have hy' := hsub _ hy
      k_steps
      exact LCg.CompEnd.intro (by k_asm) (by k_asm) n (fun _ h => h) (by assumption) (by assumption) ⟨hsub, ints_snoc hI (by rw [List.getElem?_map, List.getElem?_eq_getElem (by simpa [hlen] using hi)]; rfl)⟩
    · rintro ys n ⟨hsub, hI⟩ hS
      have hI' : IntsAre ys (cs.map (·.1)) := by
        rw [List.take_of_length_le (by rw [List.size_toArray, List.length_map]; omega)] at hI
        exact hI
      have hl' := hsub _ hl
      k_steps
      refine range_ind (fun i m n' => n' = _ ∧ Off ["at", "ident", "across", "down", "quant", "right"] m _ ∧ ∃ b, m "right" = some (.bool b) ∧ (b = true ↔ preOk code prec cs i)) ?_ ?_ _ _ _ _ (Nat.zero_add _) ⟨rfl, Off.refl, _, rfl, pre_zero hpr'⟩ (by (k_extra "off_go"))
      · rintro i m n' hi ⟨rfl, hm0, b, hb0, hb⟩ hoff tt h tk F2 N2
        have hc1 : cs[i]? = some cs[i] := List.getElem?_eq_getElem hi
        generalize cs[i] = c1 at hc1
        obtain ⟨d1, hd1, hdd⟩ := hD.get (k := i) (by rw [List.length_map]; exact hi)
        rw [List.getElem_map, (List.getElem?_eq_some_iff.mp hc1).2] at hdd
        obtain ⟨y, k2, u1, u2, u3, u4, rfl, hy⟩ := comp_inv hdd
        have hy' := hsub _ hy
        have e1 : vs[((0 : Int) + (i : Int)).toNat]? = some (.ref y) := by rw [show ((0 : Int) + (i : Int)).toNat = i by omega]; exact hd1
        rw [hm0.form] at F2
        simp only [mask, hb0] at F2
        k_steps
        all_goals (
          refine UnrEnd.intro (by k_asm) (by k_asm) _ (sub_cons (by (k_extra "mem_go")) (by (k_extra "sub_go"))) hoff ⟨rfl, ?_, _, rfl, ?_⟩
          · repeat (first | (refine Off.set (by (k_extra "mem_go")) ?_) | exact Off.refl | (refine Off.setR (by (k_extra "mem_go")) ?_))
          · rw [pre_step hb hc1]
            first
              | exact ⟨fun h => ⟨by assumption, by omega, by omega, by omega, by have q := nin_iff.mp h; rwa [show ((0 : Int) + (i : Int)).toNat = i by omega] at q⟩, fun h => nin_iff.mpr (by rw [show ((0 : Int) + (i : Int)).toNat = i by omega]; exact h.2.2.2.2)⟩
              | exact ⟨fun h => by first | (cases h; done) | (exfalso; simp only [decide_eq_true_eq] at h; omega) | (exfalso; rw [‹b = false›] at h; cases h), fun ⟨h1, h2, h3, h4, _⟩ => by exfalso; first | omega | (rw [‹b = false›] at h1; cases h1)⟩)
      · rintro m n' ⟨rfl, hm0, b, hb0, hb⟩ h tk F2 N2
        rw [hm0.form] at F2
        simp only [mask, hb0] at F2
        k_steps
        refine hret _ _ _ _ (by k_asm) (news_sub (by k_asm) (by (k_extra "sub_go"))) ⟨⟨_, rfl, hb.trans ?_⟩, rfl⟩
        have hne : cs ≠ [] := ne_comps (by assumption)
        exact pre_all (by assumption) (by assumption) hne p3 p4 p5 p6 p8)
theorem lawFrameRight_ck {w : World} {f : Addr} {code prec height width : Int} {cs : List C4} {news : Led} (hf : DatIn news (.ref f) (frameDat code prec height width cs)) (hr : frOk prec height width cs) (hco : codes11 code) : CtK w 346 [.ref f] news 8 90 (fun φ => ∀ b, (b = true ↔ frameOk code prec height width cs) → φ (.bool b) news) False :=
  (lawFrameRight_ct hf hr hco).k kBool
-- part Q3
theorem wsQ3_0 : True := by
  w_top off
  k_with_none
  k_with "ktr_room" => first | exact room1 (by assumption) | exact room3 (by assumption) (Nat.le_of_ble_eq_true rfl) | exact room2 (by assumption) (Nat.le_of_ble_eq_true rfl)
  k_with "ktr_units" => first | exact unit3 (by assumption) (Nat.le_of_ble_eq_true rfl) | exact unit2 (by assumption) (Nat.le_of_ble_eq_true rfl)
  k_with "callWith ref" => (k_here; k_dflt (refine' callWith_K ?cwA ?cwB ?_; (case cwA => k_asm); (case cwB => k_is); k_whole))
  k_with "omega" => first | decide | with_reducible assumption | exact Int.lt_of_le_of_lt (by with_reducible assumption) (by decide) | exact Int.lt_of_lt_of_le (by with_reducible assumption) (by decide) | exact Int.le_trans (by with_reducible assumption) (by decide) | exact lo_tr (by with_reducible assumption) (by decide) | exact lo_le (by with_reducible assumption) (by decide) | exact Nat.le_trans (by with_reducible assumption) (by decide) | exact Nat.lt_of_le_of_lt (by with_reducible assumption) (by decide) | lia
  k_with "k_ne" => (refine neN ?_; (try dsimp only); first | decide | with_reducible assumption | exact Ne.symm (by with_reducible assumption) | (refine Nat.ne_of_gt ?_; (first | with_reducible assumption | exact at1 (by with_reducible assumption) | exact at2 (by with_reducible assumption) | exact at3 (by with_reducible assumption) | exact at4 (by with_reducible assumption) | exact at5 (by with_reducible assumption) | exact at6 (by with_reducible assumption) | exact at7 (by with_reducible assumption) | exact at8 (by with_reducible assumption) | exact up1 (by with_reducible assumption) | exact up2 (by with_reducible assumption) | exact up2 (at1 (by with_reducible assumption)) | exact up2 (at2 (by with_reducible assumption)) | exact up2 (at3 (by with_reducible assumption)) | exact up2 (at4 (by with_reducible assumption)) | exact up1 (at1 (by with_reducible assumption)) | exact up1 (at2 (by with_reducible assumption)) | exact up1 (at3 (by with_reducible assumption)) | exact up1 (at4 (by with_reducible assumption)))) | (refine Nat.ne_of_lt ?_; (first | with_reducible assumption | exact at1 (by with_reducible assumption) | exact at2 (by with_reducible assumption) | exact at3 (by with_reducible assumption) | exact at4 (by with_reducible assumption) | exact at5 (by with_reducible assumption) | exact at6 (by with_reducible assumption) | exact at7 (by with_reducible assumption) | exact at8 (by with_reducible assumption) | exact up1 (by with_reducible assumption) | exact up2 (by with_reducible assumption) | exact up2 (at1 (by with_reducible assumption)) | exact up2 (at2 (by with_reducible assumption)) | exact up2 (at3 (by with_reducible assumption)) | exact up2 (at4 (by with_reducible assumption)) | exact up1 (at1 (by with_reducible assumption)) | exact up1 (at2 (by with_reducible assumption)) | exact up1 (at3 (by with_reducible assumption)) | exact up1 (at4 (by with_reducible assumption)))) | omega)
  k_with "mem_go" => first | with_reducible assumption | exact List.Mem.head _ | (refine List.mem_cons_of_mem _ ?_; (k_extra "mem_go"))
  k_with "sub_go" => first | exact fun _ h => h | exact sub_nil | (refine sub_cons ?hSub ?_; (case hSub => (k_extra "mem_go")); (k_extra "sub_go")) | ((fail_if_success (refine sub_cons ?_ ?_)); refine sub_drop ?_; (k_extra "sub_go")) | with_reducible assumption
  k_with "off_go" => first | exact off_nil | with_reducible assumption | (refine off_cons ?hOff ?_; (case hOff => k_ne); (k_extra "off_go")) | exact off_old (by with_reducible assumption) (by (k_extra "sub_go")) | exact off_sub (by with_reducible assumption) (by (k_extra "sub_go"))
  k_with "k_mem" => (k_extra "mem_go")
  k_with "k_all" => (k_extra "off_go")
  trivial
noncomputable def intsDat (ns : List Int) : Dat := .list (ns.map .int)
noncomputable def scanDat (n1 n2 n3 : List Int) (st en hi lo : Int) : Dat := .list [intsDat n1, intsDat n2, intsDat n3, .int st, .int en, .int hi, .int lo]
theorem dat_intsAre {news : Led} : ∀ {vs : List Value} {ns : List Int}, DatAll news vs (ns.map .int) → IntsAre vs ns
  | _, [], h => by cases h; exact .nil
  | _, n :: ns, h => by
    obtain ⟨t, r, rfl, q⟩ := dat_ints1 h
    exact .cons n t (dat_intsAre q)
theorem ints_datAll {news : Led} : ∀ {vs : List Value} {ns : List Int}, IntsAre vs ns → DatAll news vs (ns.map .int)
  | _, _, .nil => .nil
  | _, _, .cons n t h => .cons (.int n t) (ints_datAll h)
theorem ints_inv {news : Led} {v : Value} {ns : List Int} (h : DatIn news v (intsDat ns)) : ∃ l vs k, v = .ref l ∧ (l, listOf vs.toArray k) ∈ news ∧ IntsAre vs ns := by
  unfold intsDat at h
  cases h with
  | list hm r => exact ⟨_, _, _, rfl, hm, dat_intsAre r⟩
theorem scan_inv {news : Led} {f : Addr} {n1 n2 n3 : List Int} {st en hi lo : Int} (h : DatIn news (.ref f) (scanDat n1 n2 n3 st en hi lo)) : ∃ n l1 l2 l3 v1 v2 v3 k1 k2 k3 t1 t2 t3 t4, (f, listOf [.ref l1, .ref l2, .ref l3, .int st t1, .int en t2, .int hi t3, .int lo t4].toArray n) ∈ news ∧ (l1, listOf v1.toArray k1) ∈ news ∧ (l2, listOf v2.toArray k2) ∈ news ∧ (l3, listOf v3.toArray k3) ∈ news ∧ IntsAre v1 n1 ∧ IntsAre v2 n2 ∧ IntsAre v3 n3 := by
  unfold scanDat at h
  cases h with
  | list hm r =>
    cases r with
    | cons a1 r =>
      cases r with
      | cons a2 r =>
        cases r with
        | cons a3 r =>
          obtain ⟨l1, v1, k1, rfl, m1, i1⟩ := ints_inv a1
          obtain ⟨l2, v2, k2, rfl, m2, i2⟩ := ints_inv a2
          obtain ⟨l3, v3, k3, rfl, m3, i3⟩ := ints_inv a3
          obtain ⟨t1, r1, rfl, q1⟩ := dat_ints1 r
          obtain ⟨t2, r2, rfl, q2⟩ := dat_ints1 q1
          obtain ⟨t3, r3, rfl, q3⟩ := dat_ints1 q2
          obtain ⟨t4, r4, rfl, q4⟩ := dat_ints1 q3
          cases q4
          exact ⟨_, l1, l2, l3, v1, v2, v3, k1, k2, k3, t1, t2, t3, t4, hm, m1, m2, m3, i1, i2, i3⟩
noncomputable def scOk (n1 n2 n3 : List Int) (st en hi lo : Int) : Prop := (n2.length = n1.length ∧ n3.length = n1.length ∧ n1.length ≤ 5) ∧ (∀ i ∈ n1, 0 ≤ i ∧ i ≤ 255) ∧ (∀ i ∈ n2, 0 ≤ i ∧ i ≤ 4) ∧ (∀ i ∈ n3, 0 ≤ i ∧ i ≤ 4) ∧ (0 ≤ st ∧ st ≤ 64) ∧ (0 ≤ en ∧ en ≤ 64) ∧ (0 ≤ hi ∧ hi ≤ 15) ∧ 0 ≤ lo ∧ lo ≤ 15
theorem wsQ3_1 : True := by
  w_top off
  k_with_none
  k_with "ktr_room" => first | exact room1 (by assumption) | exact room3 (by assumption) (Nat.le_of_ble_eq_true rfl) | exact room2 (by assumption) (Nat.le_of_ble_eq_true rfl)
  k_with "ktr_units" => first | exact unit3 (by assumption) (Nat.le_of_ble_eq_true rfl) | exact unit2 (by assumption) (Nat.le_of_ble_eq_true rfl)
  k_with "callWith ref" => (k_here; k_dflt (refine' callWith_K ?cwA ?cwB ?_; (case cwA => k_asm); (case cwB => k_is); k_whole))
  k_with "omega" => first | decide | with_reducible assumption | exact Int.lt_of_le_of_lt (by with_reducible assumption) (by decide) | exact Int.lt_of_lt_of_le (by with_reducible assumption) (by decide) | exact Int.le_trans (by with_reducible assumption) (by decide) | exact lo_tr (by with_reducible assumption) (by decide) | exact lo_le (by with_reducible assumption) (by decide) | exact Nat.le_trans (by with_reducible assumption) (by decide) | exact Nat.lt_of_le_of_lt (by with_reducible assumption) (by decide) | lia
  k_with "k_ne" => (refine neN ?_; (try dsimp only); first | decide | with_reducible assumption | exact Ne.symm (by with_reducible assumption) | (refine Nat.ne_of_gt ?_; (first | with_reducible assumption | exact at1 (by with_reducible assumption) | exact at2 (by with_reducible assumption) | exact at3 (by with_reducible assumption) | exact at4 (by with_reducible assumption) | exact at5 (by with_reducible assumption) | exact at6 (by with_reducible assumption) | exact at7 (by with_reducible assumption) | exact at8 (by with_reducible assumption) | exact up1 (by with_reducible assumption) | exact up2 (by with_reducible assumption) | exact up2 (at1 (by with_reducible assumption)) | exact up2 (at2 (by with_reducible assumption)) | exact up2 (at3 (by with_reducible assumption)) | exact up2 (at4 (by with_reducible assumption)) | exact up1 (at1 (by with_reducible assumption)) | exact up1 (at2 (by with_reducible assumption)) | exact up1 (at3 (by with_reducible assumption)) | exact up1 (at4 (by with_reducible assumption)))) | (refine Nat.ne_of_lt ?_; (first | with_reducible assumption | exact at1 (by with_reducible assumption) | exact at2 (by with_reducible assumption) | exact at3 (by with_reducible assumption) | exact at4 (by with_reducible assumption) | exact at5 (by with_reducible assumption) | exact at6 (by with_reducible assumption) | exact at7 (by with_reducible assumption) | exact at8 (by with_reducible assumption) | exact up1 (by with_reducible assumption) | exact up2 (by with_reducible assumption) | exact up2 (at1 (by with_reducible assumption)) | exact up2 (at2 (by with_reducible assumption)) | exact up2 (at3 (by with_reducible assumption)) | exact up2 (at4 (by with_reducible assumption)) | exact up1 (at1 (by with_reducible assumption)) | exact up1 (at2 (by with_reducible assumption)) | exact up1 (at3 (by with_reducible assumption)) | exact up1 (at4 (by with_reducible assumption)))) | omega)
  k_with "mem_go" => first | with_reducible assumption | exact List.Mem.head _ | (refine List.mem_cons_of_mem _ ?_; (k_extra "mem_go"))
  k_with "sub_go" => first | exact fun _ h => h | exact sub_nil | (refine sub_cons ?hSub ?_; (case hSub => (k_extra "mem_go")); (k_extra "sub_go")) | ((fail_if_success (refine sub_cons ?_ ?_)); refine sub_drop ?_; (k_extra "sub_go")) | with_reducible assumption
  k_with "off_go" => first | exact off_nil | with_reducible assumption | (refine off_cons ?hOff ?_; (case hOff => k_ne); (k_extra "off_go")) | exact off_old (by with_reducible assumption) (by (k_extra "sub_go")) | exact off_sub (by with_reducible assumption) (by (k_extra "sub_go"))
  k_with "k_mem" => (k_extra "mem_go")
  k_with "k_all" => (k_extra "off_go")
  k_with "call builtin:len" => (k_here; k_dflt (refine len_news (by k_asm) (by (k_extra "mem_go")) (by assumption) (by omega) ?_); intro _ _)
  k_with "call type:range" => (k_here; (with_reducible refine (?_ : wpAny _ _ (call (Value.type "range") [Value.int _ _]) _ _ _)); k_dflt (refine range1_rows (by k_asm) (by k_asm) ?_); intro _ _ _ _ _ rg' F' N' _)
  k_with "exec For Name Call cons nil" => (k_here; (rename Fr _ _ _ _ => lF'); (with_unfolding_all refine' For_invVF lF' ?k1 ?k2 ?_; (case k1 => exact rfl); (case k2 => exact rfl); k_whole))
  k_with "pyIter ref" => (k_here; (with_reducible refine (?_ : wpAny _ _ (pyIter (Value.ref _)) (fun it s₂ => LoopAtV _ _ _ _ _ _ _ _ _ it s₂) _ _)); (with_unfolding_all refine iter_rangeUnr (by rfl) (by assumption) (rg_small (by omega)) (rg_size _) (by k_asm) (by k_asm) ?_); intro i' l1; (try k_lt l1))
  k_with "subscriptTail Name Name ref int" => (k_here; (with_reducible refine (?_ : wpAny _ _ (subscriptTail _ _ (Value.ref _) (Value.int _ _)) _ _ _)); k_dflt (refine item_news (by k_asm) (by (k_extra "mem_go")) (by omega) (by omega) (by assumption) (by with_unfolding_all rfl) ?_))
  k_with "call type:bytes" => (k_here; (with_reducible refine (?_ : wpAny _ _ (call (Value.type "bytes") [Value.ref _]) _ _ _)); k_dflt (refine' KBa.make_K ?kbaF ?kbaN ?kbah ?kbal ?kbai ?kbar ?kban ?_; (case kbaF => k_asm); (case kbaN => k_asm); (case kbah => rfl); (case kbal => kba_isList); (case kbai => kba_listInts); (case kbar => ((repeat' (first | exact inB_nil | refine inB_cons ?_ ?_ ?_)) <;> omega)); (case kban => exact Nat.le_of_ble_eq_true rfl)); intro _ _ _ F' N' kbaIn)
  k_with "binaryOp Add bytes bytes" => (k_here; (with_reducible refine (?_ : wpAny _ _ (binaryOp Operator.Add (Value.bytes _ _) (Value.bytes _ _)) _ _ _)); (refine KBa.add_K (by kba_ints) (by kba_ints2) (by simp only [List.length_cons, List.length_nil]; omega) ?_); intro _ _ kbaApp)
  trivial
set_option maxRecDepth 100000 in
set_option maxHeartbeats 8000000 in
theorem lawScanOctets_ct {w : World} {f : Addr} {n1 n2 n3 : List Int} {st en hi lo : Int} {news : Led} (hf : DatIn news (.ref f) (scanDat n1 n2 n3 st en hi lo)) (hr : scOk n1 n2 n3 st en hi lo) :
    Ct w 389 [.ref f] news 4 60 (fun v news' => (∃ b t, v = .bytes b t ∧ KBw.bInts b = scanOct n1 n2 n3 st en hi lo) ∧ news' = news) False := by
  intro mean mg mb dp un gd cn csc a' ccd cl outer A₀ base h₀ L m s Q E X B F N T hk hd hu hret hexc
  obtain ⟨n, l1, l2, l3, v1, v2, v3, k1, k2, k3, t1, t2, t3, t4, hm, m1, m2, m3, h1, h2, h3⟩ := scan_inv hf
  obtain ⟨⟨ok2, ok2', ok1⟩, p1, p2, p3, ⟨p4, p4'⟩, ⟨p5, p5'⟩, ⟨p6, p6'⟩, p7, p7'⟩ := hr
  have y1 := h1.length
  have y2 := h2.length
  have y3 := h3.length
  refine wpAny_call ?_
  k_dflt cell_enter
  k_steps
  refine range_acc (Str.ofString "found") (fun i u => ∃ b t, u = .bytes b t ∧ KBw.bInts b = (n1.length : Int) :: octPairs (n1.take i) (n2.take i) (n3.take i)) ?_ ?_ (by (k_extra "off_go")) (by rfl) ⟨_, _, rfl, by rename KBa.In _ => q; exact KBa.ints_make q⟩
  · rintro i u hi' ⟨b, t, rfl, hb⟩ tt h tk F2 N2
    refine ints_get3 h1 h2 h3 (i := i) hi' (by omega) (by omega) ?_
    intro a1 ta a2 tb a3 tc e1 f1 m1 e2 f2 m2 e3 f3 m3
    have q1 := p1 a1 m1
    have q2 := p2 a2 m2
    have q3 := p3 a3 m3
    have hl := octPairs_len (n1.take i) (n2.take i) (n3.take i) (by simp only [List.length_take]; omega) (by simp only [List.length_take]; omega)
    rw [List.length_take] at hl
    k_steps
    exact UnrEnd.intro (by k_asm) (by k_asm) _ (sub_cons (by (k_extra "mem_go")) (by (k_extra "sub_go"))) (by (k_extra "off_go")) ⟨rfl, _, _, acc_norm (by decide), _, _, rfl, by
      rename KBw.bInts (b ++ _) = _ => q
      rw [q, octPairs_snoc i f1 f2 f3]
      rfl⟩
  · rintro u ⟨b, t, rfl, hb⟩ lv h tk F2 N2
    rw [List.take_of_length_le (Nat.le_refl _), List.take_of_length_le (by omega), List.take_of_length_le (by omega)] at hb
    have hl := octPairs_len n1 n2 n3 ok2 ok2'
    k_steps
    exact hret _ _ _ _ (by k_asm) (news_sub (by k_asm) (by (k_extra "sub_go"))) ⟨⟨_, _, rfl, by
      rename KBw.bInts (b ++ _) = _ => q
      rw [q]
      rfl⟩, rfl⟩
theorem lawScanOctets_ck {w : World} {f : Addr} {n1 n2 n3 : List Int} {st en hi lo : Int} {news : Led} (hf : DatIn news (.ref f) (scanDat n1 n2 n3 st en hi lo)) (hr : scOk n1 n2 n3 st en hi lo) : CtK w 389 [.ref f] news 4 60 (fun φ => ∀ b t, KBw.bInts b = scanOct n1 n2 n3 st en hi lo → φ (.bytes b t) news) False :=
  (lawScanOctets_ct hf hr).k kBytes
-- part Q4
theorem wsQ4_0 : True := by
  w_top off
  k_with_none
  k_with "ktr_room" => first | exact room1 (by assumption) | exact room3 (by assumption) (Nat.le_of_ble_eq_true rfl) | exact room2 (by assumption) (Nat.le_of_ble_eq_true rfl)
  k_with "ktr_units" => first | exact unit3 (by assumption) (Nat.le_of_ble_eq_true rfl) | exact unit2 (by assumption) (Nat.le_of_ble_eq_true rfl)
  k_with "callWith ref" => (k_here; k_dflt (refine' callWith_K ?cwA ?cwB ?_; (case cwA => k_asm); (case cwB => k_is); k_whole))
  k_with "omega" => first | decide | with_reducible assumption | exact Int.lt_of_le_of_lt (by with_reducible assumption) (by decide) | exact Int.lt_of_lt_of_le (by with_reducible assumption) (by decide) | exact Int.le_trans (by with_reducible assumption) (by decide) | exact lo_tr (by with_reducible assumption) (by decide) | exact lo_le (by with_reducible assumption) (by decide) | exact Nat.le_trans (by with_reducible assumption) (by decide) | exact Nat.lt_of_le_of_lt (by with_reducible assumption) (by decide) | lia
  k_with "k_ne" => (refine neN ?_; (try dsimp only); first | decide | with_reducible assumption | exact Ne.symm (by with_reducible assumption) | (refine Nat.ne_of_gt ?_; (first | with_reducible assumption | exact at1 (by with_reducible assumption) | exact at2 (by with_reducible assumption) | exact at3 (by with_reducible assumption) | exact at4 (by with_reducible assumption) | exact at5 (by with_reducible assumption) | exact at6 (by with_reducible assumption) | exact at7 (by with_reducible assumption) | exact at8 (by with_reducible assumption) | exact up1 (by with_reducible assumption) | exact up2 (by with_reducible assumption) | exact up2 (at1 (by with_reducible assumption)) | exact up2 (at2 (by with_reducible assumption)) | exact up2 (at3 (by with_reducible assumption)) | exact up2 (at4 (by with_reducible assumption)) | exact up1 (at1 (by with_reducible assumption)) | exact up1 (at2 (by with_reducible assumption)) | exact up1 (at3 (by with_reducible assumption)) | exact up1 (at4 (by with_reducible assumption)))) | (refine Nat.ne_of_lt ?_; (first | with_reducible assumption | exact at1 (by with_reducible assumption) | exact at2 (by with_reducible assumption) | exact at3 (by with_reducible assumption) | exact at4 (by with_reducible assumption) | exact at5 (by with_reducible assumption) | exact at6 (by with_reducible assumption) | exact at7 (by with_reducible assumption) | exact at8 (by with_reducible assumption) | exact up1 (by with_reducible assumption) | exact up2 (by with_reducible assumption) | exact up2 (at1 (by with_reducible assumption)) | exact up2 (at2 (by with_reducible assumption)) | exact up2 (at3 (by with_reducible assumption)) | exact up2 (at4 (by with_reducible assumption)) | exact up1 (at1 (by with_reducible assumption)) | exact up1 (at2 (by with_reducible assumption)) | exact up1 (at3 (by with_reducible assumption)) | exact up1 (at4 (by with_reducible assumption)))) | omega)
  k_with "mem_go" => first | with_reducible assumption | exact List.Mem.head _ | (refine List.mem_cons_of_mem _ ?_; (k_extra "mem_go"))
  k_with "sub_go" => first | exact fun _ h => h | exact sub_nil | (refine sub_cons ?hSub ?_; (case hSub => (k_extra "mem_go")); (k_extra "sub_go")) | ((fail_if_success (refine sub_cons ?_ ?_)); refine sub_drop ?_; (k_extra "sub_go")) | with_reducible assumption
  k_with "off_go" => first | exact off_nil | with_reducible assumption | (refine off_cons ?hOff ?_; (case hOff => k_ne); (k_extra "off_go")) | exact off_old (by with_reducible assumption) (by (k_extra "sub_go")) | exact off_sub (by with_reducible assumption) (by (k_extra "sub_go"))
  k_with "k_mem" => (k_extra "mem_go")
  k_with "k_all" => (k_extra "off_go")
  trivial
noncomputable def preSc (n1 n2 n3 : List Int) (st en : Int) (i : Nat) : Prop := (1 ≤ n1.length ∧ n1.length ≤ 4 ∧ st < 64 ∧ en < 64) ∧ (∀ c ∈ n2.take i, c < 4) ∧ (∀ c ∈ n3.take i, c < 4) ∧ (n1.take i).Nodup
theorem preSc_zero {n1 n2 n3 : List Int} {st en : Int} {b : Bool} (h : b = true ↔ (1 ≤ n1.length ∧ n1.length ≤ 4 ∧ st < 64 ∧ en < 64)) : b = true ↔ preSc n1 n2 n3 st en 0 := h.trans ⟨fun h => ⟨h, by simp, by simp, by simp⟩, fun h => h.1⟩
theorem preSc_step {n1 n2 n3 : List Int} {st en : Int} {i : Nat} {b : Bool} {x y z : Int} (hb : b = true ↔ preSc n1 n2 n3 st en i) (h1 : n1[i]? = some x) (h2 : n2[i]? = some y) (h3 : n3[i]? = some z) : preSc n1 n2 n3 st en (i + 1) ↔ b = true ∧ x ∉ n1.take i ∧ y < 4 ∧ z < 4 := by
  rw [hb]
  unfold preSc
  rw [List.take_add_one, List.take_add_one, List.take_add_one, h1, h2, h3]
  simp only [Option.toList_some, List.mem_append, List.mem_singleton, List.nodup_append, List.nodup_cons, List.not_mem_nil, not_false_eq_true, List.nodup_nil, and_true, true_and]
  constructor
  · rintro ⟨a1, a2, a3, a4, a5⟩
    exact ⟨⟨a1, fun c hc => a2 c (.inl hc), fun c hc => a3 c (.inl hc), a4⟩, fun hm => a5 _ hm _ rfl rfl, a2 y (.inr rfl), a3 z (.inr rfl)⟩
  · rintro ⟨⟨a1, a2, a3, a4⟩, q1, q2, q3⟩
    refine ⟨a1, fun c hc => hc.elim (a2 c) (fun e => e ▸ q2), fun c hc => hc.elim (a3 c) (fun e => e ▸ q3), a4, fun a ha b hb e => ?_⟩
    subst hb
    exact q1 (e ▸ ha)
theorem preSc_all {n1 n2 n3 : List Int} {st en hi lo : Int} (hr : scOk n1 n2 n3 st en hi lo) : preSc n1 n2 n3 st en n1.length ↔ scanOk n1 n2 n3 st en hi lo := by
  obtain ⟨⟨z2, z3, z1⟩, p1, p2, p3, ⟨p4, p4'⟩, ⟨p5, p5'⟩, ⟨p6, p6'⟩, p7, p7'⟩ := hr
  unfold preSc scanOk
  rw [List.take_of_length_le (Nat.le_refl _), List.take_of_length_le (by omega), List.take_of_length_le (by omega)]
  constructor
  · rintro ⟨⟨a1, a2, a3, a4⟩, b2, b3, b1⟩
    refine ⟨⟨a1, a2⟩, ⟨z2, z3⟩, b1, p1, fun i hi => ?_, ⟨⟨p4, by omega⟩, p5, by omega⟩, ⟨p6, p6'⟩, p7, p7'⟩
    rcases List.mem_append.mp hi with hi | hi
    · have := b2 i hi; have := p2 i hi; omega
    · have := b3 i hi; have := p3 i hi; omega
  · rintro ⟨⟨a1, a2⟩, _, b1, _, b2, ⟨⟨_, b3⟩, _, b4⟩, _⟩
    exact ⟨⟨a1, a2, by omega, by omega⟩, fun i hi => by have := b2 i (List.mem_append_left _ hi); omega, fun i hi => by have := b2 i (List.mem_append_right _ hi); omega, b1⟩
section
variable {l : List Int} {a y z : Int} {b : Bool} {k i : Nat}
theorem sc_c1 (e : k = i) (qa : ((l.take k).any fun x => x == a) = true) : (!((l.take k).any fun x => x == a)) = true ↔ b = true ∧ ¬ a ∈ l.take i ∧ y < 4 ∧ z < 4 := by
  subst e
  exact ⟨fun h => (by rw [qa] at h; cases h), fun h => absurd (nin_iff.mpr h.2.1) (by rw [qa]; decide)⟩
theorem sc_c2 (e : k = i) (qb : b = true) (qa : ((l.take k).any fun x => x == a) = false) (hy : y < 4) : decide (z < 4) = true ↔ b = true ∧ ¬ a ∈ l.take i ∧ y < 4 ∧ z < 4 := by
  subst e
  exact ⟨fun h => ⟨qb, nin_iff.mp (by rw [qa]; rfl), hy, of_decide_eq_true h⟩, fun h => decide_eq_true h.2.2.2⟩
theorem sc_c3 (hy : ¬ y < 4) : decide (y < 4) = true ↔ b = true ∧ ¬ a ∈ l.take i ∧ y < 4 ∧ z < 4 :=
  ⟨fun h => absurd (of_decide_eq_true h) hy, fun h => absurd h.2.2.1 hy⟩
theorem sc_c4 (qb : b = false) : b = true ↔ b = true ∧ ¬ a ∈ l.take i ∧ y < 4 ∧ z < 4 := by
  subst qb
  exact ⟨fun h => (nomatch h), fun h => nomatch h.1⟩
end
theorem wsQ4_1 : True := by
  w_top off
  k_with_none
  k_with "ktr_room" => first | exact room1 (by assumption) | exact room3 (by assumption) (Nat.le_of_ble_eq_true rfl) | exact room2 (by assumption) (Nat.le_of_ble_eq_true rfl)
  k_with "ktr_units" => first | exact unit3 (by assumption) (Nat.le_of_ble_eq_true rfl) | exact unit2 (by assumption) (Nat.le_of_ble_eq_true rfl)
  k_with "callWith ref" => (k_here; k_dflt (refine' callWith_K ?cwA ?cwB ?_; (case cwA => k_asm); (case cwB => k_is); k_whole))
  k_with "omega" => first | decide | with_reducible assumption | exact Int.lt_of_le_of_lt (by with_reducible assumption) (by decide) | exact Int.lt_of_lt_of_le (by with_reducible assumption) (by decide) | exact Int.le_trans (by with_reducible assumption) (by decide) | exact lo_tr (by with_reducible assumption) (by decide) | exact lo_le (by with_reducible assumption) (by decide) | exact Nat.le_trans (by with_reducible assumption) (by decide) | exact Nat.lt_of_le_of_lt (by with_reducible assumption) (by decide) | lia
  k_with "k_ne" => (refine neN ?_; (try dsimp only); first | decide | with_reducible assumption | exact Ne.symm (by with_reducible assumption) | (refine Nat.ne_of_gt ?_; (first | with_reducible assumption | exact at1 (by with_reducible assumption) | exact at2 (by with_reducible assumption) | exact at3 (by with_reducible assumption) | exact at4 (by with_reducible assumption) | exact at5 (by with_reducible assumption) | exact at6 (by with_reducible assumption) | exact at7 (by with_reducible assumption) | exact at8 (by with_reducible assumption) | exact up1 (by with_reducible assumption) | exact up2 (by with_reducible assumption) | exact up2 (at1 (by with_reducible assumption)) | exact up2 (at2 (by with_reducible assumption)) | exact up2 (at3 (by with_reducible assumption)) | exact up2 (at4 (by with_reducible assumption)) | exact up1 (at1 (by with_reducible assumption)) | exact up1 (at2 (by with_reducible assumption)) | exact up1 (at3 (by with_reducible assumption)) | exact up1 (at4 (by with_reducible assumption)))) | (refine Nat.ne_of_lt ?_; (first | with_reducible assumption | exact at1 (by with_reducible assumption) | exact at2 (by with_reducible assumption) | exact at3 (by with_reducible assumption) | exact at4 (by with_reducible assumption) | exact at5 (by with_reducible assumption) | exact at6 (by with_reducible assumption) | exact at7 (by with_reducible assumption) | exact at8 (by with_reducible assumption) | exact up1 (by with_reducible assumption) | exact up2 (by with_reducible assumption) | exact up2 (at1 (by with_reducible assumption)) | exact up2 (at2 (by with_reducible assumption)) | exact up2 (at3 (by with_reducible assumption)) | exact up2 (at4 (by with_reducible assumption)) | exact up1 (at1 (by with_reducible assumption)) | exact up1 (at2 (by with_reducible assumption)) | exact up1 (at3 (by with_reducible assumption)) | exact up1 (at4 (by with_reducible assumption)))) | omega)
  k_with "mem_go" => first | with_reducible assumption | exact List.Mem.head _ | (refine List.mem_cons_of_mem _ ?_; (k_extra "mem_go"))
  k_with "sub_go" => first | exact fun _ h => h | exact sub_nil | (refine sub_cons ?hSub ?_; (case hSub => (k_extra "mem_go")); (k_extra "sub_go")) | ((fail_if_success (refine sub_cons ?_ ?_)); refine sub_drop ?_; (k_extra "sub_go")) | with_reducible assumption
  k_with "off_go" => first | exact off_nil | with_reducible assumption | (refine off_cons ?hOff ?_; (case hOff => k_ne); (k_extra "off_go")) | exact off_old (by with_reducible assumption) (by (k_extra "sub_go")) | exact off_sub (by with_reducible assumption) (by (k_extra "sub_go"))
  k_with "k_mem" => (k_extra "mem_go")
  k_with "k_all" => (k_extra "off_go")
  k_with "call builtin:len" => (k_here; k_dflt (refine len_news (by k_asm) (by (k_extra "mem_go")) (by assumption) (by omega) ?_); intro _ _)
  k_with "call type:range" => (k_here; (with_reducible refine (?_ : wpAny _ _ (call (Value.type "range") [Value.int _ _]) _ _ _)); k_dflt (refine range1_rows (by k_asm) (by k_asm) ?_); intro _ _ _ _ _ rg' F' N' _)
  k_with "exec For Name Call cons nil" => (k_here; (rename Fr _ _ _ _ => lF'); (with_unfolding_all refine' For_invVF lF' ?k1 ?k2 ?_; (case k1 => exact rfl); (case k2 => exact rfl); k_whole))
  k_with "pyIter ref" => (k_here; (with_reducible refine (?_ : wpAny _ _ (pyIter (Value.ref _)) (fun it s₂ => LoopAtV _ _ _ _ _ _ _ _ _ it s₂) _ _)); (with_unfolding_all refine iter_rangeUnr (by rfl) (by assumption) (rg_small (by omega)) (rg_size _) (by k_asm) (by k_asm) ?_); intro i' l1; (try k_lt l1))
  k_with "subscriptTail Name Name ref int" => (k_here; (with_reducible refine (?_ : wpAny _ _ (subscriptTail _ _ (Value.ref _) (Value.int _ _)) _ _ _)); k_dflt (refine item_news (by k_asm) (by (k_extra "mem_go")) (by omega) (by omega) (by assumption) (by with_unfolding_all rfl) ?_))
  k_with "exec Assign" => (k_here; (fail_if_success (have zz := joined)); (with_reducible refine (?_ : wpAny _ _ (exec (Stmt.Assign [Expr.Name _ _] (Expr.BoolOp _ (Expr.Compare _ _ _ _ :: _) _) _) _) _ _ _)); refine if_join (by k_asm) (news := news) (Str.ofString "right") (fun b => b = true ↔ (1 ≤ n1.length ∧ n1.length ≤ 4 ∧ st < 64 ∧ en < 64)) ?_ ?_; (have joined : True := trivial); rotate_left; intro b' h' tk' F' N' hpr'; rotate_left)
  trivial
set_option maxRecDepth 100000 in
set_option maxHeartbeats 8000000 in
theorem lawScanRight_ct {w : World} {f : Addr} {n1 n2 n3 : List Int} {st en hi lo : Int} {news : Led} (hf : DatIn news (.ref f) (scanDat n1 n2 n3 st en hi lo)) (hr : scOk n1 n2 n3 st en hi lo) :
    Ct w 382 [.ref f] news 4 60 (fun v news' => (∃ b, v = .bool b ∧ (b = true ↔ scanOk n1 n2 n3 st en hi lo)) ∧ news' = news) False := by
  intro mean mg mb dp un gd cn csc a' ccd cl outer A₀ base h₀ L m s Q E X B F N T hk hd hu hret hexc
  obtain ⟨n, l1, l2, l3, v1, v2, v3, k1, k2, k3, t1, t2, t3, t4, hm, m1, m2, m3, h1, h2, h3⟩ := scan_inv hf
  have hr' := hr
  obtain ⟨⟨z2, z3, z1⟩, _⟩ := hr'
  have y1 := h1.length
  have y2 := h2.length
  have y3 := h3.length
  refine wpAny_call ?_
  k_dflt cell_enter
  k_steps
  iterate 4 (refine ⟨rfl, _, _, _, rfl, by k_asm, news_sub (by k_asm) (by (k_extra "sub_go")), ?_⟩; simp; omega)
  refine range_ind (fun i m n' => n' = _ ∧ Off ["at", "right"] m _ ∧ ∃ b, m "right" = some (.bool b) ∧ (b = true ↔ preSc n1 n2 n3 st en i)) ?_ ?_ _ _ _ _ (Nat.zero_add _) ⟨rfl, Off.refl, _, rfl, preSc_zero hpr'⟩ (by (k_extra "off_go"))
  · rintro i m n' hi' ⟨rfl, hm0, b, hb0, hb⟩ hoff tt h tk F2 N2
    refine ints_get3 h1 h2 h3 (i := i) hi' (by omega) (by omega) ?_
    intro a1 ta a2 tb a3 tc e1 f1 m1 e2 f2 m2 e3 f3 m3
    have e : ((0 : Int) + (i : Int)).toNat = i := by omega
    rw [hm0.form] at F2
    simp only [mask, hb0] at F2
    k_steps
    all_goals (
      refine UnrEnd.intro (by k_asm) (by k_asm) _ (sub_cons (by (k_extra "mem_go")) (by (k_extra "sub_go"))) hoff ⟨rfl, ?_, _, rfl, ?_⟩
      · repeat (first | (refine Off.set (by (k_extra "mem_go")) ?_) | exact Off.refl | (refine Off.setR (by (k_extra "mem_go")) ?_))
      · rw [preSc_step hb f1 f2 f3]
        first | exact sc_c1 e (by assumption) | exact sc_c2 e (by assumption) (by assumption) (by assumption) | exact sc_c3 (by assumption) | exact sc_c4 (by assumption))
  · rintro m n' ⟨rfl, hm0, b, hb0, hb⟩ h tk F2 N2
    rw [hm0.form] at F2
    simp only [mask, hb0] at F2
    k_steps
    exact hret _ _ _ _ (by k_asm) (news_sub (by k_asm) (by (k_extra "sub_go"))) ⟨⟨_, rfl, hb.trans (preSc_all hr)⟩, rfl⟩
theorem lawScanRight_ck {w : World} {f : Addr} {n1 n2 n3 : List Int} {st en hi lo : Int} {news : Led} (hf : DatIn news (.ref f) (scanDat n1 n2 n3 st en hi lo)) (hr : scOk n1 n2 n3 st en hi lo) : CtK w 382 [.ref f] news 4 60 (fun φ => ∀ b, (b = true ↔ scanOk n1 n2 n3 st en hi lo) → φ (.bool b) news) False :=
  (lawScanRight_ct hf hr).k kBool
-- part T3
theorem wsT3_0 : True := by
  w_top off
  k_with_none
  k_with "ktr_room" => first | exact room1 (by assumption) | exact room3 (by assumption) (Nat.le_of_ble_eq_true rfl) | exact room2 (by assumption) (Nat.le_of_ble_eq_true rfl)
  k_with "ktr_units" => first | exact unit3 (by assumption) (Nat.le_of_ble_eq_true rfl) | exact unit2 (by assumption) (Nat.le_of_ble_eq_true rfl)
  k_with "callWith ref" => (k_here; k_dflt (refine' callWith_K ?cwA ?cwB ?_; (case cwA => k_asm); (case cwB => k_is); k_whole))
  k_with "omega" => first | decide | with_reducible assumption | exact Int.lt_of_le_of_lt (by with_reducible assumption) (by decide) | exact Int.lt_of_lt_of_le (by with_reducible assumption) (by decide) | exact Int.le_trans (by with_reducible assumption) (by decide) | exact lo_tr (by with_reducible assumption) (by decide) | exact lo_le (by with_reducible assumption) (by decide) | exact Nat.le_trans (by with_reducible assumption) (by decide) | exact Nat.lt_of_le_of_lt (by with_reducible assumption) (by decide) | lia
  k_with "k_ne" => (refine neN ?_; (try dsimp only); first | decide | with_reducible assumption | exact Ne.symm (by with_reducible assumption) | (refine Nat.ne_of_gt ?_; (first | with_reducible assumption | exact at1 (by with_reducible assumption) | exact at2 (by with_reducible assumption) | exact at3 (by with_reducible assumption) | exact at4 (by with_reducible assumption) | exact at5 (by with_reducible assumption) | exact at6 (by with_reducible assumption) | exact at7 (by with_reducible assumption) | exact at8 (by with_reducible assumption) | exact up1 (by with_reducible assumption) | exact up2 (by with_reducible assumption) | exact up2 (at1 (by with_reducible assumption)) | exact up2 (at2 (by with_reducible assumption)) | exact up2 (at3 (by with_reducible assumption)) | exact up2 (at4 (by with_reducible assumption)) | exact up1 (at1 (by with_reducible assumption)) | exact up1 (at2 (by with_reducible assumption)) | exact up1 (at3 (by with_reducible assumption)) | exact up1 (at4 (by with_reducible assumption)))) | (refine Nat.ne_of_lt ?_; (first | with_reducible assumption | exact at1 (by with_reducible assumption) | exact at2 (by with_reducible assumption) | exact at3 (by with_reducible assumption) | exact at4 (by with_reducible assumption) | exact at5 (by with_reducible assumption) | exact at6 (by with_reducible assumption) | exact at7 (by with_reducible assumption) | exact at8 (by with_reducible assumption) | exact up1 (by with_reducible assumption) | exact up2 (by with_reducible assumption) | exact up2 (at1 (by with_reducible assumption)) | exact up2 (at2 (by with_reducible assumption)) | exact up2 (at3 (by with_reducible assumption)) | exact up2 (at4 (by with_reducible assumption)) | exact up1 (at1 (by with_reducible assumption)) | exact up1 (at2 (by with_reducible assumption)) | exact up1 (at3 (by with_reducible assumption)) | exact up1 (at4 (by with_reducible assumption)))) | omega)
  k_with "mem_go" => first | with_reducible assumption | exact List.Mem.head _ | (refine List.mem_cons_of_mem _ ?_; (k_extra "mem_go"))
  k_with "sub_go" => first | exact fun _ h => h | exact sub_nil | (refine sub_cons ?hSub ?_; (case hSub => (k_extra "mem_go")); (k_extra "sub_go")) | ((fail_if_success (refine sub_cons ?_ ?_)); refine sub_drop ?_; (k_extra "sub_go")) | with_reducible assumption
  k_with "off_go" => first | exact off_nil | with_reducible assumption | (refine off_cons ?hOff ?_; (case hOff => k_ne); (k_extra "off_go")) | exact off_old (by with_reducible assumption) (by (k_extra "sub_go")) | exact off_sub (by with_reducible assumption) (by (k_extra "sub_go"))
  k_with "k_mem" => (k_extra "mem_go")
  k_with "k_all" => (k_extra "off_go")
  trivial
/-- the own exception leaves a frame of any make -/
theorem leave_onX {M : Model} {A : Around} {E : Value → Shared → Prop} {s' : Shared} {base g g₂ : Heap} {outer : List Env} {env : Env} {L e t : Addr} {m : Str → Option Value} {Q : Unit → Shared → Prop} {news : Led} {cls : Value} {vs : List Value} (hf : env.frame = some L)
    (K : Below A base outer g) (F : Fr g L g₂ m) (R : RaisedS base g₂ (env :: outer) e cls t vs news s'.heap) (hsm : g₂.UpToSlots s'.heap)
    (hQ : ∀ h', RaisedS base g outer e cls t vs news h' → g.UpToSlots h' → Q () { s' with heap := h' }) :
    wpAny M (A.deeper env) (leaving env (.ref e)) Q E s' := by
  obtain ⟨⟨B, hB, hBG, hl, hfl, hnew⟩, htup⟩ := R
  refine wpAny_leaves_onW (Around.frames_deeper K.stack) hf hfl fun h' x1 x2 => hQ h' ⟨⟨B, hB, fun b o q nm => hBG b o (F.keep b o q) fun hm => ?_, fun q hq => ⟨(hl q hq).1, kts_none F.keep (hl q hq).2.1, (hl q hq).2.2⟩, x1, hnew⟩, htup.of_slots x2⟩ ((Heap.UpToSlots.of_keeps F.keep).trans (hsm.trans x2))
  rw [List.filterMap_cons, hf] at hm
  rcases List.mem_cons.mp hm with z | z
  · rw [z, kts_self F] at q
    cases q
  · exact nm z
theorem Ct.weaken {w : World} {f : Addr} {vs : List Value} {news : Led} {d u : Nat} {R R' : Value → Led → Prop} {X X' : Prop} (C : Ct w f vs news d u R X) (hR : ∀ v n, R v n → R' v n) (hX : X → X') : Ct w f vs news d u R' X' :=
  fun mean mg mb dp un gd cn cs a ccd cl outer A₀ base h₀ L m s Q E X₀ B F N T hk hd hu hret hexc => C mean mg mb dp un gd cn cs a ccd cl outer A₀ base h₀ L m s Q E X₀ B F N T hk hd hu (fun v n h' tk' F' N' r => hret v n h' tk' F' N' (hR v n r)) fun x => hexc (hX x)
/-- what read_frame hands on: a FrameHead in the ledger -/
noncomputable def FrR (P : Params) (code prec height width : Int) (cs : List C4) (news : Led) (v : Value) (news' : Led) : Prop := FrameAt P news' v code prec height width cs ∧ (∀ p ∈ news, p ∈ news') ∧ frameOk code prec height width cs
noncomputable def ScR (P : Params) (n1 n2 n3 : List Int) (st en hi lo : Int) (news : Led) (v : Value) (news' : Led) : Prop := ScanAt P news' v n1 n2 n3 st en hi lo ∧ (∀ p ∈ news, p ∈ news') ∧ scanOk n1 n2 n3 st en hi lo
theorem told_read {w : World} {f : Addr} {oc : Value} {od : Option Addr} {fd : FuncData} {sl : Array (Option Value)} {news : Led} {R : Led → Value → Led → Prop} {X : Prop} (hfun : (f, (⟨oc, od, .func fd, sl⟩ : Obj)) ∈ news) (C : Ct w f [] news 32 300 (R news) X) :
    CtT w 360 [.ref f] news 36 360 (fun v news' => R news v news' ∨ (v = .none ∧ news' = news ∧ X)) := told_ct hfun C
theorem toldFr_k {P : Params} {code prec height width : Int} {cs : List C4} {news : Led} {X : Prop} : ∀ φ : Value → Led → Prop, ((∀ n x1 dx1 k1 k2 k3 k4 k5 t1 t2 t3 t4 lx1 refs1 c1, (x1, instObj 171 dx1) ∈ n → (dx1, frD P k1 k2 k3 k4 k5 code t1 prec t2 height t3 width t4 lx1) ∈ n → (lx1, listOf (List.toArray refs1) c1) ∈ n → CompsIn P n refs1 cs → (∀ p ∈ news, p ∈ n) → frameOk code prec height width cs → φ (.ref x1) n) ∧ (X → φ .none news)) → ∀ v n, (FrR P code prec height width cs news v n ∨ (v = .none ∧ n = news ∧ X)) → φ v n := fun φ h v n r => by
  rcases r with ⟨⟨x1, dx1, o1, lx1, refs1, c1, rfl, q1, q2, ⟨k1, k2, k3, k4, k5, t1, t2, t3, t4, rfl⟩, q4, q5⟩, hsub, hok⟩ | ⟨rfl, rfl, hX⟩
  · exact h.1 n x1 dx1 k1 k2 k3 k4 k5 t1 t2 t3 t4 lx1 refs1 c1 q1 q2 q4 q5 hsub hok
  · exact h.2 hX
theorem toldSc_k {P : Params} {n1 n2 n3 : List Int} {st en hi lo : Int} {news : Led} {X : Prop} : ∀ φ : Value → Led → Prop, ((∀ n x1 dx1 k1 k2 k3 k4 k5 k6 k7 t1 t2 t3 t4 i1 i2 i3 v1 v2 v3 c1 c2 c3, (x1, instObj 192 dx1) ∈ n → (dx1, scD P k1 k2 k3 k4 k5 k6 k7 i1 i2 i3 st t1 en t2 hi t3 lo t4) ∈ n → (i1, listOf (List.toArray v1) c1) ∈ n → (i2, listOf (List.toArray v2) c2) ∈ n → (i3, listOf (List.toArray v3) c3) ∈ n → IntsAre v1 n1 → IntsAre v2 n2 → IntsAre v3 n3 → (∀ p ∈ news, p ∈ n) → scanOk n1 n2 n3 st en hi lo → φ (.ref x1) n) ∧ (X → φ .none news)) → ∀ v n, (ScR P n1 n2 n3 st en hi lo news v n ∨ (v = .none ∧ n = news ∧ X)) → φ v n := fun φ h v n r => by
  rcases r with ⟨⟨x1, dx1, o1, i1, i2, i3, v1, v2, v3, c1, c2, c3, rfl, q1, q2, ⟨k1, k2, k3, k4, k5, k6, k7, t1, t2, t3, t4, rfl⟩, q4, q5, q6, w1, w2, w3⟩, hsub, hok⟩ | ⟨rfl, rfl, hX⟩
  · exact h.1 n x1 dx1 k1 k2 k3 k4 k5 k6 k7 t1 t2 t3 t4 i1 i2 i3 v1 v2 v3 c1 c2 c3 q1 q2 q4 q5 q6 w1 w2 w3 hsub hok
  · exact h.2 hX
theorem toldBytes_k {ns : List Int} {P X : Prop} {news : Led} : ∀ φ : Value → Led → Prop, ((∀ b t, KBw.bInts b = ns → P → φ (.bytes b t) news) ∧ (X → φ .none news)) → ∀ v n, (((∃ b t, v = .bytes b t ∧ KBw.bInts b = ns) ∧ n = news ∧ P) ∨ (v = .none ∧ n = news ∧ X)) → φ v n := fun φ h v n r => by
  rcases r with ⟨⟨b, t, rfl, q⟩, rfl, p⟩ | ⟨rfl, rfl, hX⟩
  · exact h.1 b t q p
  · exact h.2 hX
theorem toldInt_k {x : Int} {P X : Prop} {news : Led} : ∀ φ : Value → Led → Prop, ((∀ t, P → φ (.int x t) news) ∧ (X → φ .none news)) → ∀ v n, (((∃ t, v = .int x t) ∧ n = news ∧ P) ∨ (v = .none ∧ n = news ∧ X)) → φ v n := fun φ h v n r => by
  rcases r with ⟨⟨t, rfl⟩, rfl, p⟩ | ⟨rfl, rfl, hX⟩
  · exact h.1 t p
  · exact h.2 hX
theorem toldNone_k {X : Prop} {news : Led} : ∀ φ : Value → Led → Prop, (X → φ .none news) → ∀ v n, (False ∨ (v = .none ∧ n = news ∧ X)) → φ v n := fun φ h v n r => by
  rcases r with r | ⟨rfl, rfl, hX⟩
  · exact r.elim
  · exact h hX
-- part V1
theorem wsV1_0 : True := by
  w_top off
  k_with_none
  k_with "ktr_room" => first | exact room1 (by assumption) | exact room3 (by assumption) (Nat.le_of_ble_eq_true rfl) | exact room2 (by assumption) (Nat.le_of_ble_eq_true rfl)
  k_with "ktr_units" => first | exact unit3 (by assumption) (Nat.le_of_ble_eq_true rfl) | exact unit2 (by assumption) (Nat.le_of_ble_eq_true rfl)
  k_with "callWith ref" => (k_here; k_dflt (refine' callWith_K ?cwA ?cwB ?_; (case cwA => k_asm); (case cwB => k_is); k_whole))
  k_with "omega" => first | decide | with_reducible assumption | exact Int.lt_of_le_of_lt (by with_reducible assumption) (by decide) | exact Int.lt_of_lt_of_le (by with_reducible assumption) (by decide) | exact Int.le_trans (by with_reducible assumption) (by decide) | exact lo_tr (by with_reducible assumption) (by decide) | exact lo_le (by with_reducible assumption) (by decide) | exact Nat.le_trans (by with_reducible assumption) (by decide) | exact Nat.lt_of_le_of_lt (by with_reducible assumption) (by decide) | lia
  k_with "k_ne" => (refine neN ?_; (try dsimp only); first | decide | with_reducible assumption | exact Ne.symm (by with_reducible assumption) | (refine Nat.ne_of_gt ?_; (first | with_reducible assumption | exact at1 (by with_reducible assumption) | exact at2 (by with_reducible assumption) | exact at3 (by with_reducible assumption) | exact at4 (by with_reducible assumption) | exact at5 (by with_reducible assumption) | exact at6 (by with_reducible assumption) | exact at7 (by with_reducible assumption) | exact at8 (by with_reducible assumption) | exact up1 (by with_reducible assumption) | exact up2 (by with_reducible assumption) | exact up2 (at1 (by with_reducible assumption)) | exact up2 (at2 (by with_reducible assumption)) | exact up2 (at3 (by with_reducible assumption)) | exact up2 (at4 (by with_reducible assumption)) | exact up1 (at1 (by with_reducible assumption)) | exact up1 (at2 (by with_reducible assumption)) | exact up1 (at3 (by with_reducible assumption)) | exact up1 (at4 (by with_reducible assumption)))) | (refine Nat.ne_of_lt ?_; (first | with_reducible assumption | exact at1 (by with_reducible assumption) | exact at2 (by with_reducible assumption) | exact at3 (by with_reducible assumption) | exact at4 (by with_reducible assumption) | exact at5 (by with_reducible assumption) | exact at6 (by with_reducible assumption) | exact at7 (by with_reducible assumption) | exact at8 (by with_reducible assumption) | exact up1 (by with_reducible assumption) | exact up2 (by with_reducible assumption) | exact up2 (at1 (by with_reducible assumption)) | exact up2 (at2 (by with_reducible assumption)) | exact up2 (at3 (by with_reducible assumption)) | exact up2 (at4 (by with_reducible assumption)) | exact up1 (at1 (by with_reducible assumption)) | exact up1 (at2 (by with_reducible assumption)) | exact up1 (at3 (by with_reducible assumption)) | exact up1 (at4 (by with_reducible assumption)))) | omega)
  k_with "mem_go" => first | with_reducible assumption | exact List.Mem.head _ | (refine List.mem_cons_of_mem _ ?_; (k_extra "mem_go"))
  k_with "sub_go" => first | exact fun _ h => h | exact sub_nil | (refine sub_cons ?hSub ?_; (case hSub => (k_extra "mem_go")); (k_extra "sub_go")) | ((fail_if_success (refine sub_cons ?_ ?_)); refine sub_drop ?_; (k_extra "sub_go")) | with_reducible assumption
  k_with "off_go" => first | exact off_nil | with_reducible assumption | (refine off_cons ?hOff ?_; (case hOff => k_ne); (k_extra "off_go")) | exact off_old (by with_reducible assumption) (by (k_extra "sub_go")) | exact off_sub (by with_reducible assumption) (by (k_extra "sub_go"))
  k_with "k_mem" => (k_extra "mem_go")
  k_with "k_all" => (k_extra "off_go")
  trivial
/-- the table of a def that makes one lambda: empty, or with that lambda's code -/
noncomputable def Tab (line col : Nat) (q : Str) (ps : Array Value) (n : Led) : Prop := ps = #[] ∨ ∃ c oc vs t, ps = #[] ++ #[rawInt (line : Int), rawInt (col : Int), Value.ref c] ∧ (c, oc) ∈ n ∧ oc.data = .fields vs ∧ vs[1]? = some (.str q t)
/-- that lambda's code stands in the ledger, and newer than all of it if it was made now -/
noncomputable def TabMade (P line col : Nat) (q : Str) (ps : Array Value) (rest n : Led) : Prop := ∃ c oc vs t, (P, tabObj (#[] ++ #[rawInt (line : Int), rawInt (col : Int), Value.ref c])) ∈ n ∧ (c, oc) ∈ n ∧ oc.data = .fields vs ∧ vs[1]? = some (.str q t) ∧ (ps = #[] → ∀ p ∈ (P, tabObj ps) :: rest, @LT.lt Nat _ p.1 c)
noncomputable def qFT : Str := (Str.ofString "_law_frame_told" ++ ".<locals>.") ++ "<lambda>"
theorem srcAt_mono {h : Heap} {ax : Addr} {its : Array Value} {n n' : Led} (hs : ∀ p ∈ n, p ∈ n') (x : LCg.SrcAt h ax its n) : LCg.SrcAt h ax its n' := x.imp id fun ⟨o, hm, r⟩ => ⟨o, hs _ hm, r⟩
theorem comp_dat {n : Led} {x : Addr} {k : Nat} {c : C4} {t1 t2 t3 t4 : Tok} (hm : (x, tupN [.int c.1 t1, .int c.2.1 t2, .int c.2.2.1 t3, .int c.2.2.2 t4] k) ∈ n) : DatIn n (.ref x) (compDat c) := .tuple hm (.cons (.int _ _) (.cons (.int _ _) (.cons (.int _ _) (.cons (.int _ _) .nil))))
theorem frame_dat {n : Led} {x lc : Addr} {k kc : Nat} {vs : List Value} {code prec height width : Int} {cs : List C4} {t1 t2 t3 t4 : Tok} (hm : (x, tupN [.int code t1, .int prec t2, .int height t3, .int width t4, .ref lc] k) ∈ n) (hl : (lc, listOf vs.toArray kc) ∈ n) (hd : DatAll n vs (cs.map compDat)) : DatIn n (.ref x) (frameDat code prec height width cs) := .tuple hm (.cons (.int _ _) (.cons (.int _ _) (.cons (.int _ _) (.cons (.int _ _) (.cons (.list hl hd) .nil)))))
theorem wsV1_1 : True := by
  w_top off
  k_with_none
  k_with "ktr_room" => first | exact room1 (by assumption) | exact room3 (by assumption) (Nat.le_of_ble_eq_true rfl) | exact room2 (by assumption) (Nat.le_of_ble_eq_true rfl)
  k_with "ktr_units" => first | exact unit3 (by assumption) (Nat.le_of_ble_eq_true rfl) | exact unit2 (by assumption) (Nat.le_of_ble_eq_true rfl)
  k_with "callWith ref" => (k_here; k_dflt (refine' callWith_K ?cwA ?cwB ?_; (case cwA => k_asm); (case cwB => k_is); k_whole))
  k_with "omega" => first | decide | with_reducible assumption | exact Int.lt_of_le_of_lt (by with_reducible assumption) (by decide) | exact Int.lt_of_lt_of_le (by with_reducible assumption) (by decide) | exact Int.le_trans (by with_reducible assumption) (by decide) | exact lo_tr (by with_reducible assumption) (by decide) | exact lo_le (by with_reducible assumption) (by decide) | exact Nat.le_trans (by with_reducible assumption) (by decide) | exact Nat.lt_of_le_of_lt (by with_reducible assumption) (by decide) | lia
  k_with "k_ne" => (refine neN ?_; (try dsimp only); first | decide | with_reducible assumption | exact Ne.symm (by with_reducible assumption) | (refine Nat.ne_of_gt ?_; (first | with_reducible assumption | exact at1 (by with_reducible assumption) | exact at2 (by with_reducible assumption) | exact at3 (by with_reducible assumption) | exact at4 (by with_reducible assumption) | exact at5 (by with_reducible assumption) | exact at6 (by with_reducible assumption) | exact at7 (by with_reducible assumption) | exact at8 (by with_reducible assumption) | exact up1 (by with_reducible assumption) | exact up2 (by with_reducible assumption) | exact up2 (at1 (by with_reducible assumption)) | exact up2 (at2 (by with_reducible assumption)) | exact up2 (at3 (by with_reducible assumption)) | exact up2 (at4 (by with_reducible assumption)) | exact up1 (at1 (by with_reducible assumption)) | exact up1 (at2 (by with_reducible assumption)) | exact up1 (at3 (by with_reducible assumption)) | exact up1 (at4 (by with_reducible assumption)))) | (refine Nat.ne_of_lt ?_; (first | with_reducible assumption | exact at1 (by with_reducible assumption) | exact at2 (by with_reducible assumption) | exact at3 (by with_reducible assumption) | exact at4 (by with_reducible assumption) | exact at5 (by with_reducible assumption) | exact at6 (by with_reducible assumption) | exact at7 (by with_reducible assumption) | exact at8 (by with_reducible assumption) | exact up1 (by with_reducible assumption) | exact up2 (by with_reducible assumption) | exact up2 (at1 (by with_reducible assumption)) | exact up2 (at2 (by with_reducible assumption)) | exact up2 (at3 (by with_reducible assumption)) | exact up2 (at4 (by with_reducible assumption)) | exact up1 (at1 (by with_reducible assumption)) | exact up1 (at2 (by with_reducible assumption)) | exact up1 (at3 (by with_reducible assumption)) | exact up1 (at4 (by with_reducible assumption)))) | omega)
  k_with "mem_go" => first | with_reducible assumption | exact List.Mem.head _ | (refine List.mem_cons_of_mem _ ?_; (k_extra "mem_go"))
  k_with "sub_go" => first | exact fun _ h => h | exact sub_nil | (refine sub_cons ?hSub ?_; (case hSub => (k_extra "mem_go")); (k_extra "sub_go")) | ((fail_if_success (refine sub_cons ?_ ?_)); refine sub_drop ?_; (k_extra "sub_go")) | with_reducible assumption
  k_with "off_go" => first | exact off_nil | with_reducible assumption | (refine off_cons ?hOff ?_; (case hOff => k_ne); (k_extra "off_go")) | exact off_old (by with_reducible assumption) (by (k_extra "sub_go")) | exact off_sub (by with_reducible assumption) (by (k_extra "sub_go"))
  k_with "k_mem" => (k_extra "mem_go")
  k_with "k_all" => (k_extra "off_go")
  k_with "call ref" => (k_here; (with_reducible refine (?_ : wpAny _ _ (call (Value.ref 360) _) _ _ _)); k_dflt (refine CtTK.run (by k_asm) (by k_asm) ((told_read (R := FrR w.params code prec height width cs) (X := Xp) (by (k_extra "mem_go")) ?_).k toldFr_k) (by k_asm) (by k_asm) (by k_asm) (by k_asm) (by k_asm) (by first | k_asm | exact ktsDicts_nil) (by first | rfl | assumption) (by ktr_room) (by ktr_units) ⟨fun n' x1 dx1 k1 k2 k3 k4 k5 t1 t2 t3 t4 lx1 refs1 c1 q1 q2 q4 q5 hsub hok h' tk' h₁' TT' F' N' B' X' T' D' => ?_, fun hXp h' tk' h₁' TT' F' N' B' X' T' D' => ?_⟩))
  k_with "call ref" => (k_here; (with_reducible refine (?_ : wpAny _ _ (call (Value.ref 243) _) _ _ _)); k_dflt (refine Ct.run (by k_asm) (by k_asm) (HR _) (by k_asm) (by k_asm) (by k_asm) (by first | rfl | assumption) (by ktr_room) (by ktr_units) ?_ ?_))
  k_with "RetP" => (unfold RetP; intro v' n' h' tk' F' N' r')
  k_with "ExcP" => (unfold ExcP; intro e3' e' t' vs' g' h' tk' Fg' U' R')
  k_with "leaving ref" => (k_here; refine leave_onX rfl (by k_asm) (by assumption) (by assumption) (by assumption) ?_; intro h' R' U'; (try dsimp only at R' U'))
  k_with "exec Assign cons ListComp" => (k_here; k_dflt (refine LCg.Assign_ListComp_U (F₀ := by k_asm) (by rfl) (by with_unfolding_all rfl) (by with_unfolding_all rfl) (by decide) (by rfl) (by decide) (by rfl) (by rfl) (by rfl) ?_))
  k_with "CompSrc" => fail "no"
  trivial
set_option maxRecDepth 100000 in
set_option maxHeartbeats 8000000 in
theorem frameTold_ct {w : World} {code prec height width : Int} {cs : List C4} {tc : Tok} {b : Array UInt8} {tb : Tok} {ps : Array Value} {rest : Led} {Xp : Prop} (h1 : ∀ p ∈ rest, p.1 ≠ 362) (hps : Tab 238 21 qFT ps rest)
    (HR : ∀ n, Ct w 243 [.int code tc, .bytes b tb] n 28 260 (FrR w.params code prec height width cs n) Xp) (h4 : cs.length ≤ 4) :
    CtT w 365 [.int code tc, .bytes b tb] ((362, tabObj ps) :: rest) 40 440 (fun v news' => ((v = .none ∧ Xp) ∨ (DatIn news' v (frameDat code prec height width cs) ∧ frameOk code prec height width cs)) ∧ (∀ p ∈ rest, p ∈ news') ∧ TabMade 362 238 21 qFT ps rest news') := by
  intro mean mg mb dp un gd cn csc a ccd cl outer A₀ base h₀ L m s Q E X₀ B F N T XB TB D hk hd hu hret
  refine wpAny_call ?_
  k_dflt (refine' enterC ?k1 ?k2 ?k3 ?k4 ?k5 ?kD ?kA ?kF ?kK ?k6 ?k7 ?k8 ?k9 ?kB ?kN ?_ ?c2 ?c3 ?c4; (case kA => exact rfl); (case kF => exact rfl); (case kK => assumption); (case k1 => k_asm); (case k2 => k_asm); (case k3 => k_asm); (case k4 => k_asm); (case k5 => k_asm); (case kD => k_asm); (case k6 => k_is); (case k7 => k_is); (case k8 => ktr_room); (case k9 => exact BindsTo.of_eq rfl); (case kB => exact kindsX rfl); (case kN => decide +kernel); (case c2 => exact rfl); (case c3 => exact rfl); (case c4 => exact rfl); k_whole; intro g' L' h' tk' cells' BK' F' N' Y' l1 B' X' T' D'; (try k_lt l1); (first | (obtain ⟨oc1, hE', dc1⟩ := CellsAre.one Y'; subst hE'; clear Y') | (obtain ⟨oc1, oc2, hE', dc1, dc2⟩ := CellsAre.two Y'; subst hE'; clear Y')); (try simp only [List.cons_append, List.nil_append] at N'); (try dsimp only); (try k_fold))
  have cX := codeHd_of_K (c := 364) (P := 362) X' (by kernel_rfl)
  have fin : ∀ v g2 L2 m2 h2 tk2 n2, KtsTurn ((envX cn csc L a ccd cl :: outer).filterMap (·.frame)) g' g2 → Fr g2 L2 h2 m2 → News g2 L2 h2 n2 → ((v = .none ∧ Xp) ∨ (DatIn n2 v (frameDat code prec height width cs) ∧ frameOk code prec height width cs)) → (∀ p ∈ rest, p ∈ n2) → TabMade 362 238 21 qFT ps rest n2 → Q v { s with heap := h2, toks := tk2 } :=
    fun v g2 L2 m2 h2 tk2 n2 TT F2 N2 r1 r2 r3 => by
      obtain ⟨h₂, u1, u2, u3, u4⟩ := BK' _ _ _ _ _ TT F2 N2
      exact hret _ _ _ _ h₂ u1 u2 u3 u4 (XB.keeps u4.stays) (TB.keeps u4.stays) (D.turn u1) ⟨r1, r2, r3⟩
  clear hret BK'
  rcases hps with rfl | ⟨c0, oc0, vs0, t0, rfl, hc0, hd0, hv0⟩
  all_goals (
    k_steps
    · intro mean2 mg2 mb2 dp2 un2 gd2 cn2 cs2 a2 ccd2 cl2 outer2 A2 base2 h2 L2 m2 s2 Q2 E2 X2 B2 F2 N2 T2 hk2 hd2 hu2 hret2 hexc2
      refine wpAny_call ?_
      k_dflt (refine' kla_code ?k1 ?k2 ?k3 ?k4 ?k5 ?kA ?kF ?kK ?k6 ?k7 ?k8 ?k9 ?kB ?_ ?c2 ?c3 ?c4 ?c5; (case kA => exact rfl); (case kF => exact rfl); (case kK => assumption); (case k1 => k_asm); (case k2 => k_asm); (case k3 => k_asm); (case k4 => k_asm); (case k5 => k_asm); (case k6 => (k_extra "mem_go")); (case k7 => exact codeRec_news (by k_asm) (by (k_extra "mem_go")) (by assumption) (by assumption)); (case k8 => ktr_room); (case k9 => exact rfl); (case c5 => decide); (case kB => exact locs rfl); (case c2 => exact rfl); (case c3 => exact rfl); (case c4 => exact rfl); k_whole; intro g' L' h' FG' F' N' B' X' T'; (try dsimp only); (try k_fold))
      k_steps
      · exact hret2 _ _ _ _ (by k_asm) (by k_asm) r'
      · exact hexc2 e3' _ _ _ _ _ _ (by k_asm) (by assumption) (by assumption)
    · have hl1 := q5.length
      refine LCg.CompSrc.ledger (by rfl) (by k_asm) (by k_asm) (by (k_extra "mem_go")) (by rw [List.size_toArray, sizeLine_eq]; omega) ?_
      intro g
      refine comp_ind (n₀ := refs1.toArray.size) (fun i ys n => (∀ p ∈ n', p ∈ n) ∧ DatAll n ys ((cs.take i).map compDat)) ?_ ?_ _ 0 [] n' (Nat.zero_add _) ⟨fun _ h => h, DatAll.nil⟩ (Or.inr ⟨_, q4, rfl, _, rfl⟩)
      · rintro i ys n hi ⟨hJ, hDa⟩ hS v I oI C oC Dl m₂ h' tk' E' hv hC2 hx2 F3 N3 hoff hne
        obtain ⟨c1, hc1, y, dy, oy, rfl, hy, hdy, k1', k2', k3', k4', t1', t2', t3', t4', rfl⟩ := q5.get (by simpa using hv)
        have hy' := hJ _ hy
        have hdy' := hJ _ hdy
        k_steps
        refine LCg.CompEnd.intro (by k_asm) (by k_asm) (_ :: n) (sub_cons (.tail _ (.head _)) (sub_cons (.tail _ (.tail _ (.head _))) (sub_cons (.tail _ (.tail _ (.tail _ (.head _)))) (sub_cons (.head _) fun p hp => .tail _ (.tail _ (.tail _ (.tail _ hp))))))) ⟨⟨by omega, by omega, by omega⟩, hoff⟩ (srcAt_mono (fun p hp => .tail _ hp) hS) ⟨fun p hp => .tail _ (hJ p hp), ?_⟩
        rw [List.take_add_one, hc1, List.map_append]
        exact (hDa.mono fun p hp => .tail _ hp).append (DatAll.one (comp_dat (.head _)))
      · rintro ys n ⟨hJ, hDa⟩ hS
        rw [List.take_of_length_le (by rw [List.size_toArray]; omega)] at hDa
        have q1' := hJ _ q1
        have q2' := hJ _ q2
        k_steps
        show Q _ _
        exact fin _ _ _ _ _ _ _ TT' (by k_asm) (by k_asm) (.inr ⟨frame_dat (.head _) (.tail _ (.head _)) (hDa.mono fun p hp => .tail _ (.tail _ hp)), hok⟩) (fun p hp => .tail _ (.tail _ (hJ _ (hsub _ (by (k_extra "mem_go")))))) ⟨_, _, _, _, .tail _ (.tail _ (hJ _ (hsub _ (by (k_extra "mem_go"))))), .tail _ (.tail _ (hJ _ (hsub _ (by (k_extra "mem_go"))))), by assumption, by assumption, by first | (intro _; rename ∀ q ∈ (_, _) :: (_, _) :: (362, _) :: rest, _ => lR; exact fun q hq => lR q (.tail _ (.tail _ hq))) | (intro h; simp at h)⟩
    · show Q _ _
      exact fin _ _ _ _ _ _ _ TT' (by k_asm) (by k_asm) (.inl ⟨rfl, hXp⟩) (fun p hp => by (k_extra "mem_go")) ⟨_, _, _, _, by (k_extra "mem_go"), by (k_extra "mem_go"), by assumption, by assumption, by first | (intro _; rename ∀ q ∈ (_, _) :: (_, _) :: (362, _) :: rest, _ => lR; exact fun q hq => lR q (.tail _ (.tail _ hq))) | (intro h; simp at h)⟩)
theorem tab_k {P line col : Nat} {q : Str} {ps : Array Value} {rest : Led} {Xp ok : Prop} {d : Dat} : ∀ φ : Value → Led → Prop, ((Xp → ∀ n c oc vs t, (∀ p ∈ rest, p ∈ n) → (P, tabObj (#[] ++ #[rawInt (line : Int), rawInt (col : Int), Value.ref c])) ∈ n → (c, oc) ∈ n → oc.data = .fields vs → vs[1]? = some (.str q t) → (ps = #[] → ∀ p ∈ (P, tabObj ps) :: rest, @LT.lt Nat _ p.1 c) → φ .none n) ∧
    (∀ v n c oc vs t, DatIn n v d → ok → (∀ p ∈ rest, p ∈ n) → (P, tabObj (#[] ++ #[rawInt (line : Int), rawInt (col : Int), Value.ref c])) ∈ n → (c, oc) ∈ n → oc.data = .fields vs → vs[1]? = some (.str q t) → (ps = #[] → ∀ p ∈ (P, tabObj ps) :: rest, @LT.lt Nat _ p.1 c) → φ v n)) → ∀ v n, (((v = .none ∧ Xp) ∨ (DatIn n v d ∧ ok)) ∧ (∀ p ∈ rest, p ∈ n) ∧ TabMade P line col q ps rest n) → φ v n := fun φ h v n r => by
  obtain ⟨⟨rfl, hX⟩ | ⟨hd, hok⟩, hs, c, oc, vs, t, m1, m2, m3, m4, m5⟩ := r
  · exact h.1 hX n c oc vs t hs m1 m2 m3 m4 m5
  · exact h.2 v n c oc vs t hd hok hs m1 m2 m3 m4 m5
-- part V2
theorem wsV2_0 : True := by
  w_top off
  k_with_none
  k_with "ktr_room" => first | exact room1 (by assumption) | exact room3 (by assumption) (Nat.le_of_ble_eq_true rfl) | exact room2 (by assumption) (Nat.le_of_ble_eq_true rfl)
  k_with "ktr_units" => first | exact unit3 (by assumption) (Nat.le_of_ble_eq_true rfl) | exact unit2 (by assumption) (Nat.le_of_ble_eq_true rfl)
  k_with "callWith ref" => (k_here; k_dflt (refine' callWith_K ?cwA ?cwB ?_; (case cwA => k_asm); (case cwB => k_is); k_whole))
  k_with "omega" => first | decide | with_reducible assumption | exact Int.lt_of_le_of_lt (by with_reducible assumption) (by decide) | exact Int.lt_of_lt_of_le (by with_reducible assumption) (by decide) | exact Int.le_trans (by with_reducible assumption) (by decide) | exact lo_tr (by with_reducible assumption) (by decide) | exact lo_le (by with_reducible assumption) (by decide) | exact Nat.le_trans (by with_reducible assumption) (by decide) | exact Nat.lt_of_le_of_lt (by with_reducible assumption) (by decide) | lia
  k_with "k_ne" => (refine neN ?_; (try dsimp only); first | decide | with_reducible assumption | exact Ne.symm (by with_reducible assumption) | (refine Nat.ne_of_gt ?_; (first | with_reducible assumption | exact at1 (by with_reducible assumption) | exact at2 (by with_reducible assumption) | exact at3 (by with_reducible assumption) | exact at4 (by with_reducible assumption) | exact at5 (by with_reducible assumption) | exact at6 (by with_reducible assumption) | exact at7 (by with_reducible assumption) | exact at8 (by with_reducible assumption) | exact up1 (by with_reducible assumption) | exact up2 (by with_reducible assumption) | exact up2 (at1 (by with_reducible assumption)) | exact up2 (at2 (by with_reducible assumption)) | exact up2 (at3 (by with_reducible assumption)) | exact up2 (at4 (by with_reducible assumption)) | exact up1 (at1 (by with_reducible assumption)) | exact up1 (at2 (by with_reducible assumption)) | exact up1 (at3 (by with_reducible assumption)) | exact up1 (at4 (by with_reducible assumption)))) | (refine Nat.ne_of_lt ?_; (first | with_reducible assumption | exact at1 (by with_reducible assumption) | exact at2 (by with_reducible assumption) | exact at3 (by with_reducible assumption) | exact at4 (by with_reducible assumption) | exact at5 (by with_reducible assumption) | exact at6 (by with_reducible assumption) | exact at7 (by with_reducible assumption) | exact at8 (by with_reducible assumption) | exact up1 (by with_reducible assumption) | exact up2 (by with_reducible assumption) | exact up2 (at1 (by with_reducible assumption)) | exact up2 (at2 (by with_reducible assumption)) | exact up2 (at3 (by with_reducible assumption)) | exact up2 (at4 (by with_reducible assumption)) | exact up1 (at1 (by with_reducible assumption)) | exact up1 (at2 (by with_reducible assumption)) | exact up1 (at3 (by with_reducible assumption)) | exact up1 (at4 (by with_reducible assumption)))) | omega)
  k_with "mem_go" => first | with_reducible assumption | exact List.Mem.head _ | (refine List.mem_cons_of_mem _ ?_; (k_extra "mem_go"))
  k_with "sub_go" => first | exact fun _ h => h | exact sub_nil | (refine sub_cons ?hSub ?_; (case hSub => (k_extra "mem_go")); (k_extra "sub_go")) | ((fail_if_success (refine sub_cons ?_ ?_)); refine sub_drop ?_; (k_extra "sub_go")) | with_reducible assumption
  k_with "off_go" => first | exact off_nil | with_reducible assumption | (refine off_cons ?hOff ?_; (case hOff => k_ne); (k_extra "off_go")) | exact off_old (by with_reducible assumption) (by (k_extra "sub_go")) | exact off_sub (by with_reducible assumption) (by (k_extra "sub_go"))
  k_with "k_mem" => (k_extra "mem_go")
  k_with "k_all" => (k_extra "off_go")
  trivial
noncomputable def qST : Str := (Str.ofString "_law_scan_told" ++ ".<locals>.") ++ "<lambda>"
theorem ints_dat {n : Led} {l : Addr} {k : Nat} {vs : List Value} {ns : List Int} (hm : (l, listOf vs.toArray k) ∈ n) (hI : IntsAre vs ns) : DatIn n (.ref l) (intsDat ns) := .list hm (ints_datAll hI)
theorem scan_dat {n : Led} {x l1 l2 l3 : Addr} {k : Nat} {n1 n2 n3 : List Int} {st en hi lo : Int} {t1 t2 t3 t4 : Tok} (hm : (x, listOf [.ref l1, .ref l2, .ref l3, .int st t1, .int en t2, .int hi t3, .int lo t4].toArray k) ∈ n) (h1 : DatIn n (.ref l1) (intsDat n1)) (h2 : DatIn n (.ref l2) (intsDat n2)) (h3 : DatIn n (.ref l3) (intsDat n3)) : DatIn n (.ref x) (scanDat n1 n2 n3 st en hi lo) :=
  .list hm (.cons h1 (.cons h2 (.cons h3 (.cons (.int _ _) (.cons (.int _ _) (.cons (.int _ _) (.cons (.int _ _) .nil)))))))
theorem wsV2_1 : True := by
  w_top off
  k_with_none
  k_with "ktr_room" => first | exact room1 (by assumption) | exact room3 (by assumption) (Nat.le_of_ble_eq_true rfl) | exact room2 (by assumption) (Nat.le_of_ble_eq_true rfl)
  k_with "ktr_units" => first | exact unit3 (by assumption) (Nat.le_of_ble_eq_true rfl) | exact unit2 (by assumption) (Nat.le_of_ble_eq_true rfl)
  k_with "callWith ref" => (k_here; k_dflt (refine' callWith_K ?cwA ?cwB ?_; (case cwA => k_asm); (case cwB => k_is); k_whole))
  k_with "omega" => first | decide | with_reducible assumption | exact Int.lt_of_le_of_lt (by with_reducible assumption) (by decide) | exact Int.lt_of_lt_of_le (by with_reducible assumption) (by decide) | exact Int.le_trans (by with_reducible assumption) (by decide) | exact lo_tr (by with_reducible assumption) (by decide) | exact lo_le (by with_reducible assumption) (by decide) | exact Nat.le_trans (by with_reducible assumption) (by decide) | exact Nat.lt_of_le_of_lt (by with_reducible assumption) (by decide) | lia
  k_with "k_ne" => (refine neN ?_; (try dsimp only); first | decide | with_reducible assumption | exact Ne.symm (by with_reducible assumption) | (refine Nat.ne_of_gt ?_; (first | with_reducible assumption | exact at1 (by with_reducible assumption) | exact at2 (by with_reducible assumption) | exact at3 (by with_reducible assumption) | exact at4 (by with_reducible assumption) | exact at5 (by with_reducible assumption) | exact at6 (by with_reducible assumption) | exact at7 (by with_reducible assumption) | exact at8 (by with_reducible assumption) | exact up1 (by with_reducible assumption) | exact up2 (by with_reducible assumption) | exact up2 (at1 (by with_reducible assumption)) | exact up2 (at2 (by with_reducible assumption)) | exact up2 (at3 (by with_reducible assumption)) | exact up2 (at4 (by with_reducible assumption)) | exact up1 (at1 (by with_reducible assumption)) | exact up1 (at2 (by with_reducible assumption)) | exact up1 (at3 (by with_reducible assumption)) | exact up1 (at4 (by with_reducible assumption)))) | (refine Nat.ne_of_lt ?_; (first | with_reducible assumption | exact at1 (by with_reducible assumption) | exact at2 (by with_reducible assumption) | exact at3 (by with_reducible assumption) | exact at4 (by with_reducible assumption) | exact at5 (by with_reducible assumption) | exact at6 (by with_reducible assumption) | exact at7 (by with_reducible assumption) | exact at8 (by with_reducible assumption) | exact up1 (by with_reducible assumption) | exact up2 (by with_reducible assumption) | exact up2 (at1 (by with_reducible assumption)) | exact up2 (at2 (by with_reducible assumption)) | exact up2 (at3 (by with_reducible assumption)) | exact up2 (at4 (by with_reducible assumption)) | exact up1 (at1 (by with_reducible assumption)) | exact up1 (at2 (by with_reducible assumption)) | exact up1 (at3 (by with_reducible assumption)) | exact up1 (at4 (by with_reducible assumption)))) | omega)
  k_with "mem_go" => first | with_reducible assumption | exact List.Mem.head _ | (refine List.mem_cons_of_mem _ ?_; (k_extra "mem_go"))
  k_with "sub_go" => first | exact fun _ h => h | exact sub_nil | (refine sub_cons ?hSub ?_; (case hSub => (k_extra "mem_go")); (k_extra "sub_go")) | ((fail_if_success (refine sub_cons ?_ ?_)); refine sub_drop ?_; (k_extra "sub_go")) | with_reducible assumption
  k_with "off_go" => first | exact off_nil | with_reducible assumption | (refine off_cons ?hOff ?_; (case hOff => k_ne); (k_extra "off_go")) | exact off_old (by with_reducible assumption) (by (k_extra "sub_go")) | exact off_sub (by with_reducible assumption) (by (k_extra "sub_go"))
  k_with "k_mem" => (k_extra "mem_go")
  k_with "k_all" => (k_extra "off_go")
  k_with "call ref" => (k_here; (with_reducible refine (?_ : wpAny _ _ (call (Value.ref 360) _) _ _ _)); k_dflt (refine CtTK.run (by k_asm) (by k_asm) ((told_read (R := ScR w.params n1 n2 n3 st en hi lo) (X := Xp) (by (k_extra "mem_go")) ?_).k toldSc_k) (by k_asm) (by k_asm) (by k_asm) (by k_asm) (by k_asm) (by first | k_asm | exact ktsDicts_nil) (by first | rfl | assumption) (by ktr_room) (by ktr_units) ⟨fun n' x1 dx1 k1 k2 k3 k4 k5 k6 k7 t1 t2 t3 t4 i1 i2 i3 v1 v2 v3 c1 c2 c3 q1 q2 q4 q5 q6 w1 w2 w3 hsub hok h' tk' h₁' TT' F' N' B' X' T' D' => ?_, fun hXp h' tk' h₁' TT' F' N' B' X' T' D' => ?_⟩))
  k_with "call ref" => (k_here; (with_reducible refine (?_ : wpAny _ _ (call (Value.ref 264) _) _ _ _)); k_dflt (refine Ct.run (by k_asm) (by k_asm) (HR _) (by k_asm) (by k_asm) (by k_asm) (by first | rfl | assumption) (by ktr_room) (by ktr_units) ?_ ?_))
  k_with "RetP" => (unfold RetP; intro v' n' h' tk' F' N' r')
  k_with "ExcP" => (unfold ExcP; intro e3' e' t' vs' g' h' tk' Fg' U' R')
  k_with "leaving ref" => (k_here; refine leave_onX rfl (by k_asm) (by assumption) (by assumption) (by assumption) ?_; intro h' R' U'; (try dsimp only at R' U'))
  trivial
set_option maxRecDepth 100000 in
set_option maxHeartbeats 8000000 in
theorem scanTold_ct {w : World} {n1 n2 n3 : List Int} {st en hi lo : Int} {b : Array UInt8} {tb : Tok} {ps : Array Value} {rest : Led} {Xp : Prop} (h1 : ∀ p ∈ rest, p.1 ≠ 391) (hps : Tab 276 21 qST ps rest)
    (HR : ∀ n, Ct w 264 [.bytes b tb] n 28 260 (ScR w.params n1 n2 n3 st en hi lo n) Xp) :
    CtT w 396 [.bytes b tb] ((391, tabObj ps) :: rest) 40 440 (fun v news' => ((v = .none ∧ Xp) ∨ (DatIn news' v (scanDat n1 n2 n3 st en hi lo) ∧ scanOk n1 n2 n3 st en hi lo)) ∧ (∀ p ∈ rest, p ∈ news') ∧ TabMade 391 276 21 qST ps rest news') := by
  intro mean mg mb dp un gd cn csc a ccd cl outer A₀ base h₀ L m s Q E X₀ B F N T XB TB D hk hd hu hret
  refine wpAny_call ?_
  k_dflt (refine' enterC ?k1 ?k2 ?k3 ?k4 ?k5 ?kD ?kA ?kF ?kK ?k6 ?k7 ?k8 ?k9 ?kB ?kN ?_ ?c2 ?c3 ?c4; (case kA => exact rfl); (case kF => exact rfl); (case kK => assumption); (case k1 => k_asm); (case k2 => k_asm); (case k3 => k_asm); (case k4 => k_asm); (case k5 => k_asm); (case kD => k_asm); (case k6 => k_is); (case k7 => k_is); (case k8 => ktr_room); (case k9 => exact BindsTo.of_eq rfl); (case kB => exact kindsX rfl); (case kN => decide +kernel); (case c2 => exact rfl); (case c3 => exact rfl); (case c4 => exact rfl); k_whole; intro g' L' h' tk' cells' BK' F' N' Y' l1 B' X' T' D'; (try k_lt l1); (first | (obtain ⟨oc1, hE', dc1⟩ := CellsAre.one Y'; subst hE'; clear Y') | (obtain ⟨oc1, oc2, hE', dc1, dc2⟩ := CellsAre.two Y'; subst hE'; clear Y')); (try simp only [List.cons_append, List.nil_append] at N'); (try dsimp only); (try k_fold))
  have cX := codeHd_of_K (c := 395) (P := 391) X' (by kernel_rfl)
  have fin : ∀ v g2 L2 m2 h2 tk2 n2', KtsTurn ((envX cn csc L a ccd cl :: outer).filterMap (·.frame)) g' g2 → Fr g2 L2 h2 m2 → News g2 L2 h2 n2' → ((v = .none ∧ Xp) ∨ (DatIn n2' v (scanDat n1 n2 n3 st en hi lo) ∧ scanOk n1 n2 n3 st en hi lo)) → (∀ p ∈ rest, p ∈ n2') → TabMade 391 276 21 qST ps rest n2' → Q v { s with heap := h2, toks := tk2 } :=
    fun v g2 L2 m2 h2 tk2 n2' TT F2 N2 r1 r2 r3 => by
      obtain ⟨h₂, u1, u2, u3, u4⟩ := BK' _ _ _ _ _ TT F2 N2
      exact hret _ _ _ _ h₂ u1 u2 u3 u4 (XB.keeps u4.stays) (TB.keeps u4.stays) (D.turn u1) ⟨r1, r2, r3⟩
  clear hret BK'
  rcases hps with rfl | ⟨c0, oc0, vs0, t0, rfl, hc0, hd0, hv0⟩
  all_goals (
    k_steps
    · intro mean2 mg2 mb2 dp2 un2 gd2 cn2 cs2 a2 ccd2 cl2 outer2 A2 base2 h2 L2 m2 s2 Q2 E2 X2 B2 F2 N2 T2 hk2 hd2 hu2 hret2 hexc2
      refine wpAny_call ?_
      k_dflt (refine' kla_code ?k1 ?k2 ?k3 ?k4 ?k5 ?kA ?kF ?kK ?k6 ?k7 ?k8 ?k9 ?kB ?_ ?c2 ?c3 ?c4 ?c5; (case kA => exact rfl); (case kF => exact rfl); (case kK => assumption); (case k1 => k_asm); (case k2 => k_asm); (case k3 => k_asm); (case k4 => k_asm); (case k5 => k_asm); (case k6 => (k_extra "mem_go")); (case k7 => exact codeRec_news (by k_asm) (by (k_extra "mem_go")) (by assumption) (by assumption)); (case k8 => ktr_room); (case k9 => exact rfl); (case c5 => decide); (case kB => exact locs rfl); (case c2 => exact rfl); (case c3 => exact rfl); (case c4 => exact rfl); k_whole; intro g' L' h' FG' F' N' B' X' T'; (try dsimp only); (try k_fold))
      k_steps
      · exact hret2 _ _ _ _ (by k_asm) (by k_asm) r'
      · exact hexc2 e3' _ _ _ _ _ _ (by k_asm) (by assumption) (by assumption)
    · show Q _ _
      exact fin _ _ _ _ _ _ _ TT' (by k_asm) (by k_asm) (.inr ⟨scan_dat (.head _) (ints_dat (.tail _ q4) w1) (ints_dat (.tail _ q5) w2) (ints_dat (.tail _ q6) w3), hok⟩) (fun p hp => .tail _ (hsub _ (by (k_extra "mem_go")))) ⟨_, _, _, _, .tail _ (hsub _ (by (k_extra "mem_go"))), .tail _ (hsub _ (by (k_extra "mem_go"))), by assumption, by assumption, by first | (intro _; rename ∀ q ∈ (_, _) :: (391, _) :: rest, _ => lR; exact fun q hq => lR q (.tail _ hq)) | (intro h; simp at h)⟩
    · show Q _ _
      exact fin _ _ _ _ _ _ _ TT' (by k_asm) (by k_asm) (.inl ⟨rfl, hXp⟩) (fun p hp => by (k_extra "mem_go")) ⟨_, _, _, _, by (k_extra "mem_go"), by (k_extra "mem_go"), by assumption, by assumption, by first | (intro _; rename ∀ q ∈ (_, _) :: (391, _) :: rest, _ => lR; exact fun q hq => lR q (.tail _ hq)) | (intro h; simp at h)⟩)
-- part W1
theorem wsW1_0 : True := by
  w_top off
  k_with_none
  k_with "ktr_room" => first | exact room1 (by assumption) | exact room3 (by assumption) (Nat.le_of_ble_eq_true rfl) | exact room2 (by assumption) (Nat.le_of_ble_eq_true rfl)
  k_with "ktr_units" => first | exact unit3 (by assumption) (Nat.le_of_ble_eq_true rfl) | exact unit2 (by assumption) (Nat.le_of_ble_eq_true rfl)
  k_with "callWith ref" => (k_here; k_dflt (refine' callWith_K ?cwA ?cwB ?_; (case cwA => k_asm); (case cwB => k_is); k_whole))
  k_with "omega" => first | decide | with_reducible assumption | exact Int.lt_of_le_of_lt (by with_reducible assumption) (by decide) | exact Int.lt_of_lt_of_le (by with_reducible assumption) (by decide) | exact Int.le_trans (by with_reducible assumption) (by decide) | exact lo_tr (by with_reducible assumption) (by decide) | exact lo_le (by with_reducible assumption) (by decide) | exact Nat.le_trans (by with_reducible assumption) (by decide) | exact Nat.lt_of_le_of_lt (by with_reducible assumption) (by decide) | lia
  k_with "k_ne" => (refine neN ?_; (try dsimp only); first | decide | with_reducible assumption | exact Ne.symm (by with_reducible assumption) | (refine Nat.ne_of_gt ?_; (first | with_reducible assumption | exact at1 (by with_reducible assumption) | exact at2 (by with_reducible assumption) | exact at3 (by with_reducible assumption) | exact at4 (by with_reducible assumption) | exact at5 (by with_reducible assumption) | exact at6 (by with_reducible assumption) | exact at7 (by with_reducible assumption) | exact at8 (by with_reducible assumption) | exact up1 (by with_reducible assumption) | exact up2 (by with_reducible assumption) | exact up2 (at1 (by with_reducible assumption)) | exact up2 (at2 (by with_reducible assumption)) | exact up2 (at3 (by with_reducible assumption)) | exact up2 (at4 (by with_reducible assumption)) | exact up1 (at1 (by with_reducible assumption)) | exact up1 (at2 (by with_reducible assumption)) | exact up1 (at3 (by with_reducible assumption)) | exact up1 (at4 (by with_reducible assumption)))) | (refine Nat.ne_of_lt ?_; (first | with_reducible assumption | exact at1 (by with_reducible assumption) | exact at2 (by with_reducible assumption) | exact at3 (by with_reducible assumption) | exact at4 (by with_reducible assumption) | exact at5 (by with_reducible assumption) | exact at6 (by with_reducible assumption) | exact at7 (by with_reducible assumption) | exact at8 (by with_reducible assumption) | exact up1 (by with_reducible assumption) | exact up2 (by with_reducible assumption) | exact up2 (at1 (by with_reducible assumption)) | exact up2 (at2 (by with_reducible assumption)) | exact up2 (at3 (by with_reducible assumption)) | exact up2 (at4 (by with_reducible assumption)) | exact up1 (at1 (by with_reducible assumption)) | exact up1 (at2 (by with_reducible assumption)) | exact up1 (at3 (by with_reducible assumption)) | exact up1 (at4 (by with_reducible assumption)))) | omega)
  k_with "mem_go" => first | with_reducible assumption | exact List.Mem.head _ | (refine List.mem_cons_of_mem _ ?_; (k_extra "mem_go"))
  k_with "sub_go" => first | exact fun _ h => h | exact sub_nil | (refine sub_cons ?hSub ?_; (case hSub => (k_extra "mem_go")); (k_extra "sub_go")) | ((fail_if_success (refine sub_cons ?_ ?_)); refine sub_drop ?_; (k_extra "sub_go")) | with_reducible assumption
  k_with "off_go" => first | exact off_nil | with_reducible assumption | (refine off_cons ?hOff ?_; (case hOff => k_ne); (k_extra "off_go")) | exact off_old (by with_reducible assumption) (by (k_extra "sub_go")) | exact off_sub (by with_reducible assumption) (by (k_extra "sub_go"))
  k_with "k_mem" => (k_extra "mem_go")
  k_with "k_all" => (k_extra "off_go")
  trivial
open Classical in
theorem dat_same {prog : Program} {w : World} {A : Around} {E : Value → Shared → Prop} {s : Shared} {h₀ : Heap} {L : Addr} {news n₁ n₂ : Led} {v₁ v₂ : Value} {d : Dat} {Q : Value → Shared → Prop} (N : News h₀ L s.heap news) (D₁ : DatIn n₁ v₁ d) (s₁ : ∀ p ∈ n₁, p ∈ news) (D₂ : DatIn n₂ v₂ d) (s₂ : ∀ p ∈ n₂, p ∈ news)
    (o : kqdOk 8 d = true) (hu : A.units + 64 < cLine) (h : Q (.bool false) s) : wpAny (model prog w) A (compareOp .NotEq v₁ v₂) Q E s :=
  dat_ne N D₁ s₁ D₂ s₂ o o hu (by rw [decide_eq_true rfl]; exact h)
theorem frameDat_ok {code prec height width : Int} {cs : List C4} : kqdOk 8 (frameDat code prec height width cs) = true := by
  simp [frameDat, compDat, kqdOk]
theorem scanDat_ok {n1 n2 n3 : List Int} {st en hi lo : Int} : kqdOk 8 (scanDat n1 n2 n3 st en hi lo) = true := by
  simp [scanDat, intsDat, kqdOk]
/-- an if that goes on behind, the ground turned within: one way behind it -/
noncomputable def TurnEnd (w : World) (mean : ExcName → Option Value) (mg mb : Str → Option Value) (fs : List Addr) (A₁ : Around) (base : Heap) (outer₁ : List Env) (g : Heap) (L : Addr) (m : Str → Option Value) (P : Led → Prop) (s : Shared) (f : Flow) (s' : Shared) : Prop :=
  f = .next ∧ ∃ g2 h' tk' n2, s' = { s with heap := h', toks := tk' } ∧ KtsTurn fs g g2 ∧ Fr g2 L h' m ∧ News g2 L h' n2 ∧ Below A₁ base outer₁ g2 ∧ (hd.heap_1 w.params).In g2 ∧ Top topProg Lo mean mg mb g2 ∧ KtsDicts fs g2 ∧ P n2
theorem turn_join {w : World} {mean : ExcName → Option Value} {mg mb : Str → Option Value} {A₁ : Around} {base : Heap} {outer₁ : List Env} {M : Model} {A : Around} {t : Sem Flow} {Q : Flow → Shared → Prop} {E : Value → Shared → Prop} {s : Shared} {g : Heap} {L : Addr} {m : Str → Option Value}
    (_F : Fr g L s.heap m) (_B : Below A₁ base outer₁ g) (_T : Top topProg Lo mean mg mb g) (fs : List Addr) (w' : World) (_e : w = w') (P : Led → Prop)
    (h : wpAny M A t (TurnEnd w mean mg mb fs A₁ base outer₁ g L m P s) E s)
    (k : ∀ g2 h' tk' n2, KtsTurn fs g g2 → Fr g2 L h' m → News g2 L h' n2 → Below A₁ base outer₁ g2 → (hd.heap_1 w.params).In g2 → Top topProg Lo mean mg mb g2 → KtsDicts fs g2 → P n2 → Q .next { s with heap := h', toks := tk' }) : wpAny M A t Q E s :=
  wpAny_mono h (fun f s' ⟨e, g2, h', tk', n2, e', a1, a2, a3, a4, a5, a6, a7, a8⟩ => by subst e e'; exact k g2 h' tk' n2 a1 a2 a3 a4 a5 a6 a7 a8) fun _ _ e => e
noncomputable abbrev ledW (c : Addr) (oc : Obj) (L : Addr) (o1 : Obj) (l : Addr) (o : Obj) (rest : Led) : Led := (362, tabObj (#[] ++ #[rawInt ((238 : Nat) : Int), rawInt ((21 : Nat) : Int), Value.ref c])) :: (c, oc) :: (L + 1, o1) :: (l, o) :: (367, tabObj #[]) :: rest
theorem off1_mem {D : Addr} : ∀ {n : Led}, LCg.Off1 D n → ∀ p ∈ n, @Ne Nat p.1 D
  | [], _, _, hp => nomatch hp
  | q :: r, h, p, hp => by
    rcases List.mem_cons.mp hp with rfl | hp
    · exact h.1
    · exact off1_mem h.2 p hp
theorem fh_led {a1 c9 L1 l a5 D dx : Addr} {o1 o2 o3 o4 o5 dl : Obj} {rest2 n : Led} (h : ∀ p ∈ (a1, o1) :: (c9, o2) :: (L1, o3) :: (l, o4) :: (a5, o5) :: rest2, p ∈ n) (hO : LCg.Off1 D n) (mR : ∀ p ∈ (D, dl) :: n, p.1 < dx) :
    (@LT.lt Nat _ a1 dx ∧ @LT.lt Nat _ c9 dx ∧ @LT.lt Nat _ L1 dx ∧ @LT.lt Nat _ l dx ∧ @LT.lt Nat _ a5 dx ∧ @LT.lt Nat _ D dx) ∧ (@Ne Nat a1 D ∧ @Ne Nat c9 D ∧ @Ne Nat L1 D ∧ @Ne Nat l D ∧ @Ne Nat a5 D) := by
  have q : ∀ p ∈ (a1, o1) :: (c9, o2) :: (L1, o3) :: (l, o4) :: (a5, o5) :: rest2, @LT.lt Nat _ p.1 dx := fun p hp => mR p (.tail _ (h p hp))
  have r : ∀ p ∈ (a1, o1) :: (c9, o2) :: (L1, o3) :: (l, o4) :: (a5, o5) :: rest2, @Ne Nat p.1 D := fun p hp => off1_mem hO p (h p hp)
  exact ⟨⟨q _ (.head _), q _ (.tail _ (.head _)), q _ (.tail _ (.tail _ (.head _))), q _ (.tail _ (.tail _ (.tail _ (.head _)))), q _ (.tail _ (.tail _ (.tail _ (.tail _ (.head _))))), mR _ (.head _)⟩, r _ (.head _), r _ (.tail _ (.head _)), r _ (.tail _ (.tail _ (.head _))), r _ (.tail _ (.tail _ (.tail _ (.head _)))), r _ (.tail _ (.tail _ (.tail _ (.tail _ (.head _)))))⟩
/-- an item of a list at a place within it: it is one of the items -/
theorem item_any {prog : Program} {w : World} {A : Around} {E : Value → Shared → Prop} {s : Shared} {h₀ : Heap} {L : Addr} {news : Led} {value slice : PySem.Expr} {l : Addr} {vs : List Value} {c : Nat} {k : Int} {u : Tok} {Q : Value → Shared → Prop} (N : News h₀ L s.heap news) (hm : (l, listOf vs.toArray c) ∈ news) (h0 : 0 ≤ k) (h1 : k.toNat < vs.length) (h2 : vs.length ≤ 1000)
    (hs : subscripted slice false (.ref l) (.int k u) = operate [.ref l, .int k u] (getItem (.ref l) (.int k u))) (h : ∀ v ∈ vs, Q v s) :
    wpAny (model prog w) A (subscriptTail value slice (.ref l) (.int k u)) Q E s :=
  item_news N hm h0 (by omega) (List.getElem?_eq_getElem h1) hs (h _ (List.getElem_mem h1))
noncomputable def wrongOct (ns : List Int) : Prop := ns.length ≤ 100 ∧ ¬ (6 ≤ ns.length ∧ (ns.length : Int) = 6 + 3 * ns.getD 5 0)
theorem wrong_nil : wrongOct [] := ⟨by simp, by simp⟩
theorem wrong_more {prec height width : Int} {cs : List C4} (h4 : cs.length ≤ 4) : wrongOct (frameOct prec height width cs ++ [0]) := by
  have e := frameOct_len (prec := prec) (height := height) (width := width) (cs := cs)
  refine ⟨by rw [List.length_append, e]; simp; omega, fun h => ?_⟩
  have h2 := h.2
  have h3 : (frameOct prec height width cs ++ [0]).getD 5 0 = (cs.length : Int) := rfl
  rw [h3, List.length_append, e] at h2
  simp at h2
  omega
theorem wrong_less {prec height width : Int} {cs : List C4} (h4 : cs.length ≤ 4) : wrongOct ((frameOct prec height width cs).take (6 + 3 * cs.length - 1)) := by
  have e := frameOct_len (prec := prec) (height := height) (width := width) (cs := cs)
  have e2 : ((frameOct prec height width cs).take (6 + 3 * cs.length - 1)).length = 5 + 3 * cs.length := by rw [List.length_take, e]; omega
  refine ⟨by omega, fun h => ?_⟩
  have h1 := h.1
  have h2 := h.2
  rw [e2] at h1 h2
  have h3 : ((frameOct prec height width cs).take (6 + 3 * cs.length - 1)).getD 5 0 = (cs.length : Int) := by
    rw [List.getD_eq_getElem?_getD, List.getElem?_take_of_lt (by omega)]
    rfl
  rw [h3] at h2
  omega
theorem clip_neg {n : Nat} (h : 1 ≤ n) : clipAt n (-1) = n - 1 := by
  unfold clipAt; simp; omega
theorem pick_less {x : Array UInt8} {prec height width : Int} {cs : List C4} (h : KBw.bInts x = ((frameOct prec height width cs).drop ((none : Option Int).elim 0 (clipAt (frameOct prec height width cs).length))).take ((some (-1 : Int)).elim (frameOct prec height width cs).length (clipAt (frameOct prec height width cs).length) - (none : Option Int).elim 0 (clipAt (frameOct prec height width cs).length))) : KBw.bInts x = (frameOct prec height width cs).take (6 + 3 * cs.length - 1) := by
  rw [h]
  show ((frameOct prec height width cs).drop 0).take (clipAt (frameOct prec height width cs).length (-1) - 0) = _
  rw [List.drop_zero, Nat.sub_zero, clip_neg (by rw [frameOct_len]; omega), frameOct_len]
theorem wrong_of {x y : Array UInt8} {u1 u2 u3 : Tok} {prec height width : Int} {cs : List C4} {v : Value} (h4 : cs.length ≤ 4) (hx : KBw.bInts x = (frameOct prec height width cs).take (6 + 3 * cs.length - 1)) (hy : KBw.bInts y = frameOct prec height width cs ++ [0]) (hv : v ∈ [Value.bytes x u1, Value.bytes y u2, Value.bytes #[] u3]) : ∃ wb tw, v = .bytes wb tw ∧ wrongOct (KBw.bInts wb) := by
  rcases List.mem_cons.mp hv with rfl | hv
  · exact ⟨_, _, rfl, by rw [hx]; exact wrong_less h4⟩
  rcases List.mem_cons.mp hv with rfl | hv
  · exact ⟨_, _, rfl, by rw [hy]; exact wrong_more h4⟩
  rw [List.mem_singleton.mp hv]
  exact ⟨_, _, rfl, wrong_nil⟩
/-- what write_frame hands on -/
noncomputable def WrR (code prec height width : Int) (cs : List C4) (news : Led) (v : Value) (news' : Led) : Prop := (∃ b t, v = .bytes b t ∧ KBw.bInts b = frameOct prec height width cs) ∧ news' = news ∧ frameOk code prec height width cs
theorem Ct.more {w : World} {f : Addr} {vs : List Value} {news : Led} {d u d' u' : Nat} {R : Value → Led → Prop} {X : Prop} (C : Ct w f vs news d u R X) (h1 : d ≤ d') (h2 : u ≤ u') : Ct w f vs news d' u' R X :=
  fun mean mg mb dp un gd cn cs a ccd cl outer A₀ base h₀ L m s Q E X₀ B F N T hk hd hu => C mean mg mb dp un gd cn cs a ccd cl outer A₀ base h₀ L m s Q E X₀ B F N T hk (by omega) (by omega)
theorem u8_inj : ∀ {a b : List UInt8}, (a.map fun c => (c.toNat : Int)) = (b.map fun c => (c.toNat : Int)) → a = b
  | [], [], _ => rfl
  | [], _ :: _, h => by simp at h
  | _ :: _, [], h => by simp at h
  | x :: a, y :: b, h => by
    rw [List.map_cons, List.map_cons] at h
    have h1 := (List.cons.inj h).1
    rw [u8_inj (List.cons.inj h).2, UInt8.toNat_inj.mp (show x.toNat = y.toNat by omega)]
theorem bl_ne {a b : Array UInt8} {ns : List Int} (h1 : KBw.bInts a = ns) (h2 : KBw.bInts b = ns) : (a.toList != b.toList) = false := by
  have e : a.toList = b.toList := u8_inj (h1.trans h2.symm)
  rw [e]
  exact bne_self_eq_false _
theorem wsW1_1 : True := by
  w_top off
  k_with_none
  k_with "ktr_room" => first | exact room1 (by assumption) | exact room3 (by assumption) (Nat.le_of_ble_eq_true rfl) | exact room2 (by assumption) (Nat.le_of_ble_eq_true rfl)
  k_with "ktr_units" => first | exact unit3 (by assumption) (Nat.le_of_ble_eq_true rfl) | exact unit2 (by assumption) (Nat.le_of_ble_eq_true rfl)
  k_with "callWith ref" => (k_here; k_dflt (refine' callWith_K ?cwA ?cwB ?_; (case cwA => k_asm); (case cwB => k_is); k_whole))
  k_with "omega" => first | decide | with_reducible assumption | exact Int.lt_of_le_of_lt (by with_reducible assumption) (by decide) | exact Int.lt_of_lt_of_le (by with_reducible assumption) (by decide) | exact Int.le_trans (by with_reducible assumption) (by decide) | exact lo_tr (by with_reducible assumption) (by decide) | exact lo_le (by with_reducible assumption) (by decide) | exact Nat.le_trans (by with_reducible assumption) (by decide) | exact Nat.lt_of_le_of_lt (by with_reducible assumption) (by decide) | lia
  k_with "k_ne" => (refine neN ?_; (try dsimp only); first | decide | with_reducible assumption | exact Ne.symm (by with_reducible assumption) | (refine Nat.ne_of_gt ?_; (first | with_reducible assumption | exact at1 (by with_reducible assumption) | exact at2 (by with_reducible assumption) | exact at3 (by with_reducible assumption) | exact at4 (by with_reducible assumption) | exact at5 (by with_reducible assumption) | exact at6 (by with_reducible assumption) | exact at7 (by with_reducible assumption) | exact at8 (by with_reducible assumption) | exact up1 (by with_reducible assumption) | exact up2 (by with_reducible assumption) | exact up2 (at1 (by with_reducible assumption)) | exact up2 (at2 (by with_reducible assumption)) | exact up2 (at3 (by with_reducible assumption)) | exact up2 (at4 (by with_reducible assumption)) | exact up1 (at1 (by with_reducible assumption)) | exact up1 (at2 (by with_reducible assumption)) | exact up1 (at3 (by with_reducible assumption)) | exact up1 (at4 (by with_reducible assumption)))) | (refine Nat.ne_of_lt ?_; (first | with_reducible assumption | exact at1 (by with_reducible assumption) | exact at2 (by with_reducible assumption) | exact at3 (by with_reducible assumption) | exact at4 (by with_reducible assumption) | exact at5 (by with_reducible assumption) | exact at6 (by with_reducible assumption) | exact at7 (by with_reducible assumption) | exact at8 (by with_reducible assumption) | exact up1 (by with_reducible assumption) | exact up2 (by with_reducible assumption) | exact up2 (at1 (by with_reducible assumption)) | exact up2 (at2 (by with_reducible assumption)) | exact up2 (at3 (by with_reducible assumption)) | exact up2 (at4 (by with_reducible assumption)) | exact up1 (at1 (by with_reducible assumption)) | exact up1 (at2 (by with_reducible assumption)) | exact up1 (at3 (by with_reducible assumption)) | exact up1 (at4 (by with_reducible assumption)))) | omega)
  k_with "mem_go" => first | with_reducible assumption | exact List.Mem.head _ | (refine List.mem_cons_of_mem _ ?_; (k_extra "mem_go"))
  k_with "sub_go" => first | exact fun _ h => h | exact sub_nil | (refine sub_cons ?hSub ?_; (case hSub => (k_extra "mem_go")); (k_extra "sub_go")) | ((fail_if_success (refine sub_cons ?_ ?_)); refine sub_drop ?_; (k_extra "sub_go")) | with_reducible assumption
  k_with "off_go" => first | exact off_nil | with_reducible assumption | (refine off_cons ?hOff ?_; (case hOff => k_ne); (k_extra "off_go")) | exact off_old (by with_reducible assumption) (by (k_extra "sub_go")) | exact off_sub (by with_reducible assumption) (by (k_extra "sub_go"))
  k_with "k_mem" => (k_extra "mem_go")
  k_with "k_all" => (k_extra "off_go")
  k_with "call ref" => (k_here; (with_reducible refine (?_ : wpAny _ _ (call (Value.ref 353) _) _ _ _)); k_dflt (refine CtK.run0 (by k_asm) (by k_asm) (lawFrameOctets_ck (hf.mono (by (k_extra "sub_go"))) hr) (by k_asm) (by k_asm) (by k_asm) (by first | rfl | assumption) (by ktr_room) (by ktr_units) (fun b1 t1' hb1 h' tk' F' N' => ?_)); ((try dsimp only at N')))
  k_with "call ref" => (k_here; (with_reducible refine (?_ : wpAny _ _ (call (Value.ref 346) _) _ _ _)); k_dflt (refine CtK.run0 (by k_asm) (by k_asm) (lawFrameRight_ck (hf.mono (by (k_extra "sub_go"))) hr hco) (by k_asm) (by k_asm) (by k_asm) (by first | rfl | assumption) (by ktr_room) (by ktr_units) (fun bb hbb h' tk' F' N' => ?_)); ((try dsimp only at N')))
  k_with "call ref" => (k_here; (with_reducible refine (?_ : wpAny _ _ (call (Value.ref 150) _) _ _ _)); k_dflt (refine CtK.run0 (by k_asm) (by k_asm) (newComp_ck) (by k_asm) (by k_asm) (by k_asm) (by first | rfl | assumption) (by ktr_room) (by ktr_units) (fun x2 dx2 o2 rd2 m12 m22 h' tk' F' N' => ?_)); ((try dsimp only at N'); have mR := m12; k_lt m12))
  k_with "call ref" => (k_here; (with_reducible refine (?_ : wpAny _ _ (call (Value.ref 171) _) _ _ _)); k_dflt (refine CtK.run0 (by k_asm) (by k_asm) (newFrame_ck) (by k_asm) (by k_asm) (by k_asm) (by first | rfl | assumption) (by ktr_room) (by ktr_units) (fun x2 dx2 o2 rd2 m12 m22 h' tk' F' N' => ?_)); ((try dsimp only at N'); have mR := m12; k_lt m12; have N' := news_sub N' (sub_cons (.head _) (sub_cons (.tail _ (.head _)) (sub_cons (.tail _ (.tail _ (.head _))) fun p hp => .tail _ (.tail _ (.tail _ (hNN2 p hp)))))); rename LCg.Off1 _ _ => hO1; obtain ⟨gR, gD⟩ := fh_led hNN2 hO1 mR))
  k_with "ExcP" => (unfold ExcP; intro e3'; first | exact e3'.elim | intro e' t' vs' g' h' tk' Fg' U' R')
  k_with "call ref" => (k_here; (with_reducible refine (?_ : wpAny _ _ (call (Value.ref 365) _) _ _ _)); (fail_if_success (have zz := hwb)); k_dflt (refine CtTK.run (by k_asm) (news_sub (l := (362, tabObj _) :: (L' + 1, _) :: (l, _) :: (367, tabObj _) :: rest) (by k_asm) (by (k_extra "sub_go"))) ((frameTold_ct (Xp := ¬ frameOk code prec height width cs) (by (k_extra "off_go")) (.inl rfl) (fun n => Ct.weaken (readFrame_ct hb1 h4 hc hh hw) (fun _ _ r => r) id) h4).k tab_k) (by k_asm) (by k_asm) (by k_asm) (by k_asm) (by k_asm) (by first | k_asm | exact ktsDicts_nil) (by first | rfl | assumption) (by ktr_room) (by ktr_units) ⟨fun hno n' c9 oc9 vs9 t9 hsub m9 mc9 dd9 dv9 lt9 h' tk' h₁' TT' F' Nf B' X' T' D' => ?_, fun v' n' c9 oc9 vs9 t9 hdat hok hsub m9 mc9 dd9 dv9 lt9 h' tk' h₁' TT' F' Nf B' X' T' D' => ?_⟩) <;> (have lt9 := lt9 rfl; have N' := news_sub Nf (sub_cons m9 (sub_cons mc9 fun p hp => hsub p hp))))
  k_with "call ref" => (k_here; (with_reducible refine (?_ : wpAny _ _ (call (Value.ref 360) _) _ _ _)); k_dflt (refine CtTK.run (by k_asm) (by k_asm) ((told_read (R := WrR code prec height width cs) (X := ¬ frameOk code prec height width cs) (by (k_extra "mem_go")) ?_).k toldBytes_k) (by k_asm) (by k_asm) (by k_asm) (by k_asm) (by k_asm) (by first | k_asm | exact ktsDicts_nil) (by first | rfl | assumption) (by ktr_room) (by ktr_units) ⟨fun b2 t2' hb2 hok h' tk' h₁' TT' F' N' B' X' T' D' => ?_, fun hno h' tk' h₁' TT' F' N' B' X' T' D' => ?_⟩))
  k_with "call ref" => (k_here; (with_reducible refine (?_ : wpAny _ _ (call (Value.ref 250) _) _ _ _)); k_dflt (refine CtK.run (by k_asm) (by k_asm) (writeFrame_ck (by (k_extra "mem_go")) (by (k_extra "mem_go")) (by assumption) (by (k_extra "mem_go")) (hC2.mono (by (k_extra "sub_go"))) (by assumption)) (by k_asm) (by k_asm) (by k_asm) (by first | rfl | assumption) (by ktr_room) (by ktr_units) (fun b7 t7 hb7 hok7 h' tk' F' N' => ?_) ?_); case' _ => ((try dsimp only at N')))
  k_with "leaving ref" => (k_here; refine leave_onX rfl (by k_asm) (by assumption) (by assumption) (by assumption) ?_; intro h' R' U'; (try dsimp only at R' U'))
  k_with "exec If" => (k_here; (fail_if_success (have zz := joined2)); (with_reducible refine (?_ : wpAny _ _ (exec (Stmt.If (Expr.Compare (Expr.Call (Expr.Name (Str.ofString "_law_told") _) _ _ _) _ _ _) _ [] _) _) _ _ _)); k_dflt (refine turn_join (by k_asm) (by k_asm) (by k_asm) ((envX cn csc L a ccd cl :: outer).filterMap (·.frame)) w rfl (fun n2 => ∃ ps2, n2 = (362, tabObj (#[] ++ #[rawInt ((238 : Nat) : Int), rawInt ((21 : Nat) : Int), Value.ref c9])) :: (c9, oc9) :: (l, o) :: (367, tabObj ps2) :: rest) ?_ ?_); (have joined2 : True := trivial); rotate_left; (rintro g1 h' tk' n2 TT2 F' N' B' X' T' D' ⟨ps2, rfl⟩); rotate_left)
  k_with "subscriptTail" => (k_here; (with_reducible refine (?_ : wpAny _ _ (subscriptTail _ (Expr.Slice _ _ none _) (Value.bytes _ _) (Value.ref _)) _ _ _)); (with_reducible rename Fr _ _ _ _ => F'); (with_reducible rename News _ _ _ _ => N'); (refine KBc.slice_K (s := ⟨_, _, _, _, _⟩) F' N' hb1 (by constructor) (by constructor) hz16 ?_); intro _ _ _ _ _ kbcK)
  k_with "call ref" => (k_here; (with_reducible refine (?_ : wpAny _ _ (call (Value.ref 320) _) _ _ _)); k_dflt (refine CtK.run0 (by k_asm) (by k_asm) (take_ck (by k_updF) hs (by decide) (by decide)) (by k_asm) (by k_asm) (by k_asm) (by first | rfl | assumption) (by ktr_room) (by ktr_units) (fun x5 t5 o5 b5 b6 hs5 h' tk' F' N' => ?_)); ((try dsimp only at N')))
  k_with "binaryOp Add bytes bytes" => (k_here; (with_reducible refine (?_ : wpAny _ _ (binaryOp Operator.Add (Value.bytes _ _) (Value.bytes _ _)) _ _ _)); (refine KBa.add_K hb1 (show KBw.bInts #[0] = [0] from rfl) (by simp only [List.length_cons, List.length_nil]; omega) ?_); intro _ _ kbaApp)
  k_with "subscriptTail" => (k_here; (with_reducible refine (?_ : wpAny _ _ (subscriptTail _ _ (Value.ref _) (Value.int _ _)) _ _ _)); k_dflt (refine item_any (by k_asm) (by (k_extra "mem_go")) (by assumption) (by show Int.toNat _ < 3; omega) (by show 3 ≤ 1000; omega) (by with_unfolding_all rfl) ?_); intro v5 hv5; obtain ⟨wb, tw, e5, hwb⟩ := wrong_of h4 (pick_less kbcK) kbaApp hv5; subst e5)
  k_with "call ref" => (k_here; (have zz := hwb); (with_reducible refine (?_ : wpAny _ _ (call (Value.ref 365) _) _ _ _)); k_dflt (refine CtTK.run (by k_asm) (news_sub (l := (362, tabObj _) :: (c9, oc9) :: (l, _) :: (367, tabObj ps2) :: rest) (by k_asm) (by (k_extra "sub_go"))) ((frameTold_ct (Xp := True) (prec := 0) (height := 0) (width := 0) (cs := []) (by (k_extra "off_go")) (.inr ⟨c9, oc9, vs9, t9, rfl, .head _, dd9, dv9⟩) (fun n => Ct.weaken ((readFrameBad_ct rfl hwb.1 hwb.2).more (by decide) (by decide)) (fun _ _ (r : False) => r.elim) id) (Nat.zero_le _)).k tab_k) (by k_asm) (by k_asm) (by k_asm) (by k_asm) (by k_asm) (by first | k_asm | exact ktsDicts_nil) (by first | rfl | assumption) (by ktr_room) (by ktr_units) ⟨fun _ n' c0 oc0 vs0 t0 hsub0 m0 mc0 _ _ _ h' tk' h₁' TT3 F' N' B' X' T' D' => ?_, fun _ _ _ _ _ _ _ hok0 => absurd hok0.2.2.2.2.1 (by simp)⟩))
  k_with "compareOp NotEq" => (k_here; first
      | (exfalso; exact hno (hbb.mp (by assumption)))
      | (exfalso; exact absurd (hbb.mpr hok) (by rw [‹bb = false›]; decide))
      | (k_dflt (refine dat_same Nf hdat (fun _ h => h) hf (fun p hp => hsub p (by (k_extra "mem_go"))) frameDat_ok (by first | ktr_units | ke_room) ?_)))
  k_with "exec If" => (k_here; (fail_if_success (have zz := joined1)); (with_reducible refine (?_ : wpAny _ _ (exec (Stmt.If (Expr.Compare (Expr.Call (Expr.Name (Str.ofString "_law_frame_told") _) _ _ _) _ _ _) _ [] _) _) _ _ _)); k_dflt (refine turn_join (by k_asm) (by k_asm) (by k_asm) ((envX cn csc L a ccd cl :: outer).filterMap (·.frame)) w rfl (fun n2 => ∃ c9 oc9 vs9 t9, n2 = (362, tabObj (#[] ++ #[rawInt ((238 : Nat) : Int), rawInt ((21 : Nat) : Int), Value.ref c9])) :: (c9, oc9) :: (L' + 1, oc1) :: (l, o) :: (367, tabObj #[]) :: rest ∧ oc9.data = .fields vs9 ∧ vs9[1]? = some (.str qFT t9) ∧ (∀ p ∈ (362, tabObj #[]) :: (L' + 1, oc1) :: (l, o) :: (367, tabObj #[]) :: rest, @LT.lt Nat _ p.1 c9)) ?_ ?_); (have joined1 : True := trivial); rotate_left; (rintro g1 h' tk' n2 TT1 F' N' B' X' T' D' ⟨c9, oc9, vs9, t9, rfl, dd9, dv9, lt9⟩; have l9 := lt9; k_lt l9; have cX := codeHd_of_K (c := 369) (P := 367) X' (by kernel_rfl)); rotate_left)
  k_with "exec Assign cons ListComp" => (k_here; k_dflt (refine LCg.Assign_ListComp_U (F₀ := by k_asm) (by rfl) (by with_unfolding_all rfl) (by with_unfolding_all rfl) (by decide) (by rfl) (by decide) (by rfl) (by rfl) (by rfl) ?_))
  k_with "CompSrc" => fail "no"
  trivial
set_option maxRecDepth 100000 in
set_option maxHeartbeats 8000000 in
theorem frameHolds_ct {w : World} {l f : Addr} {o : Obj} {code prec height width : Int} {cs : List C4} {rest : Led} (hs : Src l o) (hr1 : ∀ p ∈ rest, p.1 ≠ l) (hr2 : ∀ p ∈ rest, p.1 ≠ 362) (hr3 : ∀ p ∈ rest, p.1 ≠ 367) (hl : @LT.lt Nat _ 405 l) (hf : DatIn rest (.ref f) (frameDat code prec height width cs)) (hr : frOk prec height width cs) (hco : codes11 code) :
    CtT w 370 [.ref l, .ref f] ((l, o) :: (362, tabObj #[]) :: (367, tabObj #[]) :: rest) 50 540 (fun v news' => v = .bool true ∧ ∃ o' ps1 ps2, Src l o' ∧ (∀ p ∈ (l, o') :: (362, tabObj ps1) :: (367, tabObj ps2) :: rest, p ∈ news')) := by
  intro mean mg mb dp un gd cn csc a ccd cl outer A₀ base h₀ L m s Q E X₀ B F N T XB TB D hk hd hu hret
  obtain ⟨n, t1, t2, t3, t4, lc, vs, k, hm, hlc, hD⟩ := frame_inv hf
  obtain ⟨⟨p1, p2⟩, ⟨hh, p4⟩, ⟨hw, p6⟩, h4, p8⟩ := id hr
  have hc : ∀ c ∈ cs, (0 ≤ c.2.2.1 ∧ c.2.2.1 < 16) := fun c hc => by obtain ⟨_, _, ⟨z1, z2⟩, _⟩ := p8 c hc; omega
  have hz16 : (frameOct prec height width cs).length ≤ 16777216 := by rw [frameOct_len]; omega
  have hz100 : (frameOct prec height width cs).length ≤ 100 := by rw [frameOct_len]; omega
  refine wpAny_call ?_
  k_dflt (refine' enterC ?k1 ?k2 ?k3 ?k4 ?k5 ?kD ?kA ?kF ?kK ?k6 ?k7 ?k8 ?k9 ?kB ?kN ?_ ?c2 ?c3 ?c4; (case kA => exact rfl); (case kF => exact rfl); (case kK => assumption); (case k1 => k_asm); (case k2 => k_asm); (case k3 => k_asm); (case k4 => k_asm); (case k5 => k_asm); (case kD => k_asm); (case k6 => k_is); (case k7 => k_is); (case k8 => ktr_room); (case k9 => exact BindsTo.of_eq rfl); (case kB => exact kindsX rfl); (case kN => decide +kernel); (case c2 => exact rfl); (case c3 => exact rfl); (case c4 => exact rfl); k_whole; intro g' L' h' tk' cells' BK' F' N' Y' l1 B' X' T' D'; (try k_lt l1); (first | (obtain ⟨oc1, hE', dc1⟩ := CellsAre.one Y'; subst hE'; clear Y') | (obtain ⟨oc1, oc2, hE', dc1, dc2⟩ := CellsAre.two Y'; subst hE'; clear Y')); (try simp only [List.cons_append, List.nil_append] at N'); (try dsimp only); (try k_fold))
  have cX := codeHd_of_K (c := 369) (P := 367) X' (by kernel_rfl)
  k_steps
  iterate 2 exact ⟨rfl, _, _, _, _, rfl, TT', by k_asm, N', by k_asm, by k_asm, by k_asm, D', c9, oc9, vs9, t9, rfl, dd9, dv9, lt9⟩
  have hlen : vs.length = cs.length := by rw [hD.length, List.length_map]
  refine LCg.CompSrc.ledger (by rfl) (by k_asm) (by k_asm) (by (k_extra "mem_go")) (by rw [List.size_toArray, sizeLine_eq]; omega) ?_
  intro g
  refine comp_ind (n₀ := vs.toArray.size) (fun i ys n => ∃ fd, (∀ p ∈ fd, p ∈ n) ∧ (∀ p ∈ ledW c9 oc9 L' oc1 l o rest, p ∈ n) ∧ CompsIn w.params fd ys (cs.take i) ∧ (∀ p ∈ fd, ∀ q ∈ ledW c9 oc9 L' oc1 l o rest, @LT.lt Nat _ q.1 p.1)) ?_ ?_ _ 0 [] _ (Nat.zero_add _) ⟨[], (fun _ h => nomatch h), (fun _ h => h), trivial, fun _ h => nomatch h⟩ (Or.inr ⟨_, by (k_extra "mem_go"), rfl, _, rfl⟩)
  · rintro i ys n hi ⟨fd, hfd, hNN, hC, hnew⟩ hS v I oI C oC Dl m₂ h' tk' E' hv hC2 hx2 F3 N3 hoff hne
    obtain ⟨d1, hd1, hdd⟩ := hD.get (k := i) (by rw [List.length_map]; simpa [hlen] using hi)
    have hve : d1 = v := Option.some.inj (hd1.symm.trans (by simpa using hv))
    rw [hve] at hdd
    rw [List.getElem_map] at hdd
    have hci : cs[i]? = some cs[i] := List.getElem?_eq_getElem (by simpa [hlen] using hi)
    generalize cs[i] = ci at hci hdd
    obtain ⟨y, k2, u1, u2, u3, u4, rfl, hy⟩ := comp_inv hdd
    have hy' := hNN _ (.tail _ (.tail _ (.tail _ (.tail _ (.tail _ hy)))))
    k_steps
    refine LCg.CompEnd.intro (by k_asm) (by k_asm) ((x2, instObj 150 dx2) :: (dx2, o2) :: n) (sub_cons (.tail _ (.tail _ (.head _))) (sub_cons (.tail _ (.tail _ (.tail _ (.head _)))) (sub_cons (.tail _ (.tail _ (.tail _ (.tail _ (.head _))))) (sub_cons (.head _) (sub_cons (.tail _ (.head _)) fun p hp => .tail _ (.tail _ (.tail _ (.tail _ (.tail _ hp))))))))) ⟨⟨by omega, by omega, by omega⟩, ⟨by omega, by omega, by omega⟩, hoff⟩ (srcAt_mono (fun p hp => .tail _ (.tail _ hp)) hS) ⟨(x2, instObj 150 dx2) :: (dx2, o2) :: fd, sub_cons (.head _) (sub_cons (.tail _ (.head _)) fun p hp => .tail _ (.tail _ (hfd p hp))), fun p hp => .tail _ (.tail _ (hNN p hp)), ?_, ?_⟩
    · rw [List.take_add_one, hci]
      exact CompsIn.snoc ⟨x2, dx2, o2, rfl, .head _, .tail _ (.head _), rd2⟩ (hC.mono fun p hp => .tail _ (.tail _ hp))
    · intro p hp q hq
      have hq2 : @LT.lt Nat _ q.1 dx2 := mR q (.tail _ (.tail _ (.tail _ (hNN q hq))))
      rcases List.mem_cons.mp hp with rfl | hp
      · exact Nat.lt_trans hq2 m22
      · rcases List.mem_cons.mp hp with rfl | hp
        · exact hq2
        · exact hnew p hp q hq
  · rintro ys n ⟨fd, hfd, hNN, hC, hnew⟩ hS
    rw [List.take_of_length_le (by rw [List.size_toArray]; omega)] at hC
    obtain ⟨rest2, hrest2⟩ : ∃ r, r = rest ++ fd := ⟨_, rfl⟩
    have hs2 : ∀ p ∈ rest, p ∈ rest2 := fun p hp => hrest2 ▸ List.mem_append_left _ hp
    have hC2 : CompsIn w.params rest2 ys cs := hC.mono fun p hp => hrest2 ▸ List.mem_append_right _ hp
    have hNN2 : ∀ p ∈ (362, tabObj (#[] ++ #[rawInt ((238 : Nat) : Int), rawInt ((21 : Nat) : Int), Value.ref c9])) :: (c9, oc9) :: (L' + 1, oc1) :: (l, o) :: (367, tabObj #[]) :: rest2, p ∈ n := fun p hp => by
      subst hrest2
      exact (List.mem_append.mp (show p ∈ ledW c9 oc9 L' oc1 l o rest ++ fd from hp)).elim (hNN p) (hfd p)
    have hcase : ∀ {a : Addr}, (∀ p ∈ rest, p.1 ≠ a) → (∀ p ∈ fd, @LT.lt Nat _ a p.1) → ∀ p ∈ rest2, p.1 ≠ a := fun h1 h2 p hp => by
      subst hrest2
      exact (List.mem_append.mp hp).elim (h1 p) fun q => Nat.ne_of_gt (h2 p q)
    have hx1 := hcase hr1 fun p hp => hnew p hp _ (.tail _ (.tail _ (.tail _ (.head _))))
    have hx2 := hcase hr2 fun p hp => hnew p hp _ (.head _)
    have hx3 := hcase hr3 fun p hp => hnew p hp _ (.tail _ (.tail _ (.tail _ (.tail _ (.head _)))))
    have hx4 := hcase (a := L' + 1) (by rename ∀ p : Addr × Obj, p ∈ _ :: _ → p.1 < L' => hLt; exact fun p hp => Nat.ne_of_lt (Nat.lt_succ_of_lt (hLt p (.tail _ (.tail _ (.tail _ hp)))))) fun p hp => hnew p hp _ (.tail _ (.tail _ (.head _)))
    clear hNN hfd hnew hC hcase
    k_steps
    · intro mean2 mg2 mb2 dp2 un2 gd2 cn2 cs2 a2 ccd2 cl2 outer2 A2 base2 h2 L2 m2 s2 Q2 E2 X2 B2 F2 N2 T2 hk2 hd2 hu2 hret2 hexc2
      refine wpAny_call ?_
      k_dflt (refine' kla_code ?k1 ?k2 ?k3 ?k4 ?k5 ?kA ?kF ?kK ?k6 ?k7 ?k8 ?k9 ?kB ?_ ?c2 ?c3 ?c4 ?c5; (case kA => exact rfl); (case kF => exact rfl); (case kK => assumption); (case k1 => k_asm); (case k2 => k_asm); (case k3 => k_asm); (case k4 => k_asm); (case k5 => k_asm); (case k6 => (k_extra "mem_go")); (case k7 => exact codeRec_news (by k_asm) (by (k_extra "mem_go")) (by assumption) (by assumption)); (case k8 => ktr_room); (case k9 => exact rfl); (case c5 => decide); (case kB => exact locs rfl); (case c2 => exact rfl); (case c3 => exact rfl); (case c4 => exact rfl); k_whole; intro g' L' h' FG' F' N' B' X' T'; (try dsimp only); (try k_fold))
      k_steps
      · exact hret2 _ _ _ _ (by k_asm) (by k_asm) ⟨⟨_, _, rfl, by assumption⟩, rfl, by assumption⟩
      · exact hexc2 e3' _ _ _ _ _ _ (by k_asm) (by assumption) (by assumption)
    · exact absurd (‹(b2.toList != b1.toList) = true›) (by rw [bl_ne hb2 hb1]; decide)
    iterate 2 exact ⟨rfl, _, _, _, _, rfl, TT', by k_asm, news_sub (by k_asm) (sub_cons (by (k_extra "mem_go")) (sub_cons (by (k_extra "mem_go")) (sub_cons (by (k_extra "mem_go")) (sub_cons (by (k_extra "mem_go")) (fun p hp => by have := hs2 p hp; (k_extra "mem_go")))))), by k_asm, by k_asm, by k_asm, D', _, rfl⟩
    obtain ⟨h₁, u1, u2, u3, u4⟩ := BK' _ _ _ _ _ (TT1.trans (TT2.trans TT3)) (by k_asm) (by k_asm)
    exact hret _ _ _ _ h₁ u1 u2 u3 u4 (XB.keeps u4.stays) (TB.keeps u4.stays) (D.turn u1) ⟨rfl, _, _, _, hs5, sub_cons (hsub0 _ (by (k_extra "mem_go"))) (sub_cons m0 (sub_cons (hsub0 _ (by (k_extra "mem_go"))) fun p hp => hsub0 p (by (k_extra "mem_go"))))⟩
-- part W2
theorem wsW2_0 : True := by
  w_top off
  k_with_none
  k_with "ktr_room" => first | exact room1 (by assumption) | exact room3 (by assumption) (Nat.le_of_ble_eq_true rfl) | exact room2 (by assumption) (Nat.le_of_ble_eq_true rfl)
  k_with "ktr_units" => first | exact unit3 (by assumption) (Nat.le_of_ble_eq_true rfl) | exact unit2 (by assumption) (Nat.le_of_ble_eq_true rfl)
  k_with "callWith ref" => (k_here; k_dflt (refine' callWith_K ?cwA ?cwB ?_; (case cwA => k_asm); (case cwB => k_is); k_whole))
  k_with "omega" => first | decide | with_reducible assumption | exact Int.lt_of_le_of_lt (by with_reducible assumption) (by decide) | exact Int.lt_of_lt_of_le (by with_reducible assumption) (by decide) | exact Int.le_trans (by with_reducible assumption) (by decide) | exact lo_tr (by with_reducible assumption) (by decide) | exact lo_le (by with_reducible assumption) (by decide) | exact Nat.le_trans (by with_reducible assumption) (by decide) | exact Nat.lt_of_le_of_lt (by with_reducible assumption) (by decide) | lia
  k_with "k_ne" => (refine neN ?_; (try dsimp only); first | decide | with_reducible assumption | exact Ne.symm (by with_reducible assumption) | (refine Nat.ne_of_gt ?_; (first | with_reducible assumption | exact at1 (by with_reducible assumption) | exact at2 (by with_reducible assumption) | exact at3 (by with_reducible assumption) | exact at4 (by with_reducible assumption) | exact at5 (by with_reducible assumption) | exact at6 (by with_reducible assumption) | exact at7 (by with_reducible assumption) | exact at8 (by with_reducible assumption) | exact up1 (by with_reducible assumption) | exact up2 (by with_reducible assumption) | exact up2 (at1 (by with_reducible assumption)) | exact up2 (at2 (by with_reducible assumption)) | exact up2 (at3 (by with_reducible assumption)) | exact up2 (at4 (by with_reducible assumption)) | exact up1 (at1 (by with_reducible assumption)) | exact up1 (at2 (by with_reducible assumption)) | exact up1 (at3 (by with_reducible assumption)) | exact up1 (at4 (by with_reducible assumption)))) | (refine Nat.ne_of_lt ?_; (first | with_reducible assumption | exact at1 (by with_reducible assumption) | exact at2 (by with_reducible assumption) | exact at3 (by with_reducible assumption) | exact at4 (by with_reducible assumption) | exact at5 (by with_reducible assumption) | exact at6 (by with_reducible assumption) | exact at7 (by with_reducible assumption) | exact at8 (by with_reducible assumption) | exact up1 (by with_reducible assumption) | exact up2 (by with_reducible assumption) | exact up2 (at1 (by with_reducible assumption)) | exact up2 (at2 (by with_reducible assumption)) | exact up2 (at3 (by with_reducible assumption)) | exact up2 (at4 (by with_reducible assumption)) | exact up1 (at1 (by with_reducible assumption)) | exact up1 (at2 (by with_reducible assumption)) | exact up1 (at3 (by with_reducible assumption)) | exact up1 (at4 (by with_reducible assumption)))) | omega)
  k_with "mem_go" => first | with_reducible assumption | exact List.Mem.head _ | (refine List.mem_cons_of_mem _ ?_; (k_extra "mem_go"))
  k_with "sub_go" => first | exact fun _ h => h | exact sub_nil | (refine sub_cons ?hSub ?_; (case hSub => (k_extra "mem_go")); (k_extra "sub_go")) | ((fail_if_success (refine sub_cons ?_ ?_)); refine sub_drop ?_; (k_extra "sub_go")) | with_reducible assumption
  k_with "off_go" => first | exact off_nil | with_reducible assumption | (refine off_cons ?hOff ?_; (case hOff => k_ne); (k_extra "off_go")) | exact off_old (by with_reducible assumption) (by (k_extra "sub_go")) | exact off_sub (by with_reducible assumption) (by (k_extra "sub_go"))
  k_with "k_mem" => (k_extra "mem_go")
  k_with "k_all" => (k_extra "off_go")
  trivial
noncomputable def wrongSc (ns : List Int) : Prop := ns.length ≤ 100 ∧ ¬ (1 ≤ ns.length ∧ (ns.length : Int) = 4 + 2 * ns.getD 0 0)
theorem wrongSc_nil : wrongSc [] := ⟨by simp, by simp⟩
theorem wrongSc_more {n1 n2 n3 : List Int} {st en hi lo : Int} (h2 : n2.length = n1.length) (h3 : n3.length = n1.length) (h4 : n1.length ≤ 5) : wrongSc (scanOct n1 n2 n3 st en hi lo ++ [0]) := by
  have e := scanOct_len (st := st) (en := en) (hi := hi) (lo := lo) h2 h3
  refine ⟨by rw [List.length_append, e]; simp; omega, fun h => ?_⟩
  have h5 := h.2
  have h6 : (scanOct n1 n2 n3 st en hi lo ++ [0]).getD 0 0 = (n1.length : Int) := rfl
  rw [h6, List.length_append, e] at h5
  simp at h5
  omega
theorem wrongSc_less {n1 n2 n3 : List Int} {st en hi lo : Int} (h2 : n2.length = n1.length) (h3 : n3.length = n1.length) (h4 : n1.length ≤ 5) : wrongSc ((scanOct n1 n2 n3 st en hi lo).take (4 + 2 * n1.length - 1)) := by
  have e := scanOct_len (st := st) (en := en) (hi := hi) (lo := lo) h2 h3
  have e2 : ((scanOct n1 n2 n3 st en hi lo).take (4 + 2 * n1.length - 1)).length = 3 + 2 * n1.length := by rw [List.length_take, e]; omega
  refine ⟨by omega, fun h => ?_⟩
  have h5 := h.2
  rw [e2] at h5
  have h6 : ((scanOct n1 n2 n3 st en hi lo).take (4 + 2 * n1.length - 1)).getD 0 0 = (n1.length : Int) := by
    rw [List.getD_eq_getElem?_getD, List.getElem?_take_of_lt (by omega)]
    rfl
  rw [h6] at h5
  omega
theorem pick_lessL {x : Array UInt8} {ns : List Int} {k : Nat} (hk : ns.length = k) (h1 : 1 ≤ k) (h : KBw.bInts x = (ns.drop ((none : Option Int).elim 0 (clipAt ns.length))).take ((some (-1 : Int)).elim ns.length (clipAt ns.length) - (none : Option Int).elim 0 (clipAt ns.length))) : KBw.bInts x = ns.take (k - 1) := by
  rw [h]
  show (ns.drop 0).take (clipAt ns.length (-1) - 0) = _
  rw [List.drop_zero, Nat.sub_zero, clip_neg (by omega), hk]
theorem wrongSc_of {x y : Array UInt8} {u1 u2 u3 : Tok} {n1 n2 n3 : List Int} {st en hi lo : Int} {v : Value} (h2 : n2.length = n1.length) (h3 : n3.length = n1.length) (h4 : n1.length ≤ 5) (hx : KBw.bInts x = (scanOct n1 n2 n3 st en hi lo).take (4 + 2 * n1.length - 1)) (hy : KBw.bInts y = scanOct n1 n2 n3 st en hi lo ++ [0]) (hv : v ∈ [Value.bytes x u1, Value.bytes y u2, Value.bytes #[] u3]) : ∃ wb tw, v = .bytes wb tw ∧ wrongSc (KBw.bInts wb) := by
  rcases List.mem_cons.mp hv with rfl | hv
  · exact ⟨_, _, rfl, by rw [hx]; exact wrongSc_less h2 h3 h4⟩
  rcases List.mem_cons.mp hv with rfl | hv
  · exact ⟨_, _, rfl, by rw [hy]; exact wrongSc_more h2 h3 h4⟩
  rw [List.mem_singleton.mp hv]
  exact ⟨_, _, rfl, wrongSc_nil⟩
/-- what write_scan hands on -/
noncomputable def WrS (n1 n2 n3 : List Int) (st en hi lo : Int) (news : Led) (v : Value) (news' : Led) : Prop := (∃ b t, v = .bytes b t ∧ KBw.bInts b = scanOct n1 n2 n3 st en hi lo) ∧ news' = news ∧ scanOk n1 n2 n3 st en hi lo
theorem wsW2_1 : True := by
  w_top off
  k_with_none
  k_with "ktr_room" => first | exact room1 (by assumption) | exact room3 (by assumption) (Nat.le_of_ble_eq_true rfl) | exact room2 (by assumption) (Nat.le_of_ble_eq_true rfl)
  k_with "ktr_units" => first | exact unit3 (by assumption) (Nat.le_of_ble_eq_true rfl) | exact unit2 (by assumption) (Nat.le_of_ble_eq_true rfl)
  k_with "callWith ref" => (k_here; k_dflt (refine' callWith_K ?cwA ?cwB ?_; (case cwA => k_asm); (case cwB => k_is); k_whole))
  k_with "omega" => first | decide | with_reducible assumption | exact Int.lt_of_le_of_lt (by with_reducible assumption) (by decide) | exact Int.lt_of_lt_of_le (by with_reducible assumption) (by decide) | exact Int.le_trans (by with_reducible assumption) (by decide) | exact lo_tr (by with_reducible assumption) (by decide) | exact lo_le (by with_reducible assumption) (by decide) | exact Nat.le_trans (by with_reducible assumption) (by decide) | exact Nat.lt_of_le_of_lt (by with_reducible assumption) (by decide) | lia
  k_with "k_ne" => (refine neN ?_; (try dsimp only); first | decide | with_reducible assumption | exact Ne.symm (by with_reducible assumption) | (refine Nat.ne_of_gt ?_; (first | with_reducible assumption | exact at1 (by with_reducible assumption) | exact at2 (by with_reducible assumption) | exact at3 (by with_reducible assumption) | exact at4 (by with_reducible assumption) | exact at5 (by with_reducible assumption) | exact at6 (by with_reducible assumption) | exact at7 (by with_reducible assumption) | exact at8 (by with_reducible assumption) | exact up1 (by with_reducible assumption) | exact up2 (by with_reducible assumption) | exact up2 (at1 (by with_reducible assumption)) | exact up2 (at2 (by with_reducible assumption)) | exact up2 (at3 (by with_reducible assumption)) | exact up2 (at4 (by with_reducible assumption)) | exact up1 (at1 (by with_reducible assumption)) | exact up1 (at2 (by with_reducible assumption)) | exact up1 (at3 (by with_reducible assumption)) | exact up1 (at4 (by with_reducible assumption)))) | (refine Nat.ne_of_lt ?_; (first | with_reducible assumption | exact at1 (by with_reducible assumption) | exact at2 (by with_reducible assumption) | exact at3 (by with_reducible assumption) | exact at4 (by with_reducible assumption) | exact at5 (by with_reducible assumption) | exact at6 (by with_reducible assumption) | exact at7 (by with_reducible assumption) | exact at8 (by with_reducible assumption) | exact up1 (by with_reducible assumption) | exact up2 (by with_reducible assumption) | exact up2 (at1 (by with_reducible assumption)) | exact up2 (at2 (by with_reducible assumption)) | exact up2 (at3 (by with_reducible assumption)) | exact up2 (at4 (by with_reducible assumption)) | exact up1 (at1 (by with_reducible assumption)) | exact up1 (at2 (by with_reducible assumption)) | exact up1 (at3 (by with_reducible assumption)) | exact up1 (at4 (by with_reducible assumption)))) | omega)
  k_with "mem_go" => first | with_reducible assumption | exact List.Mem.head _ | (refine List.mem_cons_of_mem _ ?_; (k_extra "mem_go"))
  k_with "sub_go" => first | exact fun _ h => h | exact sub_nil | (refine sub_cons ?hSub ?_; (case hSub => (k_extra "mem_go")); (k_extra "sub_go")) | ((fail_if_success (refine sub_cons ?_ ?_)); refine sub_drop ?_; (k_extra "sub_go")) | with_reducible assumption
  k_with "off_go" => first | exact off_nil | with_reducible assumption | (refine off_cons ?hOff ?_; (case hOff => k_ne); (k_extra "off_go")) | exact off_old (by with_reducible assumption) (by (k_extra "sub_go")) | exact off_sub (by with_reducible assumption) (by (k_extra "sub_go"))
  k_with "k_mem" => (k_extra "mem_go")
  k_with "k_all" => (k_extra "off_go")
  k_with "call ref" => (k_here; (with_reducible refine (?_ : wpAny _ _ (call (Value.ref 389) _) _ _ _)); k_dflt (refine CtK.run0 (by k_asm) (by k_asm) (lawScanOctets_ck (hf.mono (by (k_extra "sub_go"))) hr) (by k_asm) (by k_asm) (by k_asm) (by first | rfl | assumption) (by ktr_room) (by ktr_units) (fun b1 t1' hb1 h' tk' F' N' => ?_)); ((try dsimp only at N')))
  k_with "call ref" => (k_here; (with_reducible refine (?_ : wpAny _ _ (call (Value.ref 382) _) _ _ _)); k_dflt (refine CtK.run0 (by k_asm) (by k_asm) (lawScanRight_ck (hf.mono (by (k_extra "sub_go"))) hr) (by k_asm) (by k_asm) (by k_asm) (by first | rfl | assumption) (by ktr_room) (by ktr_units) (fun bb hbb h' tk' F' N' => ?_)); ((try dsimp only at N')))
  k_with "call ref" => (k_here; (with_reducible refine (?_ : wpAny _ _ (call (Value.ref 192) _) _ _ _)); k_dflt (refine CtK.run0 (by k_asm) (by k_asm) (newScan_ck) (by k_asm) (by k_asm) (by k_asm) (by first | rfl | assumption) (by ktr_room) (by ktr_units) (fun x2 dx2 o2 rd2 m12 m22 h' tk' F' N' => ?_)); ((try dsimp only at N'); k_lt m12))
  k_with "ExcP" => (unfold ExcP; intro e3'; first | exact e3'.elim | intro e' t' vs' g' h' tk' Fg' U' R')
  k_with "call ref" => (k_here; (with_reducible refine (?_ : wpAny _ _ (call (Value.ref 396) _) _ _ _)); (fail_if_success (have zz := hwb)); k_dflt (refine CtTK.run (by k_asm) (news_sub (l := (391, tabObj _) :: (L' + 1, _) :: (l, _) :: (398, tabObj _) :: rest) (by k_asm) (by (k_extra "sub_go"))) ((scanTold_ct (Xp := ¬ scanOk n1 n2 n3 st en hi lo) (by (k_extra "off_go")) (.inl rfl) (fun n => Ct.weaken (readScan_ct hb1 z2 z3 (by omega) hc hlo) (fun _ _ r => r) id)).k tab_k) (by k_asm) (by k_asm) (by k_asm) (by k_asm) (by k_asm) (by first | k_asm | exact ktsDicts_nil) (by first | rfl | assumption) (by ktr_room) (by ktr_units) ⟨fun hno n' c9 oc9 vs9 t9 hsub m9 mc9 dd9 dv9 lt9 h' tk' h₁' TT' F' Nf B' X' T' D' => ?_, fun v' n' c9 oc9 vs9 t9 hdat hok hsub m9 mc9 dd9 dv9 lt9 h' tk' h₁' TT' F' Nf B' X' T' D' => ?_⟩) <;> (have lt9 := lt9 rfl; have N' := news_sub Nf (sub_cons m9 (sub_cons mc9 fun p hp => hsub p hp))))
  k_with "call ref" => (k_here; (with_reducible refine (?_ : wpAny _ _ (call (Value.ref 360) _) _ _ _)); k_dflt (refine CtTK.run (by k_asm) (by k_asm) ((told_read (R := WrS n1 n2 n3 st en hi lo) (X := ¬ scanOk n1 n2 n3 st en hi lo) (by (k_extra "mem_go")) ?_).k toldBytes_k) (by k_asm) (by k_asm) (by k_asm) (by k_asm) (by k_asm) (by first | k_asm | exact ktsDicts_nil) (by first | rfl | assumption) (by ktr_room) (by ktr_units) ⟨fun b2 t2' hb2 hok h' tk' h₁' TT' F' N' B' X' T' D' => ?_, fun hno h' tk' h₁' TT' F' N' B' X' T' D' => ?_⟩))
  k_with "call ref" => (k_here; (with_reducible refine (?_ : wpAny _ _ (call (Value.ref 271) _) _ _ _)); k_dflt (refine CtK.run (by k_asm) (by k_asm) (writeScan_ck (by (k_extra "mem_go")) (by (k_extra "mem_go")) (by assumption) (by (k_extra "mem_go")) (by (k_extra "mem_go")) (by (k_extra "mem_go")) hI1 hI2 hI3 (by omega) (by omega) (by omega)) (by k_asm) (by k_asm) (by k_asm) (by first | rfl | assumption) (by ktr_room) (by ktr_units) (fun b7 t7 hb7 hok7 h' tk' F' N' => ?_) ?_); case' _ => ((try dsimp only at N')))
  k_with "leaving ref" => (k_here; refine leave_onX rfl (by k_asm) (by assumption) (by assumption) (by assumption) ?_; intro h' R' U'; (try dsimp only at R' U'))
  k_with "exec If" => (k_here; (fail_if_success (have zz := joined2)); (with_reducible refine (?_ : wpAny _ _ (exec (Stmt.If (Expr.Compare (Expr.Call (Expr.Name (Str.ofString "_law_told") _) _ _ _) _ _ _) _ [] _) _) _ _ _)); k_dflt (refine turn_join (by k_asm) (by k_asm) (by k_asm) ((envX cn csc L a ccd cl :: outer).filterMap (·.frame)) w rfl (fun n2 => ∃ ps2, n2 = (391, tabObj (#[] ++ #[rawInt ((276 : Nat) : Int), rawInt ((21 : Nat) : Int), Value.ref c9])) :: (c9, oc9) :: (l, o) :: (398, tabObj ps2) :: rest) ?_ ?_); (have joined2 : True := trivial); rotate_left; (rintro g1 h' tk' n2 TT2 F' N' B' X' T' D' ⟨ps2, rfl⟩); rotate_left)
  k_with "subscriptTail" => (k_here; (with_reducible refine (?_ : wpAny _ _ (subscriptTail _ (Expr.Slice _ _ none _) (Value.bytes _ _) (Value.ref _)) _ _ _)); (with_reducible rename Fr _ _ _ _ => F'); (with_reducible rename News _ _ _ _ => N'); (refine KBc.slice_K (s := ⟨_, _, _, _, _⟩) F' N' hb1 (by constructor) (by constructor) hz16 ?_); intro _ _ _ _ _ kbcK)
  k_with "call ref" => (k_here; (with_reducible refine (?_ : wpAny _ _ (call (Value.ref 320) _) _ _ _)); k_dflt (refine CtK.run0 (by k_asm) (by k_asm) (take_ck (by k_updF) hs (by decide) (by decide)) (by k_asm) (by k_asm) (by k_asm) (by first | rfl | assumption) (by ktr_room) (by ktr_units) (fun x5 t5 o5 b5 b6 hs5 h' tk' F' N' => ?_)); ((try dsimp only at N')))
  k_with "binaryOp Add bytes bytes" => (k_here; (with_reducible refine (?_ : wpAny _ _ (binaryOp Operator.Add (Value.bytes _ _) (Value.bytes _ _)) _ _ _)); (refine KBa.add_K hb1 (show KBw.bInts #[0] = [0] from rfl) (by simp only [List.length_cons, List.length_nil]; omega) ?_); intro _ _ kbaApp)
  k_with "subscriptTail" => (k_here; (with_reducible refine (?_ : wpAny _ _ (subscriptTail _ _ (Value.ref _) (Value.int _ _)) _ _ _)); k_dflt (refine item_any (by k_asm) (by (k_extra "mem_go")) (by assumption) (by show Int.toNat _ < 3; omega) (by show 3 ≤ 1000; omega) (by with_unfolding_all rfl) ?_); intro v5 hv5; obtain ⟨wb, tw, e5, hwb⟩ := wrongSc_of z2 z3 z1 (pick_lessL hlen4 (by omega) kbcK) kbaApp hv5; subst e5)
  k_with "subscriptTail" => (k_here; (with_reducible refine (?_ : wpAny _ _ (subscriptTail _ _ (Value.ref _) (Value.int _ _)) _ _ _)); k_dflt (refine item_news (by k_asm) (by (k_extra "mem_go")) (by decide) (by decide) (by rfl) (by with_unfolding_all rfl) ?_))
  k_with "call ref" => (k_here; (have zz := hwb); (with_reducible refine (?_ : wpAny _ _ (call (Value.ref 396) _) _ _ _)); k_dflt (refine CtTK.run (by k_asm) (news_sub (l := (391, tabObj _) :: (c9, oc9) :: (l, _) :: (398, tabObj ps2) :: rest) (by k_asm) (by (k_extra "sub_go"))) ((scanTold_ct (Xp := True) (n1 := []) (n2 := []) (n3 := []) (st := 0) (en := 0) (hi := 0) (lo := 0) (by (k_extra "off_go")) (.inr ⟨c9, oc9, vs9, t9, rfl, .head _, dd9, dv9⟩) (fun n => Ct.weaken ((readScanBad_ct rfl hwb.1 hwb.2).more (by decide) (by decide)) (fun _ _ (r : False) => r.elim) id)).k tab_k) (by k_asm) (by k_asm) (by k_asm) (by k_asm) (by k_asm) (by first | k_asm | exact ktsDicts_nil) (by first | rfl | assumption) (by ktr_room) (by ktr_units) ⟨fun _ n' c0 oc0 vs0 t0 hsub0 m0 mc0 _ _ _ h' tk' h₁' TT3 F' N' B' X' T' D' => ?_, fun _ _ _ _ _ _ _ hok0 => absurd hok0.1.1 (by simp)⟩))
  k_with "compareOp NotEq" => (k_here; first
      | (exfalso; exact hno (hbb.mp (by assumption)))
      | (exfalso; exact absurd (hbb.mpr hok) (by rw [‹bb = false›]; decide))
      | (k_dflt (refine dat_same Nf hdat (fun _ h => h) hf (fun p hp => hsub p (by (k_extra "mem_go"))) scanDat_ok (by first | ktr_units | ke_room) ?_)))
  k_with "exec If" => (k_here; (fail_if_success (have zz := joined1)); (with_reducible refine (?_ : wpAny _ _ (exec (Stmt.If (Expr.Compare (Expr.Call (Expr.Name (Str.ofString "_law_scan_told") _) _ _ _) _ _ _) _ [] _) _) _ _ _)); k_dflt (refine turn_join (by k_asm) (by k_asm) (by k_asm) ((envX cn csc L a ccd cl :: outer).filterMap (·.frame)) w rfl (fun n2 => ∃ c9 oc9 vs9 t9, n2 = (391, tabObj (#[] ++ #[rawInt ((276 : Nat) : Int), rawInt ((21 : Nat) : Int), Value.ref c9])) :: (c9, oc9) :: (L' + 1, oc1) :: (l, o) :: (398, tabObj #[]) :: rest ∧ oc9.data = .fields vs9 ∧ vs9[1]? = some (.str qST t9) ∧ (∀ p ∈ (391, tabObj #[]) :: (L' + 1, oc1) :: (l, o) :: (398, tabObj #[]) :: rest, @LT.lt Nat _ p.1 c9)) ?_ ?_); (have joined1 : True := trivial); rotate_left; (rintro g1 h' tk' n2 TT1 F' N' B' X' T' D' ⟨c9, oc9, vs9, t9, rfl, dd9, dv9, lt9⟩; have l9 := lt9; k_lt l9; have cX := codeHd_of_K (c := 402) (P := 398) X' (by kernel_rfl)); rotate_left)
  trivial
set_option maxRecDepth 100000 in
set_option maxHeartbeats 8000000 in
theorem scanHolds_ct {w : World} {l f : Addr} {o : Obj} {n1 n2 n3 : List Int} {st en hi lo : Int} {rest : Led} (hs : Src l o) (hr1 : ∀ p ∈ rest, p.1 ≠ l) (hr2 : ∀ p ∈ rest, p.1 ≠ 391) (hr3 : ∀ p ∈ rest, p.1 ≠ 398) (hl : @LT.lt Nat _ 405 l) (hf : DatIn rest (.ref f) (scanDat n1 n2 n3 st en hi lo)) (hr : scOk n1 n2 n3 st en hi lo) :
    CtT w 403 [.ref l, .ref f] ((l, o) :: (391, tabObj #[]) :: (398, tabObj #[]) :: rest) 50 540 (fun v news' => v = .bool true ∧ ∃ o' ps1 ps2, Src l o' ∧ (∀ p ∈ (l, o') :: (391, tabObj ps1) :: (398, tabObj ps2) :: rest, p ∈ news')) := by
  intro mean mg mb dp un gd cn csc a ccd cl outer A₀ base h₀ L m s Q E X₀ B F N T XB TB D hk hd hu hret
  obtain ⟨n, x1, x2, x3, v1, v2, v3, k1, k2, k3, t1, t2, t3, t4, hm, hm1, hm2, hm3, hI1, hI2, hI3⟩ := scan_inv hf
  obtain ⟨⟨z2, z3, z1⟩, _, _, p3, _, _, _, hlo0, hlo1⟩ := id hr
  have hc : ∀ c ∈ n3, (0 ≤ c ∧ c < 16) := fun c hc => by have := p3 c hc; omega
  have hlo : 0 ≤ lo ∧ lo < 16 := ⟨hlo0, by omega⟩
  have hlen4 := scanOct_len (st := st) (en := en) (hi := hi) (lo := lo) z2 z3
  have hz16 : (scanOct n1 n2 n3 st en hi lo).length ≤ 16777216 := by omega
  have hz100 : (scanOct n1 n2 n3 st en hi lo).length ≤ 100 := by omega
  refine wpAny_call ?_
  k_dflt (refine' enterC ?k1 ?k2 ?k3 ?k4 ?k5 ?kD ?kA ?kF ?kK ?k6 ?k7 ?k8 ?k9 ?kB ?kN ?_ ?c2 ?c3 ?c4; (case kA => exact rfl); (case kF => exact rfl); (case kK => assumption); (case k1 => k_asm); (case k2 => k_asm); (case k3 => k_asm); (case k4 => k_asm); (case k5 => k_asm); (case kD => k_asm); (case k6 => k_is); (case k7 => k_is); (case k8 => ktr_room); (case k9 => exact BindsTo.of_eq rfl); (case kB => exact kindsX rfl); (case kN => decide +kernel); (case c2 => exact rfl); (case c3 => exact rfl); (case c4 => exact rfl); k_whole; intro g' L' h' tk' cells' BK' F' N' Y' l1 B' X' T' D'; (try k_lt l1); (first | (obtain ⟨oc1, hE', dc1⟩ := CellsAre.one Y'; subst hE'; clear Y') | (obtain ⟨oc1, oc2, hE', dc1, dc2⟩ := CellsAre.two Y'; subst hE'; clear Y')); (try simp only [List.cons_append, List.nil_append] at N'); (try dsimp only); (try k_fold))
  have cX := codeHd_of_K (c := 402) (P := 398) X' (by kernel_rfl)
  have hx4 : ∀ p ∈ rest, p.1 ≠ L' + 1 := by rename ∀ p : Addr × Obj, p ∈ _ :: _ → p.1 < L' => hLt; exact fun p hp => Nat.ne_of_lt (Nat.lt_succ_of_lt (hLt p (.tail _ (.tail _ (.tail _ hp)))))
  k_steps
  iterate 2 exact ⟨rfl, _, _, _, _, rfl, TT', by k_asm, N', by k_asm, by k_asm, by k_asm, D', c9, oc9, vs9, t9, rfl, dd9, dv9, lt9⟩
  · intro mean2 mg2 mb2 dp2 un2 gd2 cn2 cs2 a2 ccd2 cl2 outer2 A2 base2 h2 L2 m2 s2 Q2 E2 X2 B2 F2 N2 T2 hk2 hd2 hu2 hret2 hexc2
    refine wpAny_call ?_
    k_dflt (refine' kla_code ?k1 ?k2 ?k3 ?k4 ?k5 ?kA ?kF ?kK ?k6 ?k7 ?k8 ?k9 ?kB ?_ ?c2 ?c3 ?c4 ?c5; (case kA => exact rfl); (case kF => exact rfl); (case kK => assumption); (case k1 => k_asm); (case k2 => k_asm); (case k3 => k_asm); (case k4 => k_asm); (case k5 => k_asm); (case k6 => (k_extra "mem_go")); (case k7 => exact codeRec_news (by k_asm) (by (k_extra "mem_go")) (by assumption) (by assumption)); (case k8 => ktr_room); (case k9 => exact rfl); (case c5 => decide); (case kB => exact locs rfl); (case c2 => exact rfl); (case c3 => exact rfl); (case c4 => exact rfl); k_whole; intro g' L' h' FG' F' N' B' X' T'; (try dsimp only); (try k_fold))
    k_steps
    · exact hret2 _ _ _ _ (by k_asm) (by k_asm) ⟨⟨_, _, rfl, by assumption⟩, rfl, by assumption⟩
    · exact hexc2 e3' _ _ _ _ _ _ (by k_asm) (by assumption) (by assumption)
  · exact absurd (‹(b2.toList != b1.toList) = true›) (by rw [bl_ne hb2 hb1]; decide)
  iterate 2 exact ⟨rfl, _, _, _, _, rfl, TT', by k_asm, news_sub (by k_asm) (sub_cons (by (k_extra "mem_go")) (sub_cons (by (k_extra "mem_go")) (sub_cons (by (k_extra "mem_go")) (sub_cons (by (k_extra "mem_go")) (by (k_extra "sub_go")))))), by k_asm, by k_asm, by k_asm, D', _, rfl⟩
  obtain ⟨h₁, u1, u2, u3, u4⟩ := BK' _ _ _ _ _ (TT1.trans (TT2.trans TT3)) (by k_asm) (by k_asm)
  exact hret _ _ _ _ h₁ u1 u2 u3 u4 (XB.keeps u4.stays) (TB.keeps u4.stays) (D.turn u1) ⟨rfl, _, _, _, hs5, sub_cons (hsub0 _ (by (k_extra "mem_go"))) (sub_cons m0 (sub_cons (hsub0 _ (by (k_extra "mem_go"))) fun p hp => hsub0 p (by (k_extra "mem_go"))))⟩
-- part G1
theorem wsG1_0 : True := by
  w_top off
  k_with_none
  k_with "ktr_room" => first | exact room1 (by assumption) | exact room3 (by assumption) (Nat.le_of_ble_eq_true rfl) | exact room2 (by assumption) (Nat.le_of_ble_eq_true rfl)
  k_with "ktr_units" => first | exact unit3 (by assumption) (Nat.le_of_ble_eq_true rfl) | exact unit2 (by assumption) (Nat.le_of_ble_eq_true rfl)
  k_with "callWith ref" => (k_here; k_dflt (refine' callWith_K ?cwA ?cwB ?_; (case cwA => k_asm); (case cwB => k_is); k_whole))
  k_with "omega" => first | decide | with_reducible assumption | exact Int.lt_of_le_of_lt (by with_reducible assumption) (by decide) | exact Int.lt_of_lt_of_le (by with_reducible assumption) (by decide) | exact Int.le_trans (by with_reducible assumption) (by decide) | exact lo_tr (by with_reducible assumption) (by decide) | exact lo_le (by with_reducible assumption) (by decide) | exact Nat.le_trans (by with_reducible assumption) (by decide) | exact Nat.lt_of_le_of_lt (by with_reducible assumption) (by decide) | lia
  k_with "k_ne" => (refine neN ?_; (try dsimp only); first | decide | with_reducible assumption | exact Ne.symm (by with_reducible assumption) | (refine Nat.ne_of_gt ?_; (first | with_reducible assumption | exact at1 (by with_reducible assumption) | exact at2 (by with_reducible assumption) | exact at3 (by with_reducible assumption) | exact at4 (by with_reducible assumption) | exact at5 (by with_reducible assumption) | exact at6 (by with_reducible assumption) | exact at7 (by with_reducible assumption) | exact at8 (by with_reducible assumption) | exact up1 (by with_reducible assumption) | exact up2 (by with_reducible assumption) | exact up2 (at1 (by with_reducible assumption)) | exact up2 (at2 (by with_reducible assumption)) | exact up2 (at3 (by with_reducible assumption)) | exact up2 (at4 (by with_reducible assumption)) | exact up1 (at1 (by with_reducible assumption)) | exact up1 (at2 (by with_reducible assumption)) | exact up1 (at3 (by with_reducible assumption)) | exact up1 (at4 (by with_reducible assumption)))) | (refine Nat.ne_of_lt ?_; (first | with_reducible assumption | exact at1 (by with_reducible assumption) | exact at2 (by with_reducible assumption) | exact at3 (by with_reducible assumption) | exact at4 (by with_reducible assumption) | exact at5 (by with_reducible assumption) | exact at6 (by with_reducible assumption) | exact at7 (by with_reducible assumption) | exact at8 (by with_reducible assumption) | exact up1 (by with_reducible assumption) | exact up2 (by with_reducible assumption) | exact up2 (at1 (by with_reducible assumption)) | exact up2 (at2 (by with_reducible assumption)) | exact up2 (at3 (by with_reducible assumption)) | exact up2 (at4 (by with_reducible assumption)) | exact up1 (at1 (by with_reducible assumption)) | exact up1 (at2 (by with_reducible assumption)) | exact up1 (at3 (by with_reducible assumption)) | exact up1 (at4 (by with_reducible assumption)))) | omega)
  k_with "mem_go" => first | with_reducible assumption | exact List.Mem.head _ | (refine List.mem_cons_of_mem _ ?_; (k_extra "mem_go"))
  k_with "sub_go" => first | exact fun _ h => h | exact sub_nil | (refine sub_cons ?hSub ?_; (case hSub => (k_extra "mem_go")); (k_extra "sub_go")) | ((fail_if_success (refine sub_cons ?_ ?_)); refine sub_drop ?_; (k_extra "sub_go")) | with_reducible assumption
  k_with "off_go" => first | exact off_nil | with_reducible assumption | (refine off_cons ?hOff ?_; (case hOff => k_ne); (k_extra "off_go")) | exact off_old (by with_reducible assumption) (by (k_extra "sub_go")) | exact off_sub (by with_reducible assumption) (by (k_extra "sub_go"))
  k_with "k_mem" => (k_extra "mem_go")
  k_with "k_all" => (k_extra "off_go")
  trivial
theorem item_menu {prog : Program} {w : World} {A : Around} {E : Value → Shared → Prop} {s : Shared} {h₀ : Heap} {L : Addr} {news : Led} {value slice : PySem.Expr} {l : Addr} {vs : List Value} {ns : List Int} {c : Nat} {k : Int} {u : Tok} {Q : Value → Shared → Prop} (N : News h₀ L s.heap news) (hm : (l, listOf vs.toArray c) ∈ news) (hI : IntsAre vs ns) (h0 : 0 ≤ k) (h1 : k < ns.length) (h2 : ns.length ≤ 1000)
    (hs : subscripted slice false (.ref l) (.int k u) = operate [.ref l, .int k u] (getItem (.ref l) (.int k u))) (h : ∀ n t, n ∈ ns → Q (.int n t) s) :
    wpAny (model prog w) A (subscriptTail value slice (.ref l) (.int k u)) Q E s := by
  obtain ⟨n, t, e, _, hmem⟩ := ints_get hI (i := k.toNat) (by omega)
  exact item_news N hm h0 (by omega) e hs (h n t hmem)
/-- an if that goes on behind and leaves the frame's names: one way behind it -/
noncomputable def LedEnd (g : Heap) (L : Addr) (m : Str → Option Value) (P : Led → Prop) (s : Shared) (f : Flow) (s' : Shared) : Prop :=
  f = .next ∧ ∃ h' tk' n', s' = { s with heap := h', toks := tk' } ∧ Fr g L h' m ∧ News g L h' n' ∧ P n'
theorem led_join {M : Model} {A : Around} {t : Sem Flow} {Q : Flow → Shared → Prop} {E : Value → Shared → Prop} {s : Shared} {g : Heap} {L : Addr} {m : Str → Option Value} (_F : Fr g L s.heap m) (P : Led → Prop)
    (h : wpAny M A t (LedEnd g L m P s) E s) (k : ∀ h' tk' n', Fr g L h' m → News g L h' n' → P n' → Q .next { s with heap := h', toks := tk' }) : wpAny M A t Q E s :=
  wpAny_mono h (fun f s' ⟨e, h', tk', n', e', F', N', p⟩ => by subst e e'; exact k h' tk' n' F' N' p) fun _ _ e => e
/-- the ledger of _law_frame: the source, the list of components, the rest -/
inductive GSt (l lc : Addr) (rest : Led) (k : Nat) (n : Led) : Prop
  | mk (o' : Obj) (ys : List Value) (c : Nat) (rest2 fd : Led) (cs : List C4) (e : n = (l, o') :: (lc, listOf ys.toArray c) :: rest2) (hs : Src l o') (hfd : rest2 = fd ++ rest) (hnew : ∀ p ∈ fd, @LT.lt Nat _ lc p.1) (hD : DatAll fd ys (cs.map compDat)) (hlen : cs.length = k) (hok : ∀ c ∈ cs, c4Ok c) : GSt l lc rest k n
theorem gst_step {l lc x : Addr} {o' : Obj} {ys : List Value} {c tn i : Nat} {rest rest2 fd : Led} {cs : List C4} {a1 a2 a3 a4 : Int} {t1 t2 t3 t4 : Tok} (hs : Src l o') (hfd : rest2 = fd ++ rest) (hnew : ∀ p ∈ fd, @LT.lt Nat _ lc p.1) (hD : DatAll fd ys (cs.map compDat)) (hlen : cs.length = i) (hok : ∀ c ∈ cs, c4Ok c)
    (hx : @LT.lt Nat _ lc x) (h1 : 0 ≤ a1 ∧ a1 ≤ 255) (h2 : 0 ≤ a2 ∧ a2 ≤ 5) (h3 : 0 ≤ a3 ∧ a3 ≤ 5) (h4 : 0 ≤ a4) (h5 : a4 ≤ 4) : GSt l lc rest (i + 1) ((l, o') :: (lc, listOf (ys ++ [Value.ref x]).toArray (c + 1)) :: (x, tupN [.int a1 t1, .int a2 t2, .int a3 t3, .int a4 t4] tn) :: rest2) := by
  refine ⟨o', ys ++ [.ref x], c + 1, (x, tupN [.int a1 t1, .int a2 t2, .int a3 t3, .int a4 t4] tn) :: rest2, (x, tupN [.int a1 t1, .int a2 t2, .int a3 t3, .int a4 t4] tn) :: fd, cs ++ [(a1, a2, a3, a4)], rfl, hs, by rw [hfd]; rfl, fun p hp => ?_, ?_, ?_, fun c hc => ?_⟩
  · rcases List.mem_cons.mp hp with rfl | hp
    · exact hx
    · exact hnew p hp
  · rw [List.map_append]
    exact (hD.mono fun p hp => .tail _ hp).append (DatAll.one (comp_dat (c := (a1, a2, a3, a4)) (.head _)))
  · rw [List.length_append, hlen]; rfl
  · rcases List.mem_append.mp hc with hc | hc
    · exact hok c hc
    · rw [List.mem_singleton.mp hc]
      exact ⟨h1, h2, h3, h4, h5⟩
theorem two_inv {n : Led} {ys : List Value} {c0 c1 : C4} {ds : List Dat} (h : DatAll n ys (compDat c0 :: compDat c1 :: ds)) : ∃ y0 y1 r k0 k1 t1 t2 t3 t4 u1 u2 u3 u4, ys = .ref y0 :: .ref y1 :: r ∧ (y0, tupN [.int c0.1 t1, .int c0.2.1 t2, .int c0.2.2.1 t3, .int c0.2.2.2 t4] k0) ∈ n ∧ (y1, tupN [.int c1.1 u1, .int c1.2.1 u2, .int c1.2.2.1 u3, .int c1.2.2.2 u4] k1) ∈ n ∧ DatAll n r ds := by
  cases h with
  | cons a b =>
    cases b with
    | cons b d =>
      obtain ⟨y0, k0, t1, t2, t3, t4, rfl, h0⟩ := comp_inv a
      obtain ⟨y1, k1, u1, u2, u3, u4, rfl, h1⟩ := comp_inv b
      exact ⟨_, _, _, _, _, _, _, _, _, _, _, _, _, rfl, h0, h1, d⟩
theorem gst_swap {l lc x : Addr} {o' : Obj} {y0 : Addr} {r : List Value} {c tn i : Nat} {rest rest2 fd : Led} {c0 c1 : C4} {cs : List C4} {t1 t2 t3 t4 : Tok} (hs : Src l o') (hfd : rest2 = fd ++ rest) (hnew : ∀ p ∈ fd, @LT.lt Nat _ lc p.1) (h0 : DatIn fd (.ref y0) (compDat c0)) (hD : DatAll fd r (cs.map compDat)) (hlen : (c0 :: c1 :: cs).length = i) (hok : ∀ c ∈ c0 :: c1 :: cs, c4Ok c)
    (hx : @LT.lt Nat _ lc x) : GSt l lc rest i ((l, o') :: (lc, listOf (Value.ref y0 :: Value.ref x :: r).toArray c) :: (x, tupN [.int c0.1 t1, .int c1.2.1 t2, .int c1.2.2.1 t3, .int c1.2.2.2 t4] tn) :: rest2) := by
  refine ⟨o', .ref y0 :: .ref x :: r, c, (x, tupN [.int c0.1 t1, .int c1.2.1 t2, .int c1.2.2.1 t3, .int c1.2.2.2 t4] tn) :: rest2, (x, tupN [.int c0.1 t1, .int c1.2.1 t2, .int c1.2.2.1 t3, .int c1.2.2.2 t4] tn) :: fd, c0 :: (c0.1, c1.2) :: cs, rfl, hs, by rw [hfd]; rfl, fun p hp => ?_, ?_, ?_, fun c hc => ?_⟩
  · rcases List.mem_cons.mp hp with rfl | hp
    · exact hx
    · exact hnew p hp
  · exact .cons (h0.mono fun p hp => .tail _ hp) (.cons (comp_dat (c := (c0.1, c1.2)) (.head _)) (hD.mono fun p hp => .tail _ hp))
  · rw [← hlen]; rfl
  · rcases List.mem_cons.mp hc with rfl | hc
    · exact hok _ (.head _)
    · rcases List.mem_cons.mp hc with rfl | hc
      · exact ⟨(hok c0 (.head _)).1, (hok c1 (.tail _ (.head _))).2⟩
      · exact hok c (.tail _ (.tail _ hc))
theorem gst_off1 {l lc : Addr} {rest rest3 fd : Led} (hr1 : ∀ p ∈ rest, p.1 ≠ l) (hlc : @LT.lt Nat _ l lc) (hfd : rest3 = fd ++ rest) (hnew : ∀ p ∈ fd, @LT.lt Nat _ lc p.1) : ∀ p ∈ rest3, p.1 ≠ l := fun p hp => by
  subst hfd
  exact (List.mem_append.mp hp).elim (fun q => Nat.ne_of_gt (Nat.lt_trans hlc (hnew p q))) (hr1 p)
theorem gst_off2 {l lc : Addr} {o : Obj} {rest rest3 fd : Led} (hm : ∀ p ∈ (l, o) :: rest, @LT.lt Nat _ p.1 lc) (hfd : rest3 = fd ++ rest) (hnew : ∀ p ∈ fd, @LT.lt Nat _ lc p.1) : ∀ p ∈ rest3, p.1 ≠ lc := fun p hp => by
  subst hfd
  exact (List.mem_append.mp hp).elim (fun q => Nat.ne_of_gt (hnew p q)) fun q => Nat.ne_of_lt (hm _ (.tail _ q))
theorem gst_in {rest rest3 fd : Led} {q : Addr × Obj} (hfd : rest3 = fd ++ rest) (h : q ∈ fd) : q ∈ rest3 := hfd ▸ List.mem_append_left _ h
theorem tup_from1 {prog : Program} {w : World} {A : Around} {E : Value → Shared → Prop} {s : Shared} {h₀ : Heap} {L : Addr} {m : Str → Option Value} {news : Led} {value slice : PySem.Expr} {t : Addr} {v0 v1 v2 v3 : Value} {n : Nat} {u : Tok} {Q : Value → Shared → Prop}
    (F : Fr h₀ L s.heap m) (N : News h₀ L s.heap news) (hm : (t, tupN [v0, v1, v2, v3] n) ∈ news)
    (h : ∀ D h', Fr h₀ L h' m → News h₀ L h' ((D, tupN [v1, v2, v3] 0) :: news) → (∀ p ∈ news, p.1 < D) → Q (.ref D) { s with heap := h' })
    (hs : subscripted slice false (.ref t) (.ref s.heap.objs.size) = operate [.ref s.heap.objs.size, .ref t] (getItem (.ref t) (.ref s.heap.objs.size)))
    (hg : ∀ r, letTemporaryGo value (.ref t) r = pure ()) :
    wpAny (model prog w) A (subscriptTail value slice (.ref t) (.ref s.heap.objs.size)) Q E { s with heap := s.heap.push { cls := .type "slice", data := .fields #[.int 1 u, .none, .none] } } :=
  slice_tuple_from (a := 1) F N (News.isTup N hm) (by decide) (by simp) (fun h' F' N' => h _ h' F' N' fun p hp => Nat.lt_succ_of_lt (Heap.lt_size (N p hp).1)) hs hg (by simp [sizeLine_eq])
theorem menu_mem {ns : List Int} {x d : Int} (h0 : 0 ≤ x) (h1 : x < (ns.length : Int)) : ns.getD x.toNat d ∈ ns := by
  have hl : x.toNat < ns.length := by omega
  rw [List.getD_eq_getElem?_getD, List.getElem?_eq_getElem hl]
  exact List.getElem_mem hl
theorem codes_a {x : Int} (h0 : 0 ≤ x) (h1 : x < 7) : codes11 ([192, 193, 194, 195, 201, 202, 203].getD x.toNat 0) := by
  have h := menu_mem (ns := [192, 193, 194, 195, 201, 202, 203]) (d := 0) h0 h1
  refine .inl ?_
  unfold codes7
  generalize List.getD _ _ _ = c at h
  simp at h
  exact h
theorem codes_b {x : Int} (h0 : 0 ≤ x) (h1 : x < 4) : codes11 ([196, 200, 204, 208].getD x.toNat 0) := by
  have h := menu_mem (ns := [196, 200, 204, 208]) (d := 0) h0 h1
  refine .inr ?_
  generalize List.getD _ _ _ = c at h
  simp at h
  exact h
theorem precs {x : Int} (h0 : 0 ≤ x) (h1 : x < 9) : 0 ≤ [8, 8, 8, 12, 5, 16, 2, 1, 17].getD x.toNat (0 : Int) ∧ [8, 8, 8, 12, 5, 16, 2, 1, 17].getD x.toNat (0 : Int) ≤ 255 := by
  have h := menu_mem (ns := [8, 8, 8, 12, 5, 16, 2, 1, 17]) (d := 0) h0 h1
  generalize List.getD _ _ _ = c at h
  simp at h
  omega
theorem widths {x : Int} {p : Prop} [Decidable p] : 0 ≤ x.fmod 65536 * (if p then (1 : Int) else 0) ∧ x.fmod 65536 * (if p then (1 : Int) else 0) ≤ 65535 := by
  have h := fmod_lo x (show (0 : Int) < 65536 by decide)
  have h2 := fmod_hi x (show (0 : Int) < 65536 by decide)
  by_cases q : p
  · rw [if_pos q]; omega
  · rw [if_neg q]; omega
/-- what _law_frame hands on -/
noncomputable def LFr (l : Addr) (o : Obj) (rest : Led) (v : Value) (news' : Led) : Prop := ∃ o' fd f code prec height width cs, v = .ref f ∧ news' = (l, o') :: (fd ++ rest) ∧ Src l o' ∧ (∀ p ∈ fd, ∀ q ∈ (l, o) :: rest, @Ne Nat q.1 p.1) ∧ DatIn fd (.ref f) (frameDat code prec height width cs) ∧ frOk prec height width cs ∧ codes11 code
theorem lfr_end {l lc x : Addr} {o o' : Obj} {rest rest3 fd : Led} {ys : List Value} {c nn tn : Nat} {cs : List C4} {code prec height width : Int} {t1 t2 t3 t4 : Tok} (hm : ∀ p ∈ (l, o) :: rest, @LT.lt Nat _ p.1 lc) (hs : Src l o') (hfd : rest3 = fd ++ rest) (hnew : ∀ p ∈ fd, @LT.lt Nat _ lc p.1) (hD : DatAll fd ys (cs.map compDat)) (hlen : cs.length = nn) (hn : nn ≤ 4) (hok : ∀ c ∈ cs, c4Ok c)
    (hx : @LT.lt Nat _ lc x) (hc : codes11 code) (hp' : 0 ≤ prec ∧ prec ≤ 255) (hh0 : 0 ≤ height) (hh1 : height < 300) (hw : 0 ≤ width ∧ width ≤ 65535) : LFr l o rest (.ref x) ((l, o') :: (x, tupN [.int code t1, .int prec t2, .int height t3, .int width t4, .ref lc] tn) :: (lc, listOf ys.toArray c) :: rest3) := by
  subst hfd
  refine ⟨o', (x, tupN [.int code t1, .int prec t2, .int height t3, .int width t4, .ref lc] tn) :: (lc, listOf ys.toArray c) :: fd, x, code, prec, height, width, cs, rfl, rfl, hs, fun p hp q hq => ?_, ?_, ⟨hp', ⟨hh0, by omega⟩, hw, by omega, hok⟩, hc⟩
  · have hq2 := hm q hq
    rcases List.mem_cons.mp hp with rfl | hp
    · exact Nat.ne_of_lt (Nat.lt_trans hq2 hx)
    · rcases List.mem_cons.mp hp with rfl | hp
      · exact Nat.ne_of_lt hq2
      · exact Nat.ne_of_lt (Nat.lt_trans hq2 (hnew p hp))
  · exact frame_dat (.head _) (.tail _ (.head _)) (hD.mono fun p hp => .tail _ (.tail _ hp))
theorem two_of {cs : List C4} (h : 1 < cs.length) : ∃ c0 c1 r, cs = c0 :: c1 :: r := by
  match cs, h with
  | [], h => simp at h
  | [_], h => simp at h
  | c0 :: c1 :: r, _ => exact ⟨_, _, _, rfl⟩
theorem wsG1_1 : True := by
  w_top off
  k_with_none
  k_with "ktr_room" => first | exact room1 (by assumption) | exact room3 (by assumption) (Nat.le_of_ble_eq_true rfl) | exact room2 (by assumption) (Nat.le_of_ble_eq_true rfl)
  k_with "ktr_units" => first | exact unit3 (by assumption) (Nat.le_of_ble_eq_true rfl) | exact unit2 (by assumption) (Nat.le_of_ble_eq_true rfl)
  k_with "callWith ref" => (k_here; k_dflt (refine' callWith_K ?cwA ?cwB ?_; (case cwA => k_asm); (case cwB => k_is); k_whole))
  k_with "omega" => first | decide | with_reducible assumption | exact Int.lt_of_le_of_lt (by with_reducible assumption) (by decide) | exact Int.lt_of_lt_of_le (by with_reducible assumption) (by decide) | exact Int.le_trans (by with_reducible assumption) (by decide) | exact lo_tr (by with_reducible assumption) (by decide) | exact lo_le (by with_reducible assumption) (by decide) | exact Nat.le_trans (by with_reducible assumption) (by decide) | exact Nat.lt_of_le_of_lt (by with_reducible assumption) (by decide) | lia
  k_with "k_ne" => (refine neN ?_; (try dsimp only); first | decide | with_reducible assumption | exact Ne.symm (by with_reducible assumption) | (refine Nat.ne_of_gt ?_; (first | with_reducible assumption | exact at1 (by with_reducible assumption) | exact at2 (by with_reducible assumption) | exact at3 (by with_reducible assumption) | exact at4 (by with_reducible assumption) | exact at5 (by with_reducible assumption) | exact at6 (by with_reducible assumption) | exact at7 (by with_reducible assumption) | exact at8 (by with_reducible assumption) | exact up1 (by with_reducible assumption) | exact up2 (by with_reducible assumption) | exact up2 (at1 (by with_reducible assumption)) | exact up2 (at2 (by with_reducible assumption)) | exact up2 (at3 (by with_reducible assumption)) | exact up2 (at4 (by with_reducible assumption)) | exact up1 (at1 (by with_reducible assumption)) | exact up1 (at2 (by with_reducible assumption)) | exact up1 (at3 (by with_reducible assumption)) | exact up1 (at4 (by with_reducible assumption)))) | (refine Nat.ne_of_lt ?_; (first | with_reducible assumption | exact at1 (by with_reducible assumption) | exact at2 (by with_reducible assumption) | exact at3 (by with_reducible assumption) | exact at4 (by with_reducible assumption) | exact at5 (by with_reducible assumption) | exact at6 (by with_reducible assumption) | exact at7 (by with_reducible assumption) | exact at8 (by with_reducible assumption) | exact up1 (by with_reducible assumption) | exact up2 (by with_reducible assumption) | exact up2 (at1 (by with_reducible assumption)) | exact up2 (at2 (by with_reducible assumption)) | exact up2 (at3 (by with_reducible assumption)) | exact up2 (at4 (by with_reducible assumption)) | exact up1 (at1 (by with_reducible assumption)) | exact up1 (at2 (by with_reducible assumption)) | exact up1 (at3 (by with_reducible assumption)) | exact up1 (at4 (by with_reducible assumption)))) | omega)
  k_with "mem_go" => first | with_reducible assumption | exact List.Mem.head _ | (refine List.mem_cons_of_mem _ ?_; (k_extra "mem_go"))
  k_with "sub_go" => first | exact fun _ h => h | exact sub_nil | (refine sub_cons ?hSub ?_; (case hSub => (k_extra "mem_go")); (k_extra "sub_go")) | ((fail_if_success (refine sub_cons ?_ ?_)); refine sub_drop ?_; (k_extra "sub_go")) | with_reducible assumption
  k_with "off_go" => first | exact off_nil | with_reducible assumption | (refine off_cons ?hOff ?_; (case hOff => k_ne); (k_extra "off_go")) | exact off_old (by with_reducible assumption) (by (k_extra "sub_go")) | exact off_sub (by with_reducible assumption) (by (k_extra "sub_go"))
  k_with "k_mem" => (k_extra "mem_go")
  k_with "k_all" => (k_extra "off_go")
  k_with "call ref" => (k_here; (with_reducible refine (?_ : wpAny _ _ (call (Value.ref 327) _) _ _ _)); k_dflt (refine CtK.run0 (by k_asm) (by k_asm) (near_ck (by k_updF) (by assumption) (by decide) (by decide) (by decide)) (by k_asm) (by k_asm) (by k_asm) (by first | rfl | assumption) (by ktr_room) (by ktr_units) (fun x' t' o' b1' b2' s' h' tk' F' N' => ?_)); ((try dsimp only at N')))
  k_with "call ref" => (k_here; (with_reducible refine (?_ : wpAny _ _ (call (Value.ref 320) _) _ _ _)); k_dflt (refine CtK.run0 (by k_asm) (by k_asm) (take_ck (by k_updF) (by assumption) (by decide) (by decide)) (by k_asm) (by k_asm) (by k_asm) (by first | rfl | assumption) (by ktr_room) (by ktr_units) (fun x' t' o' b1' b2' s' h' tk' F' N' => ?_)); ((try dsimp only at N')))
  k_with "newList" => (k_here; (fail_if_success (have zz := lcMade)); k_dflt (refine' newList_K ?k1 ?k2 ?_; (case k1 => k_asm); (case k2 => k_asm)); intro lc h' F' N' l1; (have lcMade := l1); (try k_lt l1))
  k_with "call builtin:list.append" => (k_here; (with_reducible refine (?_ : wpAny _ _ (call (Value.builtin _) [Value.ref _, _]) _ _ _)); k_dflt (refine app_K (by k_asm) (by k_asm) (by k_updF) (by omega) ?_); intro h' F' N'; (try dsimp only at N'))
  k_with "call builtin:len" => (k_here; k_dflt (refine len_news (by k_asm) (by (k_extra "mem_go")) (by assumption) (by omega) ?_); intro _ _)
  k_with "call type:range" => (k_here; (with_reducible refine (?_ : wpAny _ _ (call (Value.type "range") [Value.int _ _]) _ _ _)); (obtain ⟨nn, en⟩ := Int.eq_ofNat_of_zero_le b1'); subst en; k_dflt (refine range1_rows (by k_asm) (by k_asm) ?_); intro _ _ _ _ _ rg' F' N' _)
  k_with "exec For Name Call cons nil" => (k_here; (rename Fr _ _ _ _ => lF'); (with_unfolding_all refine' For_invVF lF' ?k1 ?k2 ?_; (case k1 => exact rfl); (case k2 => exact rfl); k_whole))
  k_with "pyIter ref" => (k_here; (with_reducible refine (?_ : wpAny _ _ (pyIter (Value.ref _)) (fun it s₂ => LoopAtV _ _ _ _ _ _ _ _ _ it s₂) _ _)); (with_unfolding_all refine iter_rangeUnr (by rfl) (by assumption) (rg_small (by omega)) (rg_size _) (by k_asm) (by k_asm) ?_); intro i' l1; (try k_lt l1))
  k_with "exec Assign" => (k_here; (fail_if_success (have zz := split1)); (with_reducible refine (?_ : wpAny _ _ (exec (Stmt.Assign [Expr.Subscript _ _ _] _ _) _) _ _ _)); (obtain ⟨c0, c1, cs2, ecs⟩ := two_of (cs := cs) (by omega)); subst ecs; (obtain ⟨y0, y1, ry, k0, k1, t1, t2, t3, t4, u1, u2, u3, u4, ey, hy0, hy1, hDr⟩ := two_inv hD); subst ey; (have hi0 := gst_in hfd hy0); (have hi1 := gst_in hfd hy1); (have split1 : True := trivial))
  k_with "exec If" => (k_here; (fail_if_success (have zz := joined)); (with_reducible refine (?_ : wpAny _ _ (exec (Stmt.If (Expr.BoolOp _ _ _) _ [] _) _) _ _ _)); k_dflt (refine led_join (by k_asm) (GSt l lc rest nn) ?_ ?_); (have joined : True := trivial); rotate_left; (intro h' tk' n2 F' N' g5; obtain ⟨o3, ys3, c3, rest3, fd3, cs3, e5, hs3, hfd3, hnew3, hD3, hlen3, hok3⟩ := g5; subst e5); (have hz1 := gst_off1 hr1 hlc hfd3 hnew3); (have hz2 := gst_off2 lcMade hfd3 hnew3); rotate_left)
  k_with "subscriptTail" => (k_here; (with_reducible refine (?_ : wpAny _ _ (subscriptTail _ _ (Value.ref _) (Value.int _ _)) _ _ _)); k_dflt (refine item_news (by k_asm) (by (k_extra "mem_go")) (by decide) (by decide) (by rfl) (by with_unfolding_all rfl) ?_))
  k_with "subscriptTail" => (k_here; (with_reducible refine (?_ : wpAny _ _ (subscriptTail _ (PySem.Expr.Slice _ _ none _) (Value.ref _) (Value.ref _)) _ _ _)); k_dflt (refine' tup_from1 ?F ?N ?m ?_ ?s ?t; (case F => k_asm); (case N => k_asm); (case m => (k_extra "mem_go")); (case s => with_unfolding_all rfl); (case t => kmk_pure)); intro D' h' F' N' l1; (try k_lt l1))
  k_with "mul_fits" => exact PySem.IntMulOk.of_left (PySem.intBits_le_64 (by omega) (by omega))
  trivial
set_option maxRecDepth 100000 in
set_option maxHeartbeats 8000000 in
theorem lawFrame_ct {w : World} {l : Addr} {o : Obj} {rest : Led} (hs : Src l o) (hr1 : ∀ p ∈ rest, p.1 ≠ l) :
    Ct w 341 [.ref l] ((l, o) :: rest) 8 100 (LFr l o rest) False := by
  intro mean mg mb dp un gd cn csc a' ccd cl outer A₀ base h₀ L m s Q E X B F N T hk hd hu hret hexc
  refine wpAny_call ?_
  k_dflt cell_enter
  k_steps
  have hlc : @LT.lt Nat _ l lc := lcMade _ (.head _)
  refine range_ind (fun i m n => (∃ n2, GSt l lc rest i n2 ∧ ∀ p ∈ n2, p ∈ n) ∧ Off ["turn", "sampling"] m _) ?_ ?_ _ _ _ _ (Nat.zero_add _) ⟨⟨(l, _) :: (lc, listOf [].toArray 0) :: rest, ⟨_, [], 0, rest, [], [], rfl, by assumption, rfl, (fun _ h => nomatch h), DatAll.nil, rfl, fun _ h => nomatch h⟩, by (k_extra "sub_go")⟩, Off.refl⟩ (by (k_extra "off_go"))
  · rintro i m n hi ⟨⟨n2, ⟨o2, ys, c, rest2, fd, cs, rfl, hs2, hfd, hnew, hD, hlen, hok⟩, hin⟩, hm0⟩ hoff tt h tk F2 N2
    have N3 := news_sub N2 (sub_cons (.head _) fun p hp => .tail _ (hin p hp))
    have hi1 : @Ne Nat l i' := hoff _ (hin _ (.head _))
    have hi2 : @Ne Nat lc i' := hoff _ (hin _ (.tail _ (.head _)))
    have hi3 : ∀ p ∈ rest2, p.1 ≠ i' := fun p hp => hoff _ (hin _ (.tail _ (.tail _ hp)))
    have hx1 := gst_off1 hr1 hlc hfd hnew
    have hx2 := gst_off2 lcMade hfd hnew
    have hyl : ys.length = cs.length := by rw [hD.length, List.length_map]
    clear N2 hoff hin
    rw [hm0.form] at F2
    simp only [mask] at F2
    k_steps
    refine UnrEnd.intro (by k_asm) (by k_asm) ((l, _) :: (lc, _) :: _ :: rest2) (sub_cons (.tail _ (.tail _ (.head _))) (sub_cons (.tail _ (.tail _ (.tail _ (.head _)))) (sub_cons (.tail _ (.tail _ (.tail _ (.tail _ (.head _))))) (sub_cons (.head _) fun p hp => .tail _ (.tail _ (.tail _ (.tail _ (.tail _ hp)))))))) ?_ ⟨⟨_, gst_step (by assumption) hfd hnew hD hlen hok (by omega) ⟨by omega, by omega⟩ ⟨by omega, by omega⟩ ⟨by omega, by omega⟩ (by omega) (by omega), fun _ h => h⟩, ?_⟩
    · (k_extra "off_go")
    · (repeat (first | (refine Off.set (by (k_extra "mem_go")) ?_) | exact Off.refl | (refine Off.setR (by (k_extra "mem_go")) ?_)))
  · rintro m n ⟨⟨n2, ⟨o2, ys, c, rest2, fd, cs, rfl, hs2, hfd, hnew, hD, hlen, hok⟩, hin⟩, hm0⟩ h tk F2 N2
    have N3 := news_sub N2 hin
    have hx1 := gst_off1 hr1 hlc hfd hnew
    have hx2 := gst_off2 lcMade hfd hnew
    have hyl : ys.length = nn := by rw [hD.length, List.length_map, hlen]
    clear N2 hin
    rw [hm0.form] at F2
    simp only [mask] at F2
    k_steps
    · exact ⟨rfl, _, _, _, rfl, by k_asm, news_sub (by k_asm) (sub_cons (.tail _ (.tail _ (.tail _ (.head _)))) (sub_cons (.tail _ (.tail _ (.tail _ (.tail _ (.head _))))) (sub_cons (.head _) fun p hp => .tail _ (.tail _ (.tail _ (.tail _ (.tail _ hp))))))), gst_swap (c1 := c1) (by assumption) hfd hnew (comp_dat hy0) hDr hlen hok (by omega)⟩
    iterate 2 exact ⟨rfl, _, _, _, rfl, by k_asm, by k_asm, _, _, _, _, _, _, rfl, by assumption, hfd, hnew, hD, hlen, hok⟩
    all_goals exact hret _ _ _ _ (by k_asm) (news_sub (by k_asm) (sub_cons (by (k_extra "mem_go")) (sub_cons (.head _) (sub_cons (by (k_extra "mem_go")) (by (k_extra "sub_go")))))) (lfr_end lcMade (by assumption) hfd3 hnew3 hD3 hlen3 (by omega) hok3 (by omega) (by first | exact codes_a (by assumption) (by assumption) | exact codes_b (by assumption) (by assumption)) (precs (by assumption) (by assumption)) (by assumption) (by assumption) widths)
theorem lawFrame_ck {w : World} {l : Addr} {o : Obj} {rest : Led} (hs : Src l o) (hr1 : ∀ p ∈ rest, p.1 ≠ l) : CtK w 341 [.ref l] ((l, o) :: rest) 8 100 (fun φ => ∀ o' fd f code prec height width cs, Src l o' → (∀ p ∈ fd, ∀ q ∈ (l, o) :: rest, @Ne Nat q.1 p.1) → DatIn fd (.ref f) (frameDat code prec height width cs) → frOk prec height width cs → codes11 code → φ (.ref f) ((l, o') :: (fd ++ rest))) False :=
  (lawFrame_ct hs hr1).k fun _ h _ _ ⟨o', fd, f, code, prec, height, width, cs, e1, e2, a1, a2, a3, a4, a5⟩ => by subst e1 e2; exact h o' fd f code prec height width cs a1 a2 a3 a4 a5
-- part G2
theorem wsG2_0 : True := by
  w_top off
  k_with_none
  k_with "ktr_room" => first | exact room1 (by assumption) | exact room3 (by assumption) (Nat.le_of_ble_eq_true rfl) | exact room2 (by assumption) (Nat.le_of_ble_eq_true rfl)
  k_with "ktr_units" => first | exact unit3 (by assumption) (Nat.le_of_ble_eq_true rfl) | exact unit2 (by assumption) (Nat.le_of_ble_eq_true rfl)
  k_with "callWith ref" => (k_here; k_dflt (refine' callWith_K ?cwA ?cwB ?_; (case cwA => k_asm); (case cwB => k_is); k_whole))
  k_with "omega" => first | decide | with_reducible assumption | exact Int.lt_of_le_of_lt (by with_reducible assumption) (by decide) | exact Int.lt_of_lt_of_le (by with_reducible assumption) (by decide) | exact Int.le_trans (by with_reducible assumption) (by decide) | exact lo_tr (by with_reducible assumption) (by decide) | exact lo_le (by with_reducible assumption) (by decide) | exact Nat.le_trans (by with_reducible assumption) (by decide) | exact Nat.lt_of_le_of_lt (by with_reducible assumption) (by decide) | lia
  k_with "k_ne" => (refine neN ?_; (try dsimp only); first | decide | with_reducible assumption | exact Ne.symm (by with_reducible assumption) | (refine Nat.ne_of_gt ?_; (first | with_reducible assumption | exact at1 (by with_reducible assumption) | exact at2 (by with_reducible assumption) | exact at3 (by with_reducible assumption) | exact at4 (by with_reducible assumption) | exact at5 (by with_reducible assumption) | exact at6 (by with_reducible assumption) | exact at7 (by with_reducible assumption) | exact at8 (by with_reducible assumption) | exact up1 (by with_reducible assumption) | exact up2 (by with_reducible assumption) | exact up2 (at1 (by with_reducible assumption)) | exact up2 (at2 (by with_reducible assumption)) | exact up2 (at3 (by with_reducible assumption)) | exact up2 (at4 (by with_reducible assumption)) | exact up1 (at1 (by with_reducible assumption)) | exact up1 (at2 (by with_reducible assumption)) | exact up1 (at3 (by with_reducible assumption)) | exact up1 (at4 (by with_reducible assumption)))) | (refine Nat.ne_of_lt ?_; (first | with_reducible assumption | exact at1 (by with_reducible assumption) | exact at2 (by with_reducible assumption) | exact at3 (by with_reducible assumption) | exact at4 (by with_reducible assumption) | exact at5 (by with_reducible assumption) | exact at6 (by with_reducible assumption) | exact at7 (by with_reducible assumption) | exact at8 (by with_reducible assumption) | exact up1 (by with_reducible assumption) | exact up2 (by with_reducible assumption) | exact up2 (at1 (by with_reducible assumption)) | exact up2 (at2 (by with_reducible assumption)) | exact up2 (at3 (by with_reducible assumption)) | exact up2 (at4 (by with_reducible assumption)) | exact up1 (at1 (by with_reducible assumption)) | exact up1 (at2 (by with_reducible assumption)) | exact up1 (at3 (by with_reducible assumption)) | exact up1 (at4 (by with_reducible assumption)))) | omega)
  k_with "mem_go" => first | with_reducible assumption | exact List.Mem.head _ | (refine List.mem_cons_of_mem _ ?_; (k_extra "mem_go"))
  k_with "sub_go" => first | exact fun _ h => h | exact sub_nil | (refine sub_cons ?hSub ?_; (case hSub => (k_extra "mem_go")); (k_extra "sub_go")) | ((fail_if_success (refine sub_cons ?_ ?_)); refine sub_drop ?_; (k_extra "sub_go")) | with_reducible assumption
  k_with "off_go" => first | exact off_nil | with_reducible assumption | (refine off_cons ?hOff ?_; (case hOff => k_ne); (k_extra "off_go")) | exact off_old (by with_reducible assumption) (by (k_extra "sub_go")) | exact off_sub (by with_reducible assumption) (by (k_extra "sub_go"))
  k_with "k_mem" => (k_extra "mem_go")
  k_with "k_all" => (k_extra "off_go")
  trivial
/-- what _law_scan hands on -/
noncomputable def LSc (l : Addr) (o : Obj) (rest : Led) (v : Value) (news' : Led) : Prop := ∃ o' fd f n1 n2 n3 st en hi lo, v = .ref f ∧ news' = (l, o') :: (fd ++ rest) ∧ Src l o' ∧ (∀ p ∈ fd, ∀ q ∈ (l, o) :: rest, @Ne Nat q.1 p.1) ∧ DatIn fd (.ref f) (scanDat n1 n2 n3 st en hi lo) ∧ scOk n1 n2 n3 st en hi lo
theorem off3_upd {I C D l : Addr} {o2 o3 : Obj} {pre rest n : Led} (h : LCg.Off3 I C D n) (hb : ∀ p ∈ pre ++ (l, o2) :: rest, p ∈ n) : LCg.Off3 I C D (pre ++ (l, o3) :: rest) := LCg.Off3.of fun p hp => by
  rcases List.mem_append.mp hp with hp | hp
  · exact h.mem p (hb p (List.mem_append_left _ hp))
  · rcases List.mem_cons.mp hp with rfl | hp
    · exact h.mem (l, o2) (hb _ (List.mem_append_right _ (.head _)))
    · exact h.mem p (hb p (List.mem_append_right _ (.tail _ hp)))
theorem off3_ins {I C D l d : Addr} {o x : Obj} {pre rest : Led} (h : LCg.Off3 I C D (pre ++ (l, o) :: rest)) (h1 : @Ne Nat I d) (h2 : @Ne Nat C d) (h3 : @Ne Nat D d) : LCg.Off3 I C D (pre ++ (l, o) :: (d, x) :: rest) := LCg.Off3.of fun p hp => by
  rcases List.mem_append.mp hp with hp | hp
  · exact h.mem p (List.mem_append_left _ hp)
  · rcases List.mem_cons.mp hp with rfl | hp
    · exact h.mem (l, o) (List.mem_append_right _ (.head _))
    · rcases List.mem_cons.mp hp with rfl | hp
      · exact ⟨Ne.symm h1, Ne.symm h2, Ne.symm h3⟩
      · exact h.mem p (List.mem_append_right _ (.tail _ hp))
theorem new_ne {l R : Addr} {o o6 : Obj} {led rest : Led} (h : ∀ p ∈ led, @LT.lt Nat _ p.1 R) (hl : (l, o6) ∈ led) (hr : ∀ p ∈ rest, p ∈ led) : ∀ q ∈ (l, o) :: rest, @Ne Nat q.1 R := fun q hq => by
  rcases List.mem_cons.mp hq with rfl | hq
  · exact Nat.ne_of_lt (show @LT.lt Nat _ l R from h (l, o6) hl)
  · exact Nat.ne_of_lt (h q (hr q hq))
theorem off_ne {l R : Addr} {o o6 : Obj} {led rest : Led} (h : ∀ p ∈ led, @Ne Nat p.1 R) (hl : (l, o6) ∈ led) (hr : ∀ p ∈ rest, p ∈ led) : ∀ q ∈ (l, o) :: rest, @Ne Nat q.1 R := fun q hq => by
  rcases List.mem_cons.mp hq with rfl | hq
  · exact (show @Ne Nat l R from h (l, o6) hl)
  · exact h q (hr q hq)
theorem getD_or {ns : List Int} {k : Nat} : ns.getD k 0 = 0 ∨ ns.getD k 0 ∈ ns := by
  by_cases h : k < ns.length
  · exact .inr (by rw [List.getD_eq_getElem?_getD, List.getElem?_eq_getElem h]; exact List.getElem_mem h)
  · exact .inl (by rw [List.getD_eq_getElem?_getD, List.getElem?_eq_none (by omega)]; rfl)
theorem set_in {ns : List Int} {j k : Nat} (h : ∀ x ∈ ns, 0 ≤ x ∧ x ≤ 255) : ∀ x ∈ ns.set j (ns.getD k 0), 0 ≤ x ∧ x ≤ 255 := fun x hx => by
  rcases List.mem_or_eq_of_mem_set hx with hx | rfl
  · exact h x hx
  · rcases getD_or (ns := ns) (k := k) with e | e
    · rw [e]; decide
    · exact h _ e
theorem ints_one {ys : List Value} {ns : List Int} {x : Int} {t : Tok} (h : IntsAre ys ns) : IntsAre (ys ++ [.int x t]) (ns ++ [x]) := h.append (by constructor; constructor)
theorem snoc_in {ns : List Int} {x a b : Int} (h : ∀ y ∈ ns, a ≤ y ∧ y ≤ b) (h1 : a ≤ x) (h2 : x ≤ b) : ∀ y ∈ ns ++ [x], a ≤ y ∧ y ≤ b := fun y hy => by
  rcases List.mem_append.mp hy with hy | hy
  · exact h y hy
  · rw [List.mem_singleton.mp hy]; exact ⟨h1, h2⟩
theorem cols_two {n : Led} {ys : List Value} {cols : List (List Int)} (h : DatAll n ys (cols.map intsDat)) (h2 : cols.length = 2) : ∃ e0 e1 w0 w1 k0 k1 c0 c1, ys = [.ref e0, .ref e1] ∧ cols = [c0, c1] ∧ (e0, listOf w0.toArray k0) ∈ n ∧ (e1, listOf w1.toArray k1) ∈ n ∧ IntsAre w0 c0 ∧ IntsAre w1 c1 := by
  match cols, h2, h with
  | [c0, c1], _, h =>
    cases h with
    | cons a h =>
      cases h with
      | cons b h =>
        cases h
        obtain ⟨e0, w0, k0, rfl, m0, i0⟩ := ints_inv a
        obtain ⟨e1, w1, k1, rfl, m1, i1⟩ := ints_inv b
        exact ⟨_, _, _, _, _, _, _, _, rfl, rfl, m0, m1, i0, i1⟩
theorem lsc_end {l R D e0 e1 : Addr} {o o' : Obj} {fd rest : Led} {ys w0 w1 : List Value} {c k0 k1 kr nn : Nat} {ns c0 c1 : List Int} {st en hi lo : Int} {t1 t2 t3 t4 : Tok} (hs : Src l o') (hR : ∀ q ∈ (l, o) :: rest, @Ne Nat q.1 R) (hD : ∀ q ∈ (l, o) :: rest, @Ne Nat q.1 D) (hfd : ∀ p ∈ fd, ∀ q ∈ (l, o) :: rest, @Ne Nat q.1 p.1)
    (hI : IntsAre ys ns) (hlen : ns.length = nn) (hn : nn ≤ 5) (hns : ∀ x ∈ ns, 0 ≤ x ∧ x ≤ 255) (m0 : (e0, listOf w0.toArray k0) ∈ fd) (m1 : (e1, listOf w1.toArray k1) ∈ fd) (i0 : IntsAre w0 c0) (i1 : IntsAre w1 c1) (hc : ∀ c ∈ [c0, c1], c.length = nn ∧ ∀ x ∈ c, 0 ≤ x ∧ x ≤ 4)
    (h1 : 0 ≤ st ∧ st ≤ 64) (h2 : 0 ≤ en ∧ en ≤ 64) (h3 : 0 ≤ hi ∧ hi ≤ 15) (h4 : 0 ≤ lo) (h5 : lo ≤ 15) : LSc l o rest (.ref R) ((l, o') :: (R, listOf [.ref D, .ref e0, .ref e1, .int st t1, .int en t2, .int hi t3, .int lo t4].toArray kr) :: (D, listOf ys.toArray c) :: (fd ++ rest)) := by
  obtain ⟨a1, a2⟩ := hc c0 (.head _)
  obtain ⟨b1, b2⟩ := hc c1 (.tail _ (.head _))
  refine ⟨o', (R, listOf [.ref D, .ref e0, .ref e1, .int st t1, .int en t2, .int hi t3, .int lo t4].toArray kr) :: (D, listOf ys.toArray c) :: fd, R, ns, c0, c1, st, en, hi, lo, rfl, rfl, hs, fun p hp => ?_, scan_dat (.head _) (ints_dat (.tail _ (.head _)) hI) (ints_dat (.tail _ (.tail _ m0)) i0) (ints_dat (.tail _ (.tail _ m1)) i1), ⟨by omega, by omega, by omega⟩, hns, a2, b2, h1, h2, h3, h4, h5⟩
  rcases List.mem_cons.mp hp with rfl | hp
  · exact hR
  · rcases List.mem_cons.mp hp with rfl | hp
    · exact hD
    · exact hfd p hp
/-- a stop of our own -/
noncomputable def HoldP (P : Prop) : Prop := P
theorem hold_in {P : Prop} (h : HoldP P) : P := h
section
variable {prog : Program} {w : World} {A₀ A : Around} {s : Shared} {base h₀ : Heap} {outer : List Env} {L : Addr} {m mg mb : Str → Option Value} {env : Env} {news : Led} {K : Frag} {p : Program} {loose : List Str} {mean : ExcName → Option Value}
  {R : Result → Shared → Prop} {name qual : Str} {params : Arguments} {body : List Stmt} {scope : Scope} {dV kV doc pm cdv ct oc : Value} {an od : Option Addr} {osl : Array (Option Value)} {f : Addr} {args : Args} {binds : List (Str × Value)}
/-- a def whose locals are cells is entered, from any frame -/
theorem enterQ (B : Below A₀ base outer h₀) (F : Fr h₀ L s.heap m) (X₀ : K.In h₀) (N : News h₀ L s.heap news) (T : Top p loose mean mg mb h₀) (hA : A.frames = some (env :: outer)) (hf : env.frame = some L) (hke : env.scope.kind = .function)
    (ho : K.lookup f = some ⟨oc, od, .func (fnX name qual params body scope [] dV kV doc pm an cdv ct), osl⟩) (hcd : codeIn K cdv qual = true) (hroom : A.depth < recursionLimit)
    (hbind : BindsTo s (fnX name qual params body scope [] dV kV doc pm an cdv ct) args binds)
    (hkind : ∀ n, ∀ x ∈ binds, scope.names.lookup x.1 = some .local ∨ (scope.names.lookup x.1 = some .cell ∧ ((cellsFrom n scope.names []).lookup x.1).isSome = true))
    (hnd : ((cellsFrom 0 scope.names []).map (·.1)).Nodup)
    (h : ∀ g L' h₁ tk cells, Fr h₀ L g m → Fr g L' h₁ (bindL (envOfC qual scope L' f cdv).kindOf binds fun _ => none) → News g L' h₁ (cells ++ news) →
      CellsAre (bindC (envOfC qual scope L' f cdv).kindOf binds fun _ => none) (cellsFrom (L' + 1) scope.names []) cells → (∀ p ∈ news, p.1 < L') → Below A base (env :: outer) g → K.In g → Top p loose mean mg mb g →
      wpAny (model prog w) (A.deeper (envOfC qual scope L' f cdv)) (execs body (envOfC qual scope L' f cdv))
        (fun fl s' => LeaveK h₀ L m g R (match fl with | .ret v => v | _ => .none) s')
        (fun e s' => wpAny (model prog w) (A.deeper (envOfC qual scope L' f cdv)) (leaving (envOfC qual scope L' f cdv) e) (fun _ s'' => R (.error e) s'') (fun e' s'' => R (.error e') s'') s')
        { s with heap := h₁, toks := tk })
    (hco : scope.isCoroutine = false) (hgen : scope.isGenerator = false) (hk : scope.kind = .function) : codeAny (model prog w) A (.call (.ref f) args) R s :=
  callX_cells B F N T.nolimit hA hf hke ((X₀.keeps F.keep) _ _ ho) rfl (codeRec_of (X₀.keeps F.keep) hcd) hroom hbind hkind hnd (fun g L' h₁ tk cells FG F' N' Y BG st lt => h g L' h₁ tk cells FG F' N' Y lt BG (X₀.keeps st) (T.keeps st)) hco hgen hk
end
theorem wsG2_1 : True := by
  w_top off
  k_with_none
  k_with "ktr_room" => first | exact room1 (by assumption) | exact room3 (by assumption) (Nat.le_of_ble_eq_true rfl) | exact room2 (by assumption) (Nat.le_of_ble_eq_true rfl)
  k_with "ktr_units" => first | exact unit3 (by assumption) (Nat.le_of_ble_eq_true rfl) | exact unit2 (by assumption) (Nat.le_of_ble_eq_true rfl)
  k_with "callWith ref" => (k_here; k_dflt (refine' callWith_K ?cwA ?cwB ?_; (case cwA => k_asm); (case cwB => k_is); k_whole))
  k_with "omega" => first | decide | with_reducible assumption | exact Int.lt_of_le_of_lt (by with_reducible assumption) (by decide) | exact Int.lt_of_lt_of_le (by with_reducible assumption) (by decide) | exact Int.le_trans (by with_reducible assumption) (by decide) | exact lo_tr (by with_reducible assumption) (by decide) | exact lo_le (by with_reducible assumption) (by decide) | exact Nat.le_trans (by with_reducible assumption) (by decide) | exact Nat.lt_of_le_of_lt (by with_reducible assumption) (by decide) | lia
  k_with "k_ne" => (refine neN ?_; (try dsimp only); first | decide | with_reducible assumption | exact Ne.symm (by with_reducible assumption) | (refine Nat.ne_of_gt ?_; (first | with_reducible assumption | exact at1 (by with_reducible assumption) | exact at2 (by with_reducible assumption) | exact at3 (by with_reducible assumption) | exact at4 (by with_reducible assumption) | exact at5 (by with_reducible assumption) | exact at6 (by with_reducible assumption) | exact at7 (by with_reducible assumption) | exact at8 (by with_reducible assumption) | exact up1 (by with_reducible assumption) | exact up2 (by with_reducible assumption) | exact up2 (at1 (by with_reducible assumption)) | exact up2 (at2 (by with_reducible assumption)) | exact up2 (at3 (by with_reducible assumption)) | exact up2 (at4 (by with_reducible assumption)) | exact up1 (at1 (by with_reducible assumption)) | exact up1 (at2 (by with_reducible assumption)) | exact up1 (at3 (by with_reducible assumption)) | exact up1 (at4 (by with_reducible assumption)))) | (refine Nat.ne_of_lt ?_; (first | with_reducible assumption | exact at1 (by with_reducible assumption) | exact at2 (by with_reducible assumption) | exact at3 (by with_reducible assumption) | exact at4 (by with_reducible assumption) | exact at5 (by with_reducible assumption) | exact at6 (by with_reducible assumption) | exact at7 (by with_reducible assumption) | exact at8 (by with_reducible assumption) | exact up1 (by with_reducible assumption) | exact up2 (by with_reducible assumption) | exact up2 (at1 (by with_reducible assumption)) | exact up2 (at2 (by with_reducible assumption)) | exact up2 (at3 (by with_reducible assumption)) | exact up2 (at4 (by with_reducible assumption)) | exact up1 (at1 (by with_reducible assumption)) | exact up1 (at2 (by with_reducible assumption)) | exact up1 (at3 (by with_reducible assumption)) | exact up1 (at4 (by with_reducible assumption)))) | omega)
  k_with "mem_go" => first | with_reducible assumption | exact List.Mem.head _ | (refine List.mem_cons_of_mem _ ?_; (k_extra "mem_go"))
  k_with "sub_go" => first | exact fun _ h => h | exact sub_nil | (refine sub_cons ?hSub ?_; (case hSub => (k_extra "mem_go")); (k_extra "sub_go")) | ((fail_if_success (refine sub_cons ?_ ?_)); refine sub_drop ?_; (k_extra "sub_go")) | with_reducible assumption
  k_with "off_go" => first | exact off_nil | with_reducible assumption | (refine off_cons ?hOff ?_; (case hOff => k_ne); (k_extra "off_go")) | exact off_old (by with_reducible assumption) (by (k_extra "sub_go")) | exact off_sub (by with_reducible assumption) (by (k_extra "sub_go"))
  k_with "k_mem" => (k_extra "mem_go")
  k_with "k_all" => (k_extra "off_go")
  k_with "call ref" => (k_here; (with_reducible refine (?_ : wpAny _ _ (call (Value.ref 327) _) _ _ _)); k_dflt (refine CtK.run0 (by k_asm) (by k_asm) (near_ck (by k_updF) (by assumption) (by decide) (by decide) (by decide)) (by k_asm) (by k_asm) (by k_asm) (by first | rfl | assumption) (by ktr_room) (by ktr_units) (fun x' t' o' b1' b2' s' h' tk' F' N' => ?_)); ((try dsimp only at N')))
  k_with "call ref" => (k_here; (with_reducible refine (?_ : wpAny _ _ (call (Value.ref 320) _) _ _ _)); k_dflt (refine CtK.run0 (by k_asm) (by k_asm) (take_ck (by k_updF) (by assumption) (by decide) (by decide)) (by k_asm) (by k_asm) (by k_asm) (by first | rfl | assumption) (by ktr_room) (by ktr_units) (fun x' t' o' b1' b2' s' h' tk' F' N' => ?_)); ((try dsimp only at N')))
  k_with "call type:range" => (k_here; (with_reducible refine (?_ : wpAny _ _ (call (Value.type "range") [Value.int _ _]) _ _ _)); (try ((fail_if_success (have zz := hnn)); (obtain ⟨nn, hnn⟩ := Int.eq_ofNat_of_zero_le b1'); subst hnn; have hnn : True := trivial)); k_dflt (refine range1_rows (by k_asm) (by k_asm) ?_); intro _ _ _ _ _ rg' F' N' _)
  k_with "exec If" => (k_here; (fail_if_success (have zz := joined)); (with_reducible refine (?_ : wpAny _ _ (exec (Stmt.If (Expr.BoolOp _ _ _) _ [] _) _) _ _ _)); k_dflt (refine led_join (by k_asm) (fun n2 => ∃ (ys2 : List Value) (c2 : Nat) (ns2 : List Int) (o3 : Obj), n2 = (D1, listOf ys2.toArray c2) :: (L' + 1 + 1, om) :: (L' + 1, oc2) :: (l, o3) :: rest ∧ Src l o3 ∧ IntsAre ys2 ns2 ∧ ns2.length = nn ∧ ∀ x ∈ ns2, 0 ≤ x ∧ x ≤ 255) ?_ ?_); (have joined : True := trivial); rotate_left; (rintro h' tk' n2 F' N' ⟨ys2, c2, ns2, o3, e5, hs3, hI2, hlen2, hns2⟩; subst e5); rotate_left)
  k_with "subscriptTail" => (k_here; (with_reducible refine (?_ : wpAny _ _ (subscriptTail _ _ (Value.ref _) (Value.int _ _)) _ _ _)); k_dflt (refine item_news (by k_asm) (by (k_extra "mem_go")) (by decide) (by decide) (by rfl) (by with_unfolding_all rfl) ?_))
  k_with "exec Assign cons ListComp" => (k_here; k_dflt (refine LCg.Assign_ListComp_U (F₀ := by k_asm) (by rfl) (by with_unfolding_all rfl) (by with_unfolding_all rfl) (by decide) (by rfl) (by decide) (by rfl) (by rfl) (by rfl) ?_))
  k_with "eval ListComp" => (k_here; k_dflt (refine LCg.ListComp_U (F₀ := by k_asm) (by rfl) (by decide) (by rfl) (by decide) (by rfl) ?_))
  k_with "CompSrc" => (k_here; refine hold_in ?_)
  trivial
set_option maxRecDepth 100000 in
set_option maxHeartbeats 8000000 in
theorem lawScan_ct {w : World} {l : Addr} {o : Obj} {rest : Led} (hs : Src l o) (hr1 : ∀ p ∈ rest, p.1 ≠ l) :
    Ct w 375 [.ref l] ((l, o) :: rest) 8 100 (LSc l o rest) False := by
  intro mean mg mb dp un gd cn csc a' ccd cl outer A₀ base h₀ L m s Q E X B F N T hk hd hu hret hexc
  refine wpAny_call ?_
  k_dflt (refine' enterQ ?k1 ?k2 ?k3 ?k4 ?k5 ?kA ?kF ?kK ?k6 ?k7 ?k8 ?k9 ?kB ?kN ?_ ?c2 ?c3 ?c4; (case kA => exact rfl); (case kF => exact rfl); (case kK => assumption); (case k1 => k_asm); (case k2 => k_asm); (case k3 => k_asm); (case k4 => k_asm); (case k5 => k_asm); (case k6 => k_is); (case k7 => k_is); (case k8 => ktr_room); (case k9 => exact BindsTo.of_eq rfl); (case kB => exact kindsX rfl); (case kN => decide +kernel); (case c2 => exact rfl); (case c3 => exact rfl); (case c4 => exact rfl); k_whole; intro g' L' h' tk' cells' FG' F' N' Y' l1 B' X' T'; (try k_lt l1); (first | (obtain ⟨oc1, hE', dc1⟩ := CellsAre.one Y'; subst hE'; clear Y') | (obtain ⟨oc1, oc2, hE', dc1, dc2⟩ := CellsAre.two Y'; subst hE'; clear Y')); (try simp only [List.cons_append, List.nil_append] at N'); (try dsimp only); (try k_fold))
  have hxa : ∀ p ∈ rest, p.1 ≠ L' + 1 := by rename ∀ p : Addr × Obj, p ∈ _ :: _ → p.1 < L' => hLt; exact fun p hp => Nat.ne_of_lt (Nat.lt_succ_of_lt (hLt p (.tail _ hp)))
  have hxb : ∀ p ∈ rest, p.1 ≠ L' + 1 + 1 := by rename ∀ p : Addr × Obj, p ∈ _ :: _ → p.1 < L' => hLt; exact fun p hp => Nat.ne_of_lt (Nat.lt_succ_of_lt (Nat.lt_succ_of_lt (hLt p (.tail _ hp))))
  k_steps
  have hlL : @LT.lt Nat _ l L' := l1.1
  unfold HoldP
  refine LCg.CompSrc.range (by rfl) (by k_asm) (by k_asm) rg' (rg_small (by omega)) (rg_size _) (by rw [sizeLine_eq]; omega) ?_
  intro g
  refine comp_ind (n₀ := nn) (fun i ys n => ∃ om tm o2 ns, om.data = Data.cell (some (.int (nn : Int) tm)) ∧ Src l o2 ∧ (∀ p ∈ [(L' + 1 + 1, om), (L' + 1, oc2)] ++ (l, o2) :: rest, p ∈ n) ∧ IntsAre ys ns ∧ ns.length = i ∧ ∀ x ∈ ns, 0 ≤ x ∧ x ≤ 255) ?_ ?_ _ 0 [] _ (Nat.zero_add _) ⟨_, _, _, [], by assumption, s', by (k_extra "sub_go"), IntsAre.nil, rfl, fun _ h => nomatch h⟩ trivial
  · rintro i ys n hi ⟨om, tm, o2, ns, dm, hs2, hb, hI, hln, hns⟩ hS v I oI C oC D m₂ h tk E' ⟨tv, rfl⟩ hC2 hx2 F3 N3 hoff hne
    have N4 := news_sub N3 (sub_cons (.head _) (sub_cons (.tail _ (.head _)) (sub_cons (.tail _ (.tail _ (.head _))) fun p hp => .tail _ (.tail _ (.tail _ (hb p hp))))))
    obtain ⟨q1, q2, q3⟩ : @Ne Nat l I ∧ @Ne Nat l C ∧ @Ne Nat l D := hoff.mem _ (hb _ (.tail _ (.tail _ (.head _))))
    clear N3
    dsimp only [List.cons_append, List.nil_append] at N4
    k_steps
    refine LCg.CompEnd.intro (by k_asm) (by k_asm) ([(L' + 1 + 1, om), (L' + 1, oc2)] ++ (l, _) :: rest) (fun _ h => h) (off3_upd hoff hb) trivial ⟨om, tm, _, ns ++ [_], dm, by assumption, fun _ h => h, ints_one hI, by rw [List.length_append, hln]; rfl, snoc_in hns (by omega) (by omega)⟩
  · rintro ys n ⟨om, tm, o2, ns, dm, hs2, hb, hI, hln, hns⟩ hS
    unfold LCg.FinA
    intro D1 hD1 tkD F4 N4 hO1
    have N5 := news_sub N4 (sub_cons (.head _) fun p hp => .tail _ (hb p hp))
    have hO := fun p hp => off1_mem hO1 p (hb p hp)
    have hq1 : @Ne Nat (L' + 1 + 1) D1 := hO _ (.head _)
    have hq2 : @Ne Nat (L' + 1) D1 := hO _ (.tail _ (.head _))
    have hq3 : @Ne Nat l D1 := hO _ (.tail _ (.tail _ (.head _)))
    have hq4 : ∀ p ∈ rest, p.1 ≠ D1 := fun p hp => hO _ (.tail _ (.tail _ (.tail _ hp)))
    clear N4 hO hO1
    dsimp only [List.cons_append, List.nil_append] at N5
    k_steps
    · exact ⟨rfl, _, _, _, rfl, by k_asm, by k_asm, _, _, ns.set (Int.toNat 1) (ns.getD (Int.toNat 0) 0), _, rfl, by assumption, by assumption, by rw [List.length_set]; exact hln, set_in hns⟩
    iterate 2 exact ⟨rfl, _, _, _, rfl, by k_asm, by k_asm, _, _, ns, _, rfl, by assumption, hI, hln, hns⟩
    unfold HoldP
    refine LCg.CompSrc.range (n := 2) (by rfl) (by k_asm) (by k_asm) (by assumption) (by decide) (by decide) (by rw [sizeLine_eq]; omega) ?_
    intro g2
    refine comp_ind (n₀ := 2) (fun i zs n => ∃ o4 fd cols, Src l o4 ∧ (∀ p ∈ [(D1, listOf ys2.toArray c2), (L' + 1 + 1, om), (L' + 1, oc2)] ++ (l, o4) :: (fd ++ rest), p ∈ n) ∧ (∀ p ∈ fd, ∀ q ∈ (l, o) :: rest, @Ne Nat q.1 p.1) ∧ DatAll fd zs (cols.map intsDat) ∧ cols.length = i ∧ ∀ c ∈ cols, c.length = nn ∧ ∀ x ∈ c, 0 ≤ x ∧ x ≤ 4) ?_ ?_ _ 0 [] _ (Nat.zero_add _) ⟨_, [], [], hs3, by (k_extra "sub_go"), (fun _ h => nomatch h), DatAll.nil, rfl, fun _ h => nomatch h⟩ trivial
    · rintro i zs n3 hi ⟨o4, fd, cols, hs4, hb4, hfd, hDz, hlc, hcz⟩ hSS v I2 oI2 C2 oC2 D2 m₃ h3 tk3 E3 ⟨tv, rfl⟩ hC3 hx3 F6 N6 hoff2 hne2
      have N7 := news_sub N6 (sub_cons (.head _) (sub_cons (.tail _ (.head _)) (sub_cons (.tail _ (.tail _ (.head _))) fun p hp => .tail _ (.tail _ (.tail _ (hb4 p hp))))))
      obtain ⟨q1, q2, q3⟩ : @Ne Nat l I2 ∧ @Ne Nat l C2 ∧ @Ne Nat l D2 := hoff2.mem _ (hb4 _ (.tail _ (.tail _ (.tail _ (.head _)))))
      have hf0 : ∀ p ∈ fd ++ rest, p.1 ≠ l := fun p hp => (List.mem_append.mp hp).elim (fun h => Ne.symm (hfd p h (l, o) (.head _))) (hr1 p)
      obtain ⟨rest4, hrest4⟩ : ∃ r, r = fd ++ rest := ⟨_, rfl⟩
      rw [← hrest4] at N7 hb4 hf0
      clear N6
      dsimp only [List.cons_append, List.nil_append] at N7
      k_steps
      unfold HoldP
      refine LCg.CompSrc.range (by rfl) (by k_asm) (by k_asm) (by assumption) (rg_small (by omega)) (rg_size _) (by rw [sizeLine_eq]; omega) ?_
      intro g3
      refine comp_ind (n₀ := nn) (fun i xs n => ∃ o5 ms, Src l o5 ∧ (∀ p ∈ [(I2, oI2), (C2, oC2), (D2, LCg.lst zs), (D1, listOf ys2.toArray c2), (L' + 1 + 1, om), (L' + 1, oc2)] ++ (l, o5) :: rest4, p ∈ n) ∧ IntsAre xs ms ∧ ms.length = i ∧ ∀ x ∈ ms, 0 ≤ x ∧ x ≤ 4) ?_ ?_ _ 0 [] _ (Nat.zero_add _) ⟨_, [], hs4, by (k_extra "sub_go"), IntsAre.nil, rfl, fun _ h => nomatch h⟩ trivial
      · rintro i5 xs n5 hi5 ⟨o5, ms, hs5, hb5, hI5, hl5, hm5⟩ hS5 v5 I5 oI5 C5 oC5 D5 m5 h5 tk5 E5 ⟨tv5, rfl⟩ hC5 hx5 F8 N8 hoff5 hne5
        have N9 := news_sub N8 (sub_cons (.head _) (sub_cons (.tail _ (.head _)) (sub_cons (.tail _ (.tail _ (.head _))) fun p hp => .tail _ (.tail _ (.tail _ (hb5 p hp))))))
        obtain ⟨w1, w2, w3⟩ : @Ne Nat l I5 ∧ @Ne Nat l C5 ∧ @Ne Nat l D5 := hoff5.mem _ (hb5 _ (.tail _ (.tail _ (.tail _ (.tail _ (.tail _ (.tail _ (.head _))))))))
        clear N8
        dsimp only [List.cons_append, List.nil_append] at N9
        k_steps
        exact LCg.CompEnd.intro (by k_asm) (by k_asm) ([(I2, oI2), (C2, oC2), (D2, LCg.lst zs), (D1, listOf ys2.toArray c2), (L' + 1 + 1, om), (L' + 1, oc2)] ++ (l, _) :: rest4) (fun _ h => h) (off3_upd hoff5 hb5) trivial ⟨_, ms ++ [_], by assumption, fun _ h => h, ints_one hI5, by rw [List.length_append, hl5]; rfl, snoc_in hm5 (by omega) (by omega)⟩
      · rintro xs n5 ⟨o5, ms, hs5, hb5, hI5, hl5, hm5⟩ hS5
        unfold LCg.FinE
        intro D5 h5 tk5 F8 N8 hO5
        have hO := fun p hp => off1_mem hO5 p (hb5 p hp)
        have hb6 : ∀ p ∈ rest4, p ∈ [(I2, oI2), (C2, oC2), (D2, LCg.lst zs), (D1, listOf ys2.toArray c2), (L' + 1 + 1, om), (L' + 1, oc2)] ++ (l, o5) :: rest4 := fun p hp => List.mem_append_right _ (.tail _ hp)
        refine LCg.CompEnd.intro F8 N8 ([(D1, listOf ys2.toArray c2), (L' + 1 + 1, om), (L' + 1, oc2)] ++ (l, o5) :: (D5, LCg.lst xs) :: rest4) (sub_cons (.tail _ (hb5 _ (.head _))) (sub_cons (.tail _ (hb5 _ (.tail _ (.head _)))) (sub_cons (.tail _ (hb5 _ (.tail _ (.tail _ (.head _))))) (sub_cons (.tail _ (hb5 _ (.tail _ (.tail _ (.tail _ (.head _)))))) (sub_cons (.tail _ (hb5 _ (.tail _ (.tail _ (.tail _ (.tail _ (.head _))))))) (sub_cons (.tail _ (hb5 _ (.tail _ (.tail _ (.tail _ (.tail _ (.tail _ (.head _)))))))) (sub_cons (.tail _ (hb5 _ (.tail _ (.tail _ (.tail _ (.tail _ (.tail _ (.tail _ (.head _))))))))) (sub_cons (.head _) fun p hp => .tail _ (hb5 p (hb6 p hp)))))))))) (off3_ins (off3_upd hoff2 hb4) (hO _ (.head _)) (hO _ (.tail _ (.head _))) (hO _ (.tail _ (.tail _ (.head _))))) trivial ⟨o5, (D5, LCg.lst xs) :: fd, cols ++ [ms], hs5, by rw [hrest4]; exact fun _ h => h, fun p hp => ?_, ?_, by rw [List.length_append, hlc]; rfl, fun c hc => ?_⟩
        · rcases List.mem_cons.mp hp with rfl | hp
          · exact off_ne hO (.tail _ (.tail _ (.tail _ (.tail _ (.tail _ (.tail _ (.head _))))))) fun q hq => hb6 q (hrest4 ▸ List.mem_append_right _ hq)
          · exact hfd p hp
        · rw [List.map_append]
          exact (hDz.mono fun p hp => .tail _ hp).append (DatAll.one (ints_dat (.head _) hI5))
        · rcases List.mem_append.mp hc with hc | hc
          · exact hcz c hc
          · rw [List.mem_singleton.mp hc]
            exact ⟨hl5, hm5⟩
    · rintro zs n3 ⟨o4, fd, cols, hs4, hb4, hfd, hDz, hlc, hcz⟩ hSS
      unfold LCg.FinA
      intro D2 hD2 tk2 F6 N6 hO2
      obtain ⟨e0, e1, w0, w1, k0, k1, col0, col1, rfl, rfl, m0, m1, i0, i1⟩ := cols_two hDz hlc
      have N7 := news_sub N6 (sub_cons (.head _) fun p hp => .tail _ (hb4 p hp))
      have hq5 : @Ne Nat l D2 := off1_mem hO2 _ (hb4 _ (.tail _ (.tail _ (.tail _ (.head _)))))
      have hf0 : ∀ p ∈ fd ++ rest, p.1 ≠ l := fun p hp => (List.mem_append.mp hp).elim (fun h => Ne.symm (hfd p h (l, o) (.head _))) (hr1 p)
      obtain ⟨rest4, hrest4⟩ : ∃ r, r = fd ++ rest := ⟨_, rfl⟩
      rw [← hrest4] at N7 hf0
      clear N6
      dsimp only [List.cons_append, List.nil_append] at N7
      k_steps
      subst hrest4
      have hDD : ∀ q ∈ (l, o) :: rest, @Ne Nat q.1 D1 := fun q hq => by
        rcases List.mem_cons.mp hq with rfl | hq
        · exact hq3
        · exact hq4 q hq
      rename ∀ p : Addr × Obj, p ∈ _ :: _ → p.1 < _ => hLt
      exact hret _ _ _ _ (by k_asm) (news_sub (l := (l, _) :: (_, _) :: (D1, listOf ys2.toArray c2) :: (fd ++ rest)) (by k_asm) (sub_cons (by (k_extra "mem_go")) (sub_cons (.head _) (sub_cons (by (k_extra "mem_go")) (by (k_extra "sub_go")))))) (lsc_end (by assumption) (new_ne hLt (by (k_extra "mem_go")) (fun q hq => by have := List.mem_append_right fd hq; (k_extra "mem_go"))) hDD hfd hI2 hlen2 (by omega) hns2 m0 m1 i0 i1 hcz ⟨by omega, by omega⟩ ⟨by omega, by omega⟩ ⟨by omega, by omega⟩ (by omega) (by omega))
theorem lawScan_ck {w : World} {l : Addr} {o : Obj} {rest : Led} (hs : Src l o) (hr1 : ∀ p ∈ rest, p.1 ≠ l) : CtK w 375 [.ref l] ((l, o) :: rest) 8 100 (fun φ => ∀ o' fd f n1 n2 n3 st en hi lo, Src l o' → (∀ p ∈ fd, ∀ q ∈ (l, o) :: rest, @Ne Nat q.1 p.1) → DatIn fd (.ref f) (scanDat n1 n2 n3 st en hi lo) → scOk n1 n2 n3 st en hi lo → φ (.ref f) ((l, o') :: (fd ++ rest))) False :=
  (lawScan_ct hs hr1).k fun _ h _ _ ⟨o', fd, f, n1, n2, n3, st, en, hi, lo, e1, e2, a1, a2, a3, a4⟩ => by subst e1 e2; exact h o' fd f n1 n2 n3 st en hi lo a1 a2 a3 a4
-- part X2
theorem wsX2_0 : True := by
  w_top off
  k_with_none
  k_with "ktr_room" => first | exact room1 (by assumption) | exact room3 (by assumption) (Nat.le_of_ble_eq_true rfl) | exact room2 (by assumption) (Nat.le_of_ble_eq_true rfl)
  k_with "ktr_units" => first | exact unit3 (by assumption) (Nat.le_of_ble_eq_true rfl) | exact unit2 (by assumption) (Nat.le_of_ble_eq_true rfl)
  k_with "callWith ref" => (k_here; k_dflt (refine' callWith_K ?cwA ?cwB ?_; (case cwA => k_asm); (case cwB => k_is); k_whole))
  k_with "omega" => first | decide | with_reducible assumption | exact Int.lt_of_le_of_lt (by with_reducible assumption) (by decide) | exact Int.lt_of_lt_of_le (by with_reducible assumption) (by decide) | exact Int.le_trans (by with_reducible assumption) (by decide) | exact lo_tr (by with_reducible assumption) (by decide) | exact lo_le (by with_reducible assumption) (by decide) | exact Nat.le_trans (by with_reducible assumption) (by decide) | exact Nat.lt_of_le_of_lt (by with_reducible assumption) (by decide) | lia
  k_with "k_ne" => (refine neN ?_; (try dsimp only); first | decide | with_reducible assumption | exact Ne.symm (by with_reducible assumption) | (refine Nat.ne_of_gt ?_; (first | with_reducible assumption | exact at1 (by with_reducible assumption) | exact at2 (by with_reducible assumption) | exact at3 (by with_reducible assumption) | exact at4 (by with_reducible assumption) | exact at5 (by with_reducible assumption) | exact at6 (by with_reducible assumption) | exact at7 (by with_reducible assumption) | exact at8 (by with_reducible assumption) | exact up1 (by with_reducible assumption) | exact up2 (by with_reducible assumption) | exact up2 (at1 (by with_reducible assumption)) | exact up2 (at2 (by with_reducible assumption)) | exact up2 (at3 (by with_reducible assumption)) | exact up2 (at4 (by with_reducible assumption)) | exact up1 (at1 (by with_reducible assumption)) | exact up1 (at2 (by with_reducible assumption)) | exact up1 (at3 (by with_reducible assumption)) | exact up1 (at4 (by with_reducible assumption)))) | (refine Nat.ne_of_lt ?_; (first | with_reducible assumption | exact at1 (by with_reducible assumption) | exact at2 (by with_reducible assumption) | exact at3 (by with_reducible assumption) | exact at4 (by with_reducible assumption) | exact at5 (by with_reducible assumption) | exact at6 (by with_reducible assumption) | exact at7 (by with_reducible assumption) | exact at8 (by with_reducible assumption) | exact up1 (by with_reducible assumption) | exact up2 (by with_reducible assumption) | exact up2 (at1 (by with_reducible assumption)) | exact up2 (at2 (by with_reducible assumption)) | exact up2 (at3 (by with_reducible assumption)) | exact up2 (at4 (by with_reducible assumption)) | exact up1 (at1 (by with_reducible assumption)) | exact up1 (at2 (by with_reducible assumption)) | exact up1 (at3 (by with_reducible assumption)) | exact up1 (at4 (by with_reducible assumption)))) | omega)
  k_with "mem_go" => first | with_reducible assumption | exact List.Mem.head _ | (refine List.mem_cons_of_mem _ ?_; (k_extra "mem_go"))
  k_with "sub_go" => first | exact fun _ h => h | exact sub_nil | (refine sub_cons ?hSub ?_; (case hSub => (k_extra "mem_go")); (k_extra "sub_go")) | ((fail_if_success (refine sub_cons ?_ ?_)); refine sub_drop ?_; (k_extra "sub_go")) | with_reducible assumption
  k_with "off_go" => first | exact off_nil | with_reducible assumption | (refine off_cons ?hOff ?_; (case hOff => k_ne); (k_extra "off_go")) | exact off_old (by with_reducible assumption) (by (k_extra "sub_go")) | exact off_sub (by with_reducible assumption) (by (k_extra "sub_go"))
  k_with "k_mem" => (k_extra "mem_go")
  k_with "k_all" => (k_extra "off_go")
  trivial
/-- a turn of no frame at all: the ground may stay -/
theorem turn_nil {h₀ h₁ h : Heap} {L : Addr} {m : Str → Option Value} {news : Led} (TT : KtsTurn [] h₀ h₁) (F : Fr h₁ L h m) (N : News h₁ L h news) : Fr h₀ L h m ∧ News h₀ L h news :=
  ⟨⟨F.ns, fun b o e => F.keep b o (TT.other b o e fun q => nomatch q), by rw [← TT.size]; exact F.above⟩, fun p hp => ⟨(N p hp).1, (N p hp).2.1, by
    cases q : h₀.get? p.1 with
    | none => rfl
    | some o =>
      have e := (N p hp).2.2
      rw [TT.other _ _ q fun q => nomatch q] at e
      cases e⟩⟩
section
variable {h₀ h : Heap} {L l : Addr} {o o' : Obj} {fd n : Led} {a b : Addr × Obj} {x1 x2 x3 x4 x5 y1 y2 : Obj}
theorem fr_split (N : News h₀ L h ((l, o) :: (fd ++ [a, b, (391, x1), (398, x2), (362, x3), (367, x4), (405, x5)]))) : News h₀ L h ((l, o) :: (362, x3) :: (367, x4) :: (fd ++ [a, b, (391, x1), (398, x2), (405, x5)])) :=
  news_sub N fun p hp => by
    simp only [List.mem_cons, List.mem_append, List.not_mem_nil, or_false] at hp ⊢
    rcases hp with h | h | h | h | h | h | h | h | h <;> simp only [h, true_or, or_true]
theorem fr_join (hs : ∀ p ∈ (l, o') :: (362, y1) :: (367, y2) :: (fd ++ [a, b, (391, x1), (398, x2), (405, x5)]), p ∈ n) (N : News h₀ L h n) : News h₀ L h [(l, o'), a, b, (391, x1), (398, x2), (362, y1), (367, y2), (405, x5)] :=
  news_sub N fun p hp => hs p (by
    simp only [List.mem_cons, List.mem_append, List.not_mem_nil, or_false] at hp ⊢
    rcases hp with h | h | h | h | h | h | h | h <;> simp only [h, true_or, or_true])
theorem sc_split (N : News h₀ L h ((l, o) :: (fd ++ [a, b, (391, x1), (398, x2), (362, x3), (367, x4), (405, x5)]))) : News h₀ L h ((l, o) :: (391, x1) :: (398, x2) :: (fd ++ [a, b, (362, x3), (367, x4), (405, x5)])) :=
  news_sub N fun p hp => by
    simp only [List.mem_cons, List.mem_append, List.not_mem_nil, or_false] at hp ⊢
    rcases hp with h | h | h | h | h | h | h | h | h <;> simp only [h, true_or, or_true]
theorem sc_join (hs : ∀ p ∈ (l, o') :: (391, y1) :: (398, y2) :: (fd ++ [a, b, (362, x3), (367, x4), (405, x5)]), p ∈ n) (N : News h₀ L h n) : News h₀ L h [(l, o'), a, b, (391, y1), (398, y2), (362, x3), (367, x4), (405, x5)] :=
  news_sub N fun p hp => hs p (by
    simp only [List.mem_cons, List.mem_append, List.not_mem_nil, or_false] at hp ⊢
    rcases hp with h | h | h | h | h | h | h | h <;> simp only [h, true_or, or_true])
theorem fr_off {o0 : Obj} {rest r2 : Led} {t : Addr} {ot : Obj} (hfd : ∀ p ∈ fd, ∀ q ∈ (l, o0) :: rest, @Ne Nat q.1 p.1) (ht : (t, ot) ∈ (l, o0) :: rest) (hr : ∀ p ∈ r2, p.1 ≠ t) : ∀ p ∈ fd ++ r2, p.1 ≠ t := fun p hp =>
  (List.mem_append.mp hp).elim (fun q => Ne.symm (hfd p q _ ht)) (hr p)
end
theorem num_of {n : Int} : numOf2 [n / 256, n % 256] = n := by
  unfold numOf2
  show n / 256 * 256 + n % 256 = n
  omega
theorem readInt_law {w : World} {b : Array UInt8} {tb : Tok} {n : Int} {news : Led} (hb : KBw.bInts b = [n / 256, n % 256]) : Ct w 285 [.bytes b tb] news 14 100 (fun v news' => (∃ t, v = .int n t) ∧ news' = news) False :=
  Ct.weaken (readInterval_ct hb (by simp)) (fun v n' r => ⟨by have := r.1; rwa [num_of] at this, r.2.1⟩) fun h => h rfl
theorem readLines_law {w : World} {b : Array UInt8} {tb : Tok} {n : Int} {news : Led} (hb : KBw.bInts b = [n / 256, n % 256]) : Ct w 299 [.bytes b tb] news 14 100 (fun v news' => (∃ t, v = .int n t) ∧ news' = news ∧ 0 < n) (¬ 0 < n) :=
  Ct.weaken (readLines_ct hb (by simp)) (fun v n' r => ⟨by have := r.1; rwa [num_of] at this, r.2.1, by have := r.2.2.2; rwa [num_of] at this⟩) fun h q => h ⟨rfl, by rwa [num_of]⟩
theorem readInt_lawk {w : World} {b : Array UInt8} {tb : Tok} {n : Int} {news : Led} (hb : KBw.bInts b = [n / 256, n % 256]) : CtK w 285 [.bytes b tb] news 14 100 (fun φ => ∀ t, φ (.int n t) news) False := (readInt_law hb).k kInt2
theorem readLines_lawk {w : World} {b : Array UInt8} {tb : Tok} {n : Int} {news : Led} (hb : KBw.bInts b = [n / 256, n % 256]) : CtK w 299 [.bytes b tb] news 14 100 (fun φ => ∀ t, 0 < n → φ (.int n t) news) (¬ 0 < n) := (readLines_law hb).k kIntP
theorem readLines_none {w : World} {tb : Tok} {news : Led} : CtK w 299 [.bytes #[0, 0] tb] news 14 100 (fun _ => True) (¬ (([0, 0] : List Int).length = 2 ∧ 0 < numOf2 [0, 0])) := (readLines_ct (ns := [0, 0]) rfl (by decide)).k fun _ _ _ _ r => absurd r.2.2.2 (by decide)
theorem holds_k {l P1 P2 : Addr} {rest : Led} : ∀ φ : Value → Led → Prop, (∀ n o' ps1 ps2, Src l o' → (∀ p ∈ (l, o') :: (P1, tabObj ps1) :: (P2, tabObj ps2) :: rest, p ∈ n) → φ (.bool true) n) → ∀ v n, (v = .bool true ∧ ∃ o' ps1 ps2, Src l o' ∧ (∀ p ∈ (l, o') :: (P1, tabObj ps1) :: (P2, tabObj ps2) :: rest, p ∈ n)) → φ v n := fun _ h _ n ⟨e, o', ps1, ps2, hs, hq⟩ => by subst e; exact h n o' ps1 ps2 hs hq
theorem led_join_tab {M : Model} {A : Around} {t : Sem Flow} {Q : Flow → Shared → Prop} {E : Value → Shared → Prop} {s : Shared} {g : Heap} {L P : Addr} {m : Str → Option Value} {news : Led} {ps : Array Value} {gg : Obj → Led} (line col : Nat) (_F : Fr g L s.heap m) (_N : News g L s.heap news) (_U : UpdF P (tabObj ps) news gg)
    (h : wpAny M A t (LedEnd g L m (fun n2 => ∃ c : Addr, n2 = gg (tabObj (ps ++ #[rawInt (line : Int), rawInt (col : Int), Value.ref c]))) s) E s) (k : ∀ (c : Addr) h' tk', Fr g L h' m → News g L h' (gg (tabObj (ps ++ #[rawInt (line : Int), rawInt (col : Int), Value.ref c]))) → Q .next { s with heap := h', toks := tk' }) : wpAny M A t Q E s :=
  wpAny_mono h (fun f s' ⟨e, h', tk', n', e', F', N', c, p⟩ => by subst e e' p; exact k c h' tk' F' N') fun _ _ e => e
theorem wsX2_1 : True := by
  w_top off
  k_with_none
  k_with "ktr_room" => first | exact room1 (by assumption) | exact room3 (by assumption) (Nat.le_of_ble_eq_true rfl) | exact room2 (by assumption) (Nat.le_of_ble_eq_true rfl)
  k_with "ktr_units" => first | exact unit3 (by assumption) (Nat.le_of_ble_eq_true rfl) | exact unit2 (by assumption) (Nat.le_of_ble_eq_true rfl)
  k_with "callWith ref" => (k_here; k_dflt (refine' callWith_K ?cwA ?cwB ?_; (case cwA => k_asm); (case cwB => k_is); k_whole))
  k_with "omega" => first | decide | with_reducible assumption | exact Int.lt_of_le_of_lt (by with_reducible assumption) (by decide) | exact Int.lt_of_lt_of_le (by with_reducible assumption) (by decide) | exact Int.le_trans (by with_reducible assumption) (by decide) | exact lo_tr (by with_reducible assumption) (by decide) | exact lo_le (by with_reducible assumption) (by decide) | exact Nat.le_trans (by with_reducible assumption) (by decide) | exact Nat.lt_of_le_of_lt (by with_reducible assumption) (by decide) | lia
  k_with "k_ne" => (refine neN ?_; (try dsimp only); first | decide | with_reducible assumption | exact Ne.symm (by with_reducible assumption) | (refine Nat.ne_of_gt ?_; (first | with_reducible assumption | exact at1 (by with_reducible assumption) | exact at2 (by with_reducible assumption) | exact at3 (by with_reducible assumption) | exact at4 (by with_reducible assumption) | exact at5 (by with_reducible assumption) | exact at6 (by with_reducible assumption) | exact at7 (by with_reducible assumption) | exact at8 (by with_reducible assumption) | exact up1 (by with_reducible assumption) | exact up2 (by with_reducible assumption) | exact up2 (at1 (by with_reducible assumption)) | exact up2 (at2 (by with_reducible assumption)) | exact up2 (at3 (by with_reducible assumption)) | exact up2 (at4 (by with_reducible assumption)) | exact up1 (at1 (by with_reducible assumption)) | exact up1 (at2 (by with_reducible assumption)) | exact up1 (at3 (by with_reducible assumption)) | exact up1 (at4 (by with_reducible assumption)))) | (refine Nat.ne_of_lt ?_; (first | with_reducible assumption | exact at1 (by with_reducible assumption) | exact at2 (by with_reducible assumption) | exact at3 (by with_reducible assumption) | exact at4 (by with_reducible assumption) | exact at5 (by with_reducible assumption) | exact at6 (by with_reducible assumption) | exact at7 (by with_reducible assumption) | exact at8 (by with_reducible assumption) | exact up1 (by with_reducible assumption) | exact up2 (by with_reducible assumption) | exact up2 (at1 (by with_reducible assumption)) | exact up2 (at2 (by with_reducible assumption)) | exact up2 (at3 (by with_reducible assumption)) | exact up2 (at4 (by with_reducible assumption)) | exact up1 (at1 (by with_reducible assumption)) | exact up1 (at2 (by with_reducible assumption)) | exact up1 (at3 (by with_reducible assumption)) | exact up1 (at4 (by with_reducible assumption)))) | omega)
  k_with "mem_go" => first | with_reducible assumption | exact List.Mem.head _ | (refine List.mem_cons_of_mem _ ?_; (k_extra "mem_go"))
  k_with "sub_go" => first | exact fun _ h => h | exact sub_nil | (refine sub_cons ?hSub ?_; (case hSub => (k_extra "mem_go")); (k_extra "sub_go")) | ((fail_if_success (refine sub_cons ?_ ?_)); refine sub_drop ?_; (k_extra "sub_go")) | with_reducible assumption
  k_with "off_go" => first | exact off_nil | with_reducible assumption | (refine off_cons ?hOff ?_; (case hOff => k_ne); (k_extra "off_go")) | exact off_old (by with_reducible assumption) (by (k_extra "sub_go")) | exact off_sub (by with_reducible assumption) (by (k_extra "sub_go"))
  k_with "k_mem" => (k_extra "mem_go")
  k_with "k_all" => (k_extra "off_go")
  k_with "call ref" => (k_here; (with_reducible refine (?_ : wpAny _ _ (call (Value.ref 313) _) _ _ _)); refine hold_in ?_)
  k_with "call ref" => (k_here; (with_reducible refine (?_ : wpAny _ _ (call (Value.ref 341) _) _ _ _)); k_dflt (refine CtK.run0 (by k_asm) (by k_asm) (lawFrame_ck hs0 (by (k_extra "off_go"))) (by k_asm) (by k_asm) (by k_asm) (by first | rfl | assumption) (by ktr_room) (by ktr_units) (fun o1 fd f code prec height width cs hs1 hfd hdat hfr hco h' tk' F' N' => ?_)); ((try dsimp only at N')))
  k_with "call ref" => (k_here; (with_reducible refine (?_ : wpAny _ _ (call (Value.ref 375) _) _ _ _)); k_dflt (refine CtK.run0 (by k_asm) (by k_asm) (lawScan_ck hs2 (by (k_extra "off_go"))) (by k_asm) (by k_asm) (by k_asm) (by first | rfl | assumption) (by ktr_room) (by ktr_units) (fun o3 fd3 f3 n1 n2 n3 st en hi lo hs3 hfd3 hdat3 hsc h' tk' F' N' => ?_)); ((try dsimp only at N')))
  k_with "call ref" => (k_here; (with_reducible refine (?_ : wpAny _ _ (call (Value.ref 370) _) _ _ _)); refine hold_in ?_)
  k_with "call ref" => (k_here; (with_reducible refine (?_ : wpAny _ _ (call (Value.ref 403) _) _ _ _)); refine hold_in ?_)
  k_with "call ref" => (k_here; (with_reducible refine (?_ : wpAny _ _ (call (Value.ref 360) _) _ _ _)); refine hold_in ?_)
  k_with "ExcP" => (unfold ExcP; intro e3'; first | exact e3'.elim | exact absurd rfl e3' | (intro e' t' vs' g' h' tk' Fg' U' R'))
  k_with "exec If" => (k_here; (fail_if_success (have zz := inIf)); (with_reducible refine (?_ : wpAny _ _ (exec (Stmt.If (Expr.Compare (Expr.Call (Expr.Name (Str.ofString "_law_told") _) _ _ _) _ _ _) _ [] _) _) _ _ _)); refine hold_in ?_)
  k_with "leaving ref" => (k_here; refine leave_onX rfl (by k_asm) (by assumption) (by assumption) (by assumption) ?_; intro h' R' U'; (try dsimp only at R' U'))
  k_with "call type:bytes" => (k_here; (with_reducible refine (?_ : wpAny _ _ (call (Value.type "bytes") [Value.int _ _]) _ _ _)); k_dflt (refine call_bytes_two ?_); intro _ _)
  k_with "call ref" => (k_here; (with_reducible refine (?_ : wpAny _ _ (call (Value.ref 299) _) _ _ _)); k_dflt (refine CtK.run (by k_asm) (by k_asm) readLines_none (by k_asm) (by k_asm) (by k_asm) (by first | rfl | assumption) (by ktr_room) (by ktr_units) trivial ?_))
  k_with "call ref" => (k_here; (with_reducible refine (?_ : wpAny _ _ (call (Value.ref 299) _) _ _ _)); k_dflt (refine CtK.run (by k_asm) (by k_asm) (readLines_lawk hoct) (by k_asm) (by k_asm) (by k_asm) (by first | rfl | assumption) (by ktr_room) (by ktr_units) (fun t7 hp7 h' tk' F' N' => ?_) ?_); case' _ => ((try dsimp only at N')))
  k_with "call ref" => (k_here; (with_reducible refine (?_ : wpAny _ _ (call (Value.ref 306) _) _ _ _)); k_dflt (refine CtK.run (by k_asm) (by k_asm) (writeLines_ck (by omega) (by omega)) (by k_asm) (by k_asm) (by k_asm) (by first | rfl | assumption) (by ktr_room) (by ktr_units) (fun b7 t7 hb7 hp7 h' tk' F' N' => ?_) ?_); case' _ => ((try dsimp only at N')))
  k_with "call ref" => (k_here; (with_reducible refine (?_ : wpAny _ _ (call (Value.ref 320) _) _ _ _)); k_dflt (refine CtK.run0 (by k_asm) (by k_asm) (take_ck (by k_updF) hs4 (by decide) (by decide)) (by k_asm) (by k_asm) (by k_asm) (by first | rfl | assumption) (by ktr_room) (by ktr_units) (fun nb nt o5 nb0 nb1 hs5 h' tk' F' N' => ?_)); ((try dsimp only at N')))
  k_with "call ref" => (k_here; (with_reducible refine (?_ : wpAny _ _ (call (Value.ref 292) _) _ _ _)); refine hold_in ?_)
  k_with "call ref" => (k_here; (with_reducible refine (?_ : wpAny _ _ (call (Value.ref 285) _) _ _ _)); k_dflt (refine CtK.run0 (by k_asm) (by k_asm) (readInt_lawk hoct) (by k_asm) (by k_asm) (by k_asm) (by first | rfl | assumption) (by ktr_room) (by ktr_units) (fun t8 h' tk' F' N' => ?_)); ((try dsimp only at N')))
  k_with "call ref" => (k_here; (with_reducible refine (?_ : wpAny _ _ (call (Value.ref 285) _) _ _ _)); k_dflt (refine CtK.run (by k_asm) (by k_asm) (readInterval_ck kbaApp (by simp)) (by k_asm) (by k_asm) (by k_asm) (by first | rfl | assumption) (by ktr_room) (by ktr_units) (fun t8 e8 h' tk' F' N' => ?_) ?_); case' _ => ((try dsimp only at N')))
  k_with "binaryOp Add bytes bytes" => (k_here; (with_reducible refine (?_ : wpAny _ _ (binaryOp Operator.Add (Value.bytes _ _) (Value.bytes _ _)) _ _ _)); (refine KBa.add_K hoct (show KBw.bInts #[1] = [1] from rfl) (by simp only [List.length_cons, List.length_nil]; omega) ?_); intro _ _ kbaApp)
  trivial
set_option maxRecDepth 100000 in
set_option maxHeartbeats 8000000 in
theorem law_walk : PySem.Challenge.rw_nt0560_01.Holds := hd (by
  k_go0
  (all_goals try k_fold)
  k_steps
  unfold HoldP
  refine pool_ct (by k_asm) (by k_asm) (by k_asm) (by k_asm) (by k_asm) (by first | rfl | assumption) (by ktr_room) (by ktr_units) (by assumption) (by assumption) (by omega) ?_
  intro ls o0 h' tk' F' N' lS hs0
  have lT := lS
  k_lt lT
  k_steps
  unfold HoldP
  refine CtTK.run (by k_asm) (fr_split (by k_asm)) ((frameHolds_ct hs1 (fr_off hfd (.head _) (by (k_extra "off_go"))) (fr_off hfd (by (k_extra "mem_go")) (by (k_extra "off_go"))) (fr_off hfd (by (k_extra "mem_go")) (by (k_extra "off_go"))) (by omega) (hdat.mono fun p hp => List.mem_append_left _ hp) hfr hco).k holds_k) (by k_asm) (by k_asm) (by k_asm) (by k_asm) (by k_asm) (by first | k_asm | exact ktsDicts_nil) (by first | rfl | assumption) (by ktr_room) (by ktr_units) fun n' o2 ps1 ps2 hs2 hsub h' tk' h₁' TT' F1 N1 B1 X1 T1 D1 => ?_
  have tn := turn_nil TT' F1 (fr_join hsub N1)
  have F' := tn.1
  have N' := tn.2
  clear tn F1 N1 B1 X1 T1 D1 TT' hsub hdat hfd
  k_steps
  unfold HoldP
  refine CtTK.run (by k_asm) (sc_split (by k_asm)) ((scanHolds_ct hs3 (fr_off hfd3 (.head _) (by (k_extra "off_go"))) (fr_off hfd3 (by (k_extra "mem_go")) (by (k_extra "off_go"))) (fr_off hfd3 (by (k_extra "mem_go")) (by (k_extra "off_go"))) (by omega) (hdat3.mono fun p hp => List.mem_append_left _ hp) hsc).k holds_k) (by k_asm) (by k_asm) (by k_asm) (by k_asm) (by k_asm) (by first | k_asm | exact ktsDicts_nil) (by first | rfl | assumption) (by ktr_room) (by ktr_units) fun n' o4 ps3 ps4 hs4 hsub h' tk' h₁' TT' F1 N1 B1 X1 T1 D1 => ?_
  have tn := turn_nil TT' F1 (sc_join hsub N1)
  have F' := tn.1
  have N' := tn.2
  clear tn F1 N1 B1 X1 T1 D1 TT' hsub hdat3 hfd3
  k_steps
  unfold HoldP
  refine CtTK.run (by k_asm) (by k_asm) ((told_read (R := fun _ _ _ => False) (X := True) (by (k_extra "mem_go")) ?_).k toldNone_k) (by k_asm) (by k_asm) (by k_asm) (by k_asm) (by k_asm) (by first | k_asm | exact ktsDicts_nil) (by first | rfl | assumption) (by ktr_room) (by ktr_units) (fun _ h' tk' h₁' TT' F1 N1 B1 X1 T1 D1 => ?_)
  · intro mean2 mg2 mb2 dp2 un2 gd2 cn2 cs2 a2 ccd2 cl2 outer2 A2 base2 h2 L2 m2 s2 Q2 E2 X2 B2 F2 N2 T2 hk2 hd2 hu2 hret2 hexc2
    refine wpAny_call ?_
    k_dflt (refine' kla_code ?k1 ?k2 ?k3 ?k4 ?k5 ?kA ?kF ?kK ?k6 ?k7 ?k8 ?k9 ?kB ?_ ?c2 ?c3 ?c4 ?c5; (case kA => exact rfl); (case kF => exact rfl); (case kK => assumption); (case k1 => k_asm); (case k2 => k_asm); (case k3 => k_asm); (case k4 => k_asm); (case k5 => k_asm); (case k6 => (k_extra "mem_go")); (case k7 => exact codeRec_news (by k_asm) (by (k_extra "mem_go")) (by assumption) (by assumption)); (case k8 => ktr_room); (case k9 => exact rfl); (case c5 => decide); (case kB => exact locs rfl); (case c2 => exact rfl); (case c3 => exact rfl); (case c4 => exact rfl); k_whole; intro g' L' h' FG' F' N' B' X' T'; (try dsimp only); (try k_fold))
    have inLam : True := trivial
    k_steps
    · exact hexc2 trivial _ _ _ _ _ _ (by k_asm) (by assumption) (by assumption)
  have tn := turn_nil TT' F1 (news_sub N1 fun p hp => .tail _ (.tail _ hp))
  have F' := tn.1
  have N' := tn.2
  clear tn F1 N1 B1 X1 T1 D1 TT'
  k_steps
  unfold HoldP
  refine CtTK.run (by k_asm) (by k_asm) ((told_read (R := fun _ _ _ => False) (X := True) (by (k_extra "mem_go")) ?_).k toldNone_k) (by k_asm) (by k_asm) (by k_asm) (by k_asm) (by k_asm) (by first | k_asm | exact ktsDicts_nil) (by first | rfl | assumption) (by ktr_room) (by ktr_units) (fun _ h' tk' h₁' TT' F1 N1 B1 X1 T1 D1 => ?_)
  · intro mean2 mg2 mb2 dp2 un2 gd2 cn2 cs2 a2 ccd2 cl2 outer2 A2 base2 h2 L2 m2 s2 Q2 E2 X2 B2 F2 N2 T2 hk2 hd2 hu2 hret2 hexc2
    refine wpAny_call ?_
    k_dflt (refine' kla_code ?k1 ?k2 ?k3 ?k4 ?k5 ?kA ?kF ?kK ?k6 ?k7 ?k8 ?k9 ?kB ?_ ?c2 ?c3 ?c4 ?c5; (case kA => exact rfl); (case kF => exact rfl); (case kK => assumption); (case k1 => k_asm); (case k2 => k_asm); (case k3 => k_asm); (case k4 => k_asm); (case k5 => k_asm); (case k6 => (k_extra "mem_go")); (case k7 => exact codeRec_news (by k_asm) (by (k_extra "mem_go")) (by assumption) (by assumption)); (case k8 => ktr_room); (case k9 => exact rfl); (case c5 => decide); (case kB => exact locs rfl); (case c2 => exact rfl); (case c3 => exact rfl); (case c4 => exact rfl); k_whole; intro g' L' h' FG' F' N' B' X' T'; (try dsimp only); (try k_fold))
    have inLam : True := trivial
    k_steps
    · exact absurd hp7 (by decide)
    · exact hexc2 trivial _ _ _ _ _ _ (by k_asm) (by assumption) (by assumption)
  have tn := turn_nil TT' F1 (news_sub N1 fun p hp => .tail _ (.tail _ hp))
  have F' := tn.1
  have N' := tn.2
  clear tn F1 N1 B1 X1 T1 D1 TT'
  k_steps
  unfold HoldP
  rename KBw.bInts _ = _ => hoct
  rw [show nb / 256 % 256 = nb / 256 by omega] at hoct
  refine CtK.run0 (by k_asm) (by k_asm) (writeInterval_ck nb0 (by omega)) (by k_asm) (by k_asm) (by k_asm) (by first | rfl | assumption) (by ktr_room) (by ktr_units) (fun b8 u8 hb8 h' tk' F' N' => ?_)
  have hne8 := bl_ne hb8 hoct
  k_steps
  unfold HoldP
  refine' led_join_tab (P := 405) 302 0 (by k_asm) (by k_asm) (by k_updF) ?joinH ?joinK
  case joinH =>
    have inIf : True := trivial
    k_steps
    unfold HoldP
    refine CtTK.run (by k_asm) (by k_asm) ((told_read (R := fun ns v ns' => (∃ t, v = .int nb t) ∧ ns' = ns ∧ 0 < nb) (X := ¬ 0 < nb) (by (k_extra "mem_go")) ?_).k toldInt_k) (by k_asm) (by k_asm) (by k_asm) (by k_asm) (by k_asm) (by first | k_asm | exact ktsDicts_nil) (by first | rfl | assumption) (by ktr_room) (by ktr_units) ⟨fun t3 hpos h' tk' h₁' TT' F1 N1 B1 X1 T1 D1 => ?_, fun hpos h' tk' h₁' TT' F1 N1 B1 X1 T1 D1 => ?_⟩
    · intro mean2 mg2 mb2 dp2 un2 gd2 cn2 cs2 a2 ccd2 cl2 outer2 A2 base2 h2 L2 m2 s2 Q2 E2 X2 B2 F2 N2 T2 hk2 hd2 hu2 hret2 hexc2
      refine wpAny_call ?_
      k_dflt (refine' kla_code ?k1 ?k2 ?k3 ?k4 ?k5 ?kA ?kF ?kK ?k6 ?k7 ?k8 ?k9 ?kB ?_ ?c2 ?c3 ?c4 ?c5; (case kA => exact rfl); (case kF => exact rfl); (case kK => assumption); (case k1 => k_asm); (case k2 => k_asm); (case k3 => k_asm); (case k4 => k_asm); (case k5 => k_asm); (case k6 => (k_extra "mem_go")); (case k7 => exact codeRec_news (by k_asm) (by (k_extra "mem_go")) (by assumption) (by assumption)); (case k8 => ktr_room); (case k9 => exact rfl); (case c5 => decide); (case kB => exact locs rfl); (case c2 => exact rfl); (case c3 => exact rfl); (case c4 => exact rfl); k_whole; intro g' L' h' FG' F' N' B' X' T'; (try dsimp only); (try k_fold))
      have inLam : True := trivial
      k_steps
      · exact hret2 _ _ _ _ (by k_asm) (by k_asm) ⟨⟨_, rfl⟩, rfl, hp7⟩
      · exact hexc2 e3' _ _ _ _ _ _ (by k_asm) (by assumption) (by assumption)
    all_goals (
      have tn := turn_nil TT' F1 (news_sub N1 fun p hp => .tail _ (.tail _ hp))
      have F' := tn.1
      have N' := tn.2
      clear tn F1 N1 B1 X1 T1 D1 TT'
      k_steps
      exact ⟨rfl, _, _, _, rfl, by k_asm, by k_asm, _, rfl⟩)
  case joinK =>
    intro c3 h' tk' F' N'
    (try dsimp only at N')
    k_steps
    unfold HoldP
    refine' led_join_tab (P := 405) 305 0 (by k_asm) (by k_asm) (by k_updF) ?joinH ?joinK
    case joinH =>
      have inIf : True := trivial
      k_steps
      unfold HoldP
      refine CtTK.run (by k_asm) (by k_asm) ((told_read (R := fun ns v ns' => (∃ b t, v = .bytes b t ∧ KBw.bInts b = [nb / 256, nb % 256]) ∧ ns' = ns ∧ 0 < nb) (X := ¬ 0 < nb) (by (k_extra "mem_go")) ?_).k toldBytes_k) (by k_asm) (by k_asm) (by k_asm) (by k_asm) (by k_asm) (by first | k_asm | exact ktsDicts_nil) (by first | rfl | assumption) (by ktr_room) (by ktr_units) ⟨fun b4 t4 hb4 hpos4 h' tk' h₁' TT' F1 N1 B1 X1 T1 D1 => ?_, fun hpos4 h' tk' h₁' TT' F1 N1 B1 X1 T1 D1 => ?_⟩
      · intro mean2 mg2 mb2 dp2 un2 gd2 cn2 cs2 a2 ccd2 cl2 outer2 A2 base2 h2 L2 m2 s2 Q2 E2 X2 B2 F2 N2 T2 hk2 hd2 hu2 hret2 hexc2
        refine wpAny_call ?_
        k_dflt (refine' kla_code ?k1 ?k2 ?k3 ?k4 ?k5 ?kA ?kF ?kK ?k6 ?k7 ?k8 ?k9 ?kB ?_ ?c2 ?c3 ?c4 ?c5; (case kA => exact rfl); (case kF => exact rfl); (case kK => assumption); (case k1 => k_asm); (case k2 => k_asm); (case k3 => k_asm); (case k4 => k_asm); (case k5 => k_asm); (case k6 => (k_extra "mem_go")); (case k7 => exact codeRec_news (by k_asm) (by (k_extra "mem_go")) (by assumption) (by assumption)); (case k8 => ktr_room); (case k9 => exact rfl); (case c5 => decide); (case kB => exact locs rfl); (case c2 => exact rfl); (case c3 => exact rfl); (case c4 => exact rfl); k_whole; intro g' L' h' FG' F' N' B' X' T'; (try dsimp only); (try k_fold))
        have inLam : True := trivial
        k_steps
        · exact hret2 _ _ _ _ (by k_asm) (by k_asm) ⟨⟨_, _, rfl, hb7⟩, rfl, hp7⟩
        · exact hexc2 e3' _ _ _ _ _ _ (by k_asm) (by assumption) (by assumption)
      all_goals (
        (try have hne4 := bl_ne hb4 hoct)
        have tn := turn_nil TT' F1 (news_sub N1 fun p hp => .tail _ (.tail _ hp))
        have F' := tn.1
        have N' := tn.2
        clear tn F1 N1 B1 X1 T1 D1 TT'
        k_steps
        exact ⟨rfl, _, _, _, rfl, by k_asm, by k_asm, _, rfl⟩)
    case joinK =>
      intro c4 h' tk' F' N'
      (try dsimp only at N')
      k_steps
      unfold HoldP
      refine CtTK.run (by k_asm) (by k_asm) ((told_read (R := fun _ _ _ => False) (X := True) (by (k_extra "mem_go")) ?_).k toldNone_k) (by k_asm) (by k_asm) (by k_asm) (by k_asm) (by k_asm) (by first | k_asm | exact ktsDicts_nil) (by first | rfl | assumption) (by ktr_room) (by ktr_units) (fun _ h' tk' h₁' TT' F1 N1 B1 X1 T1 D1 => ?_)
      · intro mean2 mg2 mb2 dp2 un2 gd2 cn2 cs2 a2 ccd2 cl2 outer2 A2 base2 h2 L2 m2 s2 Q2 E2 X2 B2 F2 N2 T2 hk2 hd2 hu2 hret2 hexc2
        refine wpAny_call ?_
        k_dflt (refine' kla_code ?k1 ?k2 ?k3 ?k4 ?k5 ?kA ?kF ?kK ?k6 ?k7 ?k8 ?k9 ?kB ?_ ?c2 ?c3 ?c4 ?c5; (case kA => exact rfl); (case kF => exact rfl); (case kK => assumption); (case k1 => k_asm); (case k2 => k_asm); (case k3 => k_asm); (case k4 => k_asm); (case k5 => k_asm); (case k6 => (k_extra "mem_go")); (case k7 => exact codeRec_news (by k_asm) (by (k_extra "mem_go")) (by assumption) (by assumption)); (case k8 => ktr_room); (case k9 => exact rfl); (case c5 => decide); (case kB => exact locs rfl); (case c2 => exact rfl); (case c3 => exact rfl); (case c4 => exact rfl); k_whole; intro g' L' h' FG' F' N' B' X' T'; (try dsimp only); (try k_fold))
        have inLam : True := trivial
        k_steps
        · exact absurd e8 (by simp)
        · exact hexc2 trivial _ _ _ _ _ _ (by k_asm) (by assumption) (by assumption)
      have tn := turn_nil TT' F1 (news_sub N1 fun p hp => .tail _ (.tail _ hp))
      have F' := tn.1
      have N' := tn.2
      clear tn F1 N1 B1 X1 T1 D1 TT'
      k_steps)
end Mine
set_option maxRecDepth 100000 in
set_option maxHeartbeats 8000000 in
theorem PySem.Challenge.cw_nt0560_01_holds : PySem.Challenge.rw_nt0560_01.Holds := by
  exact Mine.law_walk
