import PyProof.Rows.All
import Wide.All
import OpenK.AllK
import Wide.FinOn
import KE.KStateDown
import Lean
import HandS.ForMost
import HandS.Property
import HandS.MakeKwOnly
import HandS.IsInst
import HandS.Style
import HandS.Conv
import HandS.Star
import HandS.DictComp
import HandS.OwnEq
import HandS.Deep
import HandS.TupLe
import HandS.TupAny
import HandS.GenList
import HandS.Codes
import HandS.SortInts
import HandS.SetKeys
import HandS.DictTup
import HandS.NoneIn
import KE.KDictCopyH
import KE.KDictWalk
import HandS.Head0
import HandS.Head1
import HandS.Head2
import HandS.HeadEnd
import HandS.HeadHook1
import HandS.HeadHook2
import PySem.Challenge.RW_roomtold_k47_whole_settings_that_never_m
set_option Elab.async false
set_option linter.all false
set_option maxRecDepth 100000
set_option maxHeartbeats 4000000
namespace R47
open PySem PySem.Spec PyProof.Rows L2
/-! part P01 -/
section
def top (i : Nat) : Stmt := PySem.Challenge.pw_roomtold_k47_whole_settings_that_never_m.main.body.getD i (.Pass ⟨0, 0, 0, 0⟩)
/-! ### own rules: len(o), o[i] by the text's own methods; properties -/
section
variable {X : Cx} {k j : Nat} {C : Addr} {sp : Sp} {te ta tb : TE} {e a b : Expr} {pos : Pos}
theorem run_fn1 {f : Addr} {fd : FuncData} {ps : List Str} {ds : List Value} {dvs : List V} {pins : List (Addr × Obj)} {σ : L2.St} {H : Hp} {s : Shared} {Q : VK} {us : List Value} {vs : List V} (F : FnOk X.prog X.w X.K X.mg X.base CX0 k f fd ps sp) (hr : Room (k + 1) X.A) (hb : Binds X.K fd ps ds) (hd : Vals dvs ds)
    (I : Inv X pins σ H s) (r : Vals vs us) (h : sp (vs ++ dvs) H Q E0) {E1 : Value → Shared → Prop} : wpAny (model X.prog X.w) X.A.in1 (call (.ref f) us) (EP X pins σ Q) E1 s := by
  have r2 : Vals (vs ++ dvs) (us ++ ds) := r.append hd
  have hl : (us ++ ds).length = ps.length := by rw [← r2.length]; exact F.len _ _ _ _ h
  refine wpAny_call (codeAny_mono (F.run X.A.in1 X.stack s H ⟨us, []⟩ (us ++ ds) (vs ++ dvs) Q E0 hr.in1 I.env0.in1 (hb s us I.kIn hl) r2 h) fun r s' hq => ?_)
  cases r with
  | error e => exact False.elim hq
  | ok fl =>
    cases fl with
    | ret u => exact I.after hq
    | next => exact False.elim hq
    | brk => exact False.elim hq
    | cont => exact False.elim hq
/-- len(o), the class's own __len__ -/
def rLenO (C : Addr) (sp : Sp) : List V → Hp → VK → Prop := fun xs H Q => ∃ a dx fs, xs = [.ref a] ∧ H a = some (.ins C dx fs) ∧ sp [.ref a] H (fun v H' => ∃ n : Int, v = .int n ∧ 0 ≤ n ∧ n < 2 ^ 63 ∧ Q (.int n) H') E0
theorem call_lenO (c : C8.Met X.prog X.w X.K X.mg X.base k C "__len__" sp []) (hr : Room j X.A) (hk : k + 1 ≤ j) : CallR X (.builtin "len") (rLenO C sp) := by
  intro pins s σ H xs us Q I r h
  obtain ⟨a, dx, fs, rfl, ea, q⟩ := h
  obtain ⟨u, rfl, r1⟩ := vals1 r
  cases r1
  obtain ⟨f, fd, ps, ds, hc, hm, F, hb, hd⟩ := c.ex
  obtain ⟨mA, O, _⟩ := ins_get I.hok ea
  obtain ⟨od, J, _⟩ := O.look
  obtain ⟨m, hF⟩ := I.fr
  refine PySem.W.len_K hF I.ok.mod.kin J hm.at_ hm.fn ?_
  refine thn (run_fn1 (us := [.ref a]) (vs := [.ref a]) F (hr.mono hk) hb hd I (.cons rfl .nil) q) fun v s1 ⟨y, H1, I1, r1, n, ey, h0, h1, q1⟩ => ?_
  subst ey
  obtain ⟨t, rfl⟩ := r1
  exact ⟨⟨h0, h1⟩, ⟨.int n, H1, I1.tok _, ⟨_, rfl⟩, q1⟩⟩
/-- o[i], the class's own __getitem__ -/
def tSubO (C : Addr) (sp : Sp) (ta tb : TE) : TE := fun σ H Q => ta σ H fun x H1 => tb σ H1 fun y H2 => ∃ a dx fs, x = .ref a ∧ H2 a = some (.ins C dx fs) ∧ sp [x, y] H2 Q E0
theorem pe_subO (c : C8.Met X.prog X.w X.K X.mg X.base k C "__getitem__" sp []) (hr : Room j X.A) (hk : k + 1 ≤ j) (hf : ∃ g, PySem.W.findIn X.K (.ref C) "__getitem__" = some (some (.ref g)) ∧ PySem.W.fnIn X.K g = true) (ha : PE X a ta) (hb : PE X b tb)
    (hsl : ∀ x i, subscripted b true (.ref x) i = runValue (.builtin "lifetime.subscript" ⟨[.ref x, i], []⟩)) : PE X (.Subscript a b pos) (tSubO C sp ta tb) := by
  refine ⟨fun pins s σ H Q I h => ?_⟩
  refine Subscript_ (binT ha hb I h fun v u s2 x y H2 I2 rx ry q => ?_)
  obtain ⟨p, dx, fs, rfl, ea, q⟩ := q
  cases rx
  obtain ⟨f, fd, ps, ds, hc, hm, F, hb, hd⟩ := c.ex
  obtain ⟨mA, O, _⟩ := ins_get I2.hok ea
  obtain ⟨od, J, _⟩ := O.look
  obtain ⟨m, hF⟩ := I2.fr
  obtain ⟨g, hg1, hg2⟩ := hf
  have eg : g = f := by
    have e := hg1.symm.trans hm.at_
    injection e with e
    injection e with e
    injection e
  subst eg
  refine PySem.W.sub_K hF I2.ok.mod.kin J hm.at_ hg2 hm.fn ?_ (hsl _ _)
  exact run_fn1 (us := [.ref p, u]) (vs := [.ref p, y]) F (hr.mono hk) hb hd I2 (.cons rfl (.cons ry .nil)) q
/-- a property of the class at C -/
structure Prp (P : Program) (w : World) (K : PySem.W.Frag) (mg : Str → Option Value) (base : Heap) (k : Nat) (C : Addr) (m : Str) (sp : Sp) : Prop where
  ex : ∃ (p g : Addr) (fd : FuncData) (ps : List Str) (ds : List Value), Cls K C ∧ PropOf K C m p g ∧ FnOk P w K mg base CX0 k g fd ps sp ∧ Binds K fd ps ds ∧ Vals [] ds
theorem pe_pr {m : Str} (c : Prp X.prog X.w X.K X.mg X.base k C m sp) (hr : Room j X.A) (hk : k + 1 ≤ j) (he : PE X e te) (hab : attributeBase e m X.env (eval e X.env) = eval e X.env := by rfl) : PE X (.Attribute e m pos) (tProp C sp [] E0 te) := by
  obtain ⟨p, g, fd, ps, ds, hc, hp, F, hb, hd⟩ := c.ex
  exact pe_prop he hc hp F (hr.mono hk) hb hd pass0 hab
end
/-! ### x in xs, xs a list of instances with the text's own ==, where one is there -/
section
open PySem.MeetsSeq PySem.MeetsSeq2 PySem.MeetsSeq3 PySem.SeqRoads2
open PySem.AutoSeq1 (wpAny_loadPart')
variable {prog : Program} {w : World} {A : Around} {R : Result → Shared → Prop}
theorem contains_loopG (l : Addr) (x : Value) (N : Nat) (I : Nat → Shared → Prop) (Fin : Shared → Prop)
    (hl : ∀ i s, I i s → i < N ∧ ∃ (items : Array Value) (n : Nat), s.heap.get? l = some { cls := .type "list", data := .seq items n } ∧ items.size = N ∧
      ∀ (h1 : i < items.size), wpAny (model prog w) A.in1 (eqBool items[i] x) (fun r s' => (r = true ∧ Fin s') ∨ (r = false ∧ I (i + 1) s')) (fun e s' => R (.error e) s') s)
    (fin : ∀ s, Fin s → R (.ok (.ret (.bool true))) s) (k : Nat) :
    ∀ i : Nat, N - i = k → ∀ s, I i s →
      wpAny (model prog w) A.in1 (Builtin.«list.__contains__.loop» ⟨[.ref l, x, rawInt i], []⟩) (GQ.FinOf prog w A R) (fun e s' => R (.error e) s') s := by
  induction k with
  | zero =>
    intro i hk s h
    obtain ⟨hi, _⟩ := hl _ _ h
    exact absurd hi (by omega)
  | succ k ih =>
    intro i hk s h
    obtain ⟨hi, items, n, hl1, hs1, turn⟩ := hl _ _ h
    have hlt : i < items.size := by omega
    have ht := turn hlt
    obtain ⟨hp, g, d, tk, os⟩ := s
    wp_walk using wpAny_loadPart' hl1
    have hi1 : items[((i : Nat) : Int).toNat]? = some items[i] := by simp [hlt]
    have hc : ((i : Int) + 1) = ((i + 1 : Nat) : Int) := by omega
    rw [hi1]
    refine wpAny_bind (wpAny_mono ht (fun r s2 h2 => ?_) fun _ _ x => x)
    rcases h2 with ⟨hr, h2⟩ | ⟨hr, h2⟩
    · subst hr
      have hq := fin s2 h2
      obtain ⟨hp2, g2, d2, tk2, os2⟩ := s2
      wp_walk
      exact hq
    · subst hr
      have hrec := ih (i + 1) (by omega) s2 h2
      obtain ⟨hp2, g2, d2, tk2, os2⟩ := s2
      wp_walk
      rw [hc]
      exact ⟨plainId_quiet plain_contains_loop _, codeAny_builtin entry_contains_loop (by
        rw [Around.under_plainId plain_contains_loop _]
        exact hrec)⟩
theorem in_listG {E : Value → Shared → Prop} {s : Shared} {Q : Value → Shared → Prop} (l : Addr) (x : Value) (N : Nat) (I : Nat → Shared → Prop) (Fin : Shared → Prop)
    (hl : ∀ i s, I i s → i < N ∧ ∃ (items : Array Value) (n : Nat), s.heap.get? l = some { cls := .type "list", data := .seq items n } ∧ items.size = N ∧
      ∀ (h1 : i < items.size), wpAny (model prog w) A.in1 (eqBool items[i] x) (fun r s' => (r = true ∧ Fin s') ∨ (r = false ∧ I (i + 1) s')) E s)
    (fin : ∀ s, Fin s → Q (.bool true) s) (h : I 0 s) : wpAny (model prog w) A (compareOp .In x (.ref l)) Q E s := by
  obtain ⟨hi, items, n, hl1, hs1, _⟩ := hl _ _ h
  show wpAny _ A (do return .bool (← contains (.ref l) x)) Q E s
  refine wpAny_bind (wpAny_contains_slot ⟨_, hl1, rfl⟩ F.slot_list_contains (wpAny_mono (GQ.call_here (Q := fun v s' => ∃ b, v = .bool b ∧ Q (.bool b) s') F.slot_list_contains ⟨_, hl1, rfl⟩ F.entry_list_contains (F.args_list_contains_2 _ _) ?_) (fun v s' hv => ?_) fun _ _ e => e))
  · have hrec := contains_loopG (A := A) (R := wants (fun v s' => ∃ b, v = .bool b ∧ Q (.bool b) s') E) l x N I Fin hl (fun s' q => ⟨true, rfl, fin s' q⟩) _ 0 rfl s h
    obtain ⟨hp, g, d, tk, os⟩ := s
    wp_walk using wpAny_loadPart' hl1
    exact ⟨plainId_quiet plain_contains_loop _, codeAny_builtin entry_contains_loop (by
      rw [Around.under_plainId plain_contains_loop _]
      exact hrec)⟩
  · obtain ⟨b, rfl, hq⟩ := hv
    exact wpAny_truthy_bool (wpAny_pure hq)
end
section
variable {X : Cx} {k j : Nat} {C : Addr}
/-- what an own __eq__ promises: the answer r -/
def spEqB (RR : Addr → Addr → Hp → Bool → Prop) : Sp := fun vs H Q _ => ∃ a b r, vs = [.ref a, .ref b] ∧ RR a b H r ∧ ∀ H', Same H H' → Q (.bl r) H'
def rInO (C : Addr) (RR : Addr → Addr → Hp → Bool → Prop) : R2 := fun x y H Q => ∃ (v : Addr) (l : Addr) (as : List Addr) (dv : Addr) (fv : List (Str × V)), x = .ref v ∧ H v = some (.ins C dv fv) ∧ y = .ref l ∧ H l = some (.lst (as.map V.ref)) ∧
  (∀ a ∈ as, ∃ dx fs, H a = some (.ins C dx fs)) ∧ (∀ H', Same H H' → ∀ a ∈ as, ∃ r, RR a v H' r) ∧ (∃ (q : Nat) (a : Addr), as[q]? = some a ∧ (∀ H', Same H H' → RR a v H' true)) ∧ ∀ H', Same H H' → Q (.bl true) H'
theorem op_inO {RR : Addr → Addr → Hp → Bool → Prop} (c : C8.Met X.prog X.w X.K X.mg X.base k C "__eq__" (spEqB RR) []) (hr : Room j X.A) (hk : k + 1 ≤ j) : OpR X (compareOp .In) (rInO C RR) := by
  intro pins s σ H x y v0 u Q I rx ry h
  obtain ⟨v, l, as, dv, fv, rfl, ev, rfl, el, hin, hR, ⟨q, aq, hq, hqt⟩, hQ⟩ := h
  cases rx
  cases ry
  obtain ⟨f, fd, ps, ds, hc, hm, F, hb, hd⟩ := c.ex
  refine in_listG l (.ref v) as.length (fun i s' => i ≤ q ∧ ∃ H', Inv X pins σ H' s' ∧ Same H H') (fun s' => ∃ H', Inv X pins σ H' s' ∧ Same H H') ?_ (fun s' ⟨H', I', e⟩ => ⟨.bl true, H', I', rfl, hQ H' e⟩) ⟨Nat.zero_le _, H, I, Same.refl H⟩
  rintro i s1 ⟨hi, H1, I1, e1⟩
  have hql : q < as.length := (List.getElem?_eq_some_iff.mp hq).1
  have hil : i < as.length := by omega
  refine ⟨hil, ?_⟩
  obtain ⟨z, its, n, rv, eo⟩ := I1.hok l _ (e1 _ _ el)
  have hsz : its.length = as.length := by rw [← rv.length, List.length_map]
  refine ⟨its.toArray, n, eo, by simpa using hsz, fun h1 => ?_⟩
  obtain ⟨a, ha⟩ : ∃ a, as[i]? = some a := ⟨as[i], List.getElem?_eq_getElem hil⟩
  obtain ⟨u, hu, ru⟩ := rv.get (i := i) (x := V.ref a) (by rw [List.getElem?_map, ha]; rfl)
  have eu : its.toArray[i] = Value.ref a := by
    have h2 : i < its.length := by omega
    rw [List.getElem?_eq_getElem h2] at hu
    have := Option.some.inj hu
    simp only [List.getElem_toArray]
    rw [this]
    exact ru
  rw [eu]
  have am : a ∈ as := List.mem_of_getElem? ha
  obtain ⟨r, hr1⟩ : ∃ r, RR a v H1 r ∧ (i = q → r = true) := by
    by_cases hiq : i = q
    · subst hiq
      rw [hq] at ha
      cases ha
      exact ⟨true, hqt H1 e1, fun _ => rfl⟩
    · obtain ⟨r, hr⟩ := hR H1 e1 a am
      exact ⟨r, hr, fun z => absurd z hiq⟩
  by_cases hav : a = v
  · subst hav
    exact SeqAt.EqAt.same (A := X.A.in1) (s := s1) (.ref a) X.prog X.w X.xe _ (.inl ⟨rfl, H1, I1, e1⟩)
  · refine GQ.eqBool_refG hav ?_
    obtain ⟨dx, fs, ea⟩ := hin a am
    obtain ⟨mA, J, _⟩ := ins_get I1.hok (e1 _ _ ea)
    obtain ⟨mB, J', _⟩ := ins_get I1.hok (e1 _ _ ev)
    obtain ⟨od, J, _⟩ := J.look
    obtain ⟨od', J', _⟩ := J'.look
    obtain ⟨m, hF⟩ := I1.fr
    refine PySem.W.cmp_K (op := .Eq) (tb := .ref C) (hr.mono hk).in1.units0 hF I1.ok.mod.kin J J'.type (by simp [PySem.W.notFirst]) hm.at_ hm.fn ?_
    refine thn (run_fn1 (Q := fun y H2 => y = V.bl r ∧ Same H H2) (us := [.ref a, .ref v]) (vs := [.ref a, .ref v]) F (hr.mono hk) hb hd I1 (.cons rfl (.cons rfl .nil)) ⟨a, v, r, rfl, hr1.1, fun H2 e2 => ⟨rfl, e1.trans e2⟩⟩) fun w1 s2 ⟨y, H2, I2, ry, ey, e2⟩ => ?_
    subst ey
    cases ry
    refine ⟨r, rfl, ?_⟩
    cases r with
    | true => exact .inl ⟨rfl, H2, I2, e2⟩
    | false =>
      refine .inr ⟨rfl, ?_, H2, I2, e2⟩
      rcases Nat.lt_or_ge i q with z | z
      · exact z
      · exact absurd (hr1.2 (by omega)) Bool.false_ne_true
end
/-! ### d.setdefault(k, x), list(d.values()): d a dict whose keys are tuples -/
section
variable {X : Cx}
def rSetdT : V → List V → Hp → VK → Prop := fun x xs H Q => ∃ (a : Addr) (kvs : List (List L2.Key × V)) (k : List L2.Key) (b : Addr) (d : V), x = .ref a ∧ xs = [.ref b, d] ∧ H a = some (.dT kvs) ∧ H b = some (.tup (k.map kV)) ∧ kvs.length < sizeLine ∧
  (∀ v, valV kvs k = some v → Q v H) ∧ (valV kvs k = none → Q d (upd H a (.dT (putK kvs k d))))
theorem mt_setdT (hu : X.A.units + 1 < cLine) : MtR X "dict.setdefault" rSetdT := by
  intro pins s σ H x xs v us Q I rx rxs h
  obtain ⟨a, kvs, k, b, d, rfl, rfl, ha, hb, hl, q1, q2⟩ := h
  cases rx
  obtain ⟨u1, u2, rfl, r1, r2⟩ := vals2 rxs
  cases r1
  obtain ⟨z, hd, xs', rel, dd⟩ := dt_of I.hok ha
  have hz : xs'.length ≤ sizeLine := by rw [← Paired.length rel]; exact z
  refine call_setdefault_heap (hsz := hz) (tupleKind_room_in1 hu) (key_of I.hok hb) hd dd (fun p hp => ?_) (fun hn h' dd' hs => ?_)
  · have r := rel.val k
    rw [hp] at r
    cases ev : valV kvs k with
    | none =>
      rw [ev] at r
      exact (show False from r).elim
    | some v0 =>
      rw [ev] at r
      exact ⟨v0, H, I.tok _, r, q1 v0 ev⟩
  · have r := rel.val k
    rw [hn] at r
    have ev : valV kvs k = none := by
      cases ev : valV kvs k with
      | none => rfl
      | some v0 =>
        rw [ev] at r
        exact (show False from r).elim
    have hl2 : (putK kvs k d).length ≤ sizeLine := by have := length_putK kvs k d; omega
    obtain ⟨o, es, ep, hq, h2, h3, h4, _, h5⟩ := dd'
    refine ⟨d, upd H a (.dT (putK kvs k d)), d_write (ob := .dT (putK kvs k d)) I (by rw [ha]; exact True.intro) hs ⟨o, hq⟩ ⟨hl2, hd, _, (rel.put k hb r2).keeps (fun c ys ec => (by rw [upd_ne (ne_of ec ha (fun z => nomatch z))]; exact ec)), o, es, ep, hq, h2, h3, h4, h5⟩, r2, q2 ev⟩
def tListValsT (te : TE) : TE := fun σ H Q => te σ H fun x H1 => ∃ (d : Addr) (kvs : List (List L2.Key × V)), x = .ref d ∧ H1 d = some (.dT kvs) ∧ ∀ p, H1 p = none → Q (.ref p) (upd H1 p (.lst (kvs.map (·.2))))
theorem vals_of_ix : ∀ {xs : List V} {us : List Value}, xs.length = us.length → (∀ (j : Nat) (x : V) (u : Value), xs[j]? = some x → us[j]? = some u → RelV x u) → Vals xs us
  | [], [], _, _ => .nil
  | [], _ :: _, h, _ => by cases h
  | _ :: _, [], h, _ => by cases h
  | x :: xs, u :: us, h, f => .cons (f 0 x u rfl rfl) (vals_of_ix (Nat.succ.inj h) fun j y v e1 e2 => f (j + 1) y v e1 e2)
theorem pairedIx {α β : Type} {F : α → β → Prop} : ∀ {l₁ : List α} {l₂ : List β} {j : Nat} {x : α} {y : β}, Paired F l₁ l₂ → l₁[j]? = some x → l₂[j]? = some y → F x y
  | _, _, 0, _, _, .cons h _, e1, e2 => by
    have a := Option.some.inj e1
    have b := Option.some.inj e2
    rw [← a, ← b]
    exact h
  | _, _, j + 1, _, _, .cons _ t, e1, e2 => pairedIx (j := j) t e1 e2
  | _, _, _, _, _, .nil, e1, _ => by cases e1
variable {e : Expr} {te : TE} {p apos cpos pos : Pos}
theorem pe_listValsT (hc : X.calm = true) (he : PE X e te) (hg : Gl X "list") (hm : X.mg "list" = none) (hv : bootBuiltins "list" = some (.type "list")) (hbase : attributeBase e "values" X.env (eval e X.env) = eval e X.env := by rfl) (hline : (apos.endLine == cpos.line) = true := by rfl)
    (hs : starEach [.Call (.Attribute e "values" apos) [] [] cpos] X.env = (false, eval (.Call (.Attribute e "values" apos) [] [] cpos) X.env) :: starEach [] X.env := by rfl) :
    PE X (.Call (.Name "list" p) [.Call (.Attribute e "values" apos) [] [] cpos] [] pos) (tListValsT te) := by
  refine ⟨fun pins s σ H Q I hq => ?_⟩
  refine wpAny_Call_Name_kw (ld_blt I hg hm hv ?_)
  refine PyProof.Rows.callWith_type1 ?_ hs rfl
  rw [hs]
  show wpAny _ _ (spliced ((false, eval (.Call (.Attribute e "values" apos) [] [] cpos) X.env) :: backTo pos (starEach [] X.env))) _ _ s
  refine Calls.spliced_cons ?_
  refine wpAny_Call_method (T := "dict") (id := "dict.values") hbase rfl hline PySem.F.plainAttrs_dict PySem.F.slot_dict_values PySem.F.type_dict_values (thn (he.run pins s σ H _ I hq) fun u s1 ⟨x, H1, I1, rx, d, kvs, ex, hd, q⟩ => ?_)
  subst ex
  obtain rfl : u = Value.ref d := rx
  obtain ⟨hz, hs0, xs, rel, o, es, ep, ho, hx, hdt, hes, hnd⟩ := (show ObjOk X.prog X.w H1 s1.heap d (.dT kvs) from I1.hok d _ hd)
  have raw : s1.heap.DictRaw d es ep := ⟨o, ho, hx, hdt⟩
  have I2 : Inv X pins σ H1 { s1 with heap := s1.heap.push { cls := .type "dict_values", data := .fields #[.ref d] } } := I1.kept (t' := s1.toks) fun b ob q => Heap.get?_push_of_some _ q
  refine ⟨⟨o, ho, hx.1⟩, (fun a ea => by cases ea; exact ⟨o, ho, hx.2.1⟩), ?_⟩
  show wpAny _ _ (callWith cpos (.builtin "dict.values") [.ref d] [] []) _ X.xe s1
  refine method_meetsIn PySem.F.slot_dict_values PySem.F.entry_dict_values rfl (PySem.evalArgs_none ⟨rfl, ⟨o, ho, hx.1⟩, PySem.F.args_dict_values_1 _, _, meets_dict_values_raw d hs0, ⟨es, ep, raw⟩, ?_⟩)
  refine Calls.spliced_nil ?_
  have l1 : es.size = xs.length := by rw [← Array.length_toList, hes, List.length_map]
  have l2 : kvs.length = xs.length := Paired.length rel
  refine PySem.W.kdl_call (KdlSrc.rawValues (es := es) (ep := ep) (d := d)) (I1.ok.hd hc) ⟨⟨_, Heap.get?_push_size _ rfl, rfl, rfl⟩, raw.push _⟩ (by omega) fun h' tk acc' c' kp ee it => ?_
  have rv : Vals (kvs.map (·.2)) acc'.toList := by
    refine vals_of_ix (by have e1 := it.1; have e2 : acc'.toList.length = acc'.size := Array.length_toList; rw [List.length_map]; omega) fun j y v e1 e2 => ?_
    obtain ⟨hi, hv⟩ := it.2 j v (by rw [← Array.getElem?_toList]; exact e2)
    have hj : es[j]? = some es[j] := Array.getElem?_eq_getElem hi
    have hj2 : es.toList[j]? = some es[j] := by rw [Array.getElem?_toList]; exact hj
    rw [hes, List.getElem?_map] at hj2
    rw [List.getElem?_map] at e1
    cases ek : kvs[j]? with
    | none => rw [ek] at e1; cases e1
    | some kv =>
      rw [ek] at e1
      cases e1
      cases exx : xs[j]? with
      | none => rw [exx] at hj2; cases hj2
      | some xx =>
        rw [exx] at hj2
        have e3 := Option.some.inj hj2
        have f := pairedIx rel ek exx
        rw [hv, ← e3]
        exact f.2.2
  refine ⟨.ref _, _, I2.laid (t' := tk) (o := .lst (kvs.map (·.2))) kp (Nat.le_refl _) ?_, rfl, q _ (I2.hok.fresh (Nat.le_refl _))⟩
  exact ⟨by rw [List.length_map]; omega, acc'.toList, c', rv, by rw [Array.toArray_toList]; exact ee⟩
end
/-! ### d.update(d2), keys ints and texts -/
section
variable {X : Cx}
def rUpdK : V → List V → Hp → VK → Prop := fun x xs H Q => ∃ (a b : Addr) (kvs more : List (L2.Key × V)), x = .ref a ∧ xs = [.ref b] ∧ a ≠ b ∧ H a = some (.dK kvs) ∧ H b = some (.dK more) ∧ kvs.length + more.length ≤ sizeLine ∧ Q .non (upd H a (.dK (mergeK kvs more)))
theorem mt_updK : MtR X "dict.update" rUpdK := by
  intro pins s σ H x xs v us Q I rx rxs h
  obtain ⟨a, b, kvs, more, rfl, rfl, hne, ha, hb, hl, q⟩ := h
  cases rx
  obtain ⟨u1, rfl, r1⟩ := vals1 rxs
  cases r1
  obtain ⟨z, hd, vs, rel, dd⟩ := dk_of I.hok ha
  obtain ⟨z2, hd2, vs2, rel2, dd2⟩ := dk_of I.hok hb
  refine call_meetsIn PySem.F.slot_dict_update dd.typeIs PySem.F.entry_dict_update (PySem.F.args_dict_update_2 _ _) (meets_dict_update (mixKind X.prog X.w) a b hne hd2)
    ⟨vs, vs2, dd, dd2, by rw [← rel.length, ← rel2.length]; exact hl, fun h' dd' _ hs => ?_⟩
  have he : ∃ q, h'.get? a = some q := let ⟨q, _, _, hq, _⟩ := dd'; ⟨q, hq⟩
  exact ⟨.non, _, d_write (t' := s.toks) I (by rw [ha]; exact True.intro) hs he (dk_new (Nat.le_trans (length_mergeK more kvs) hl) hd (KV.merge rel2 rel) dd'), rfl, q⟩
end
/-! ### {k: v for t0 in i0 for t1 in i1} where every inner walk is empty: the new dict stays empty -/
section
variable {prog : Program} {w : World} {A : Around} {R : Result → Shared → Prop} {s : Shared} {kx vx t0 i0 t1 i1 : Expr} {scope : Scope} {pos : Pos} {it : Value} {D : Addr} {env : Env}
theorem dturn_out : compTurn (.DictComp kx vx [⟨t0, i0, [], 0⟩, ⟨t1, i1, [], 0⟩] scope pos) 0 it (.ref D) env = (do
      standAt i0.pos
      let r ← pyNext it
      match r with
      | none => pure (.done .next)
      | some v => do
        letOwnedTupleGo t0 it v
        assign t0 env v
        let x ← eval i1 env
        standAt i1.pos
        let x ← foldedSetIterable i1 env x
        let _ ← runOwn (.compStart (.DictComp kx vx [⟨t0, i0, [], 0⟩, ⟨t1, i1, [], 0⟩] scope pos) 1 (← holding [x] (pyIter x)) (.ref D) env) env
        again (.compLoop (.DictComp kx vx [⟨t0, i0, [], 0⟩, ⟨t1, i1, [], 0⟩] scope pos) 0 it (.ref D) env)) := by rfl
theorem dloop_in (h : wpAny (model prog w) A (pyNext it) (fun r s₁ => r = none ∧ R (.ok .next) s₁) (fun _ _ => False) s) :
    codeAny (model prog w) A (.compLoop (.DictComp kx vx [⟨t0, i0, [], 0⟩, ⟨t1, i1, [], 0⟩] scope pos) 1 it (.ref D) env) R s := by
  refine codeAny_loop rfl (fun n s' => n = 0 ∧ s' = s) (fun n s' hI => ?_) 0 ⟨rfl, rfl⟩
  obtain ⟨rfl, rfl⟩ := hI
  refine wpAny_noted (m := compTurn (.DictComp kx vx [⟨t0, i0, [], 0⟩, ⟨t1, i1, [], 0⟩] scope pos) 1 it (.ref D) env) ?_
  have e : compTurn (.DictComp kx vx [⟨t0, i0, [], 0⟩, ⟨t1, i1, [], 0⟩] scope pos) 1 it (.ref D) env = (do
      standAt i1.pos
      let r ← pyNext it
      match r with
      | none => pure (.done .next)
      | some v => do
        letOwnedTupleGo t1 it v
        assign t1 env v
        (do
          let kv ← eval kx env
          let vv ← holding [kv] (eval vx env)
          standAt { kx.pos with endLine := vx.pos.endLine, endCol := vx.pos.endCol }
          holding [kv, vv] (dictSet D kv vv))
        again (.compLoop (.DictComp kx vx [⟨t0, i0, [], 0⟩, ⟨t1, i1, [], 0⟩] scope pos) 1 it (.ref D) env)) := by rfl
  rw [e]
  refine wpAny_bind (wpAny_standAt (wpAny_bind (wpAny_mono h (fun r s₁ h₁ => ?_) fun _ _ z => z.elim)))
  obtain ⟨rfl, h₁⟩ := h₁
  exact wpAny_pure h₁
theorem dstart_in (h0 : codeAny (model prog w) A (.compLoop (.DictComp kx vx [⟨t0, i0, [], 0⟩, ⟨t1, i1, [], 0⟩] scope pos) 1 it (.ref D) env) R s)
    (h : wpAny (model prog w) A (pyIter it) (fun it' s' => codeAny (model prog w) A (.compLoop (.DictComp kx vx [⟨t0, i0, [], 0⟩, ⟨t1, i1, [], 0⟩] scope pos) 1 it' (.ref D) env) R s') (fun _ _ => False) s) :
    codeAny (model prog w) A (.compStart (.DictComp kx vx [⟨t0, i0, [], 0⟩, ⟨t1, i1, [], 0⟩] scope pos) 1 it (.ref D) env) R s := by
  refine codeAny_of_tree ?_
  refine wpAny_notedAt (m := compStart (.DictComp kx vx [⟨t0, i0, [], 0⟩, ⟨t1, i1, [], 0⟩] scope pos) 1 it (.ref D) env) ?_
  unfold compStart
  show wpAny _ _ (ask >>= _) _ _ s
  refine wpAny_bind (wpAny_askSetting (wpAny_ite ?_))
  split
  · first
      | exact wpAny_bind (wpAny_pure (wpAny_pure (And.intro rfl h0)))
      | exact wpAny_pure (And.intro rfl h0)
  · have h' := wpAny_mono (E' := notedBy (model prog w) A env fun x s' => R (.error x) s') h (fun _ _ z => z) fun _ _ z => z.elim
    first
      | exact wpAny_bind (wpAny_rule (wpAny_bind (wpAny_standAt (wpAny_bind (wpAny_mono h' (fun it' s' h'' => wpAny_pure (And.intro rfl h'')) fun _ _ x => x)))))
      | (refine wpAny_bind (wpAny_rule ?_); show wpAny _ _ (standAt i1.pos >>= _) _ _ s; exact wpAny_bind (wpAny_standAt (wpAny_bind (wpAny_mono h' (fun it' s' h'' => wpAny_pure (And.intro rfl h'')) fun _ _ x => x))))
end
section
variable {X : Cx}
def tDc2E (wi : TI) (g : TG) (wi1 : TI) (vs : List Nat) : TE := fun σ H Q => wi σ H fun J H1 => ∀ D, H1 D = none → ∃ W : Nat → Nat → Hp → Prop, (∃ m, W 0 m (upd H1 D (.dK []))) ∧ ∀ i m H, W i m H →
  (J.stop i H ∧ Q (.ref D) H) ∨ (J.go i H ∧ ∀ x H', J.yld i H x H' → g x (wipe σ vs) H' fun σ2 H2 => wipe σ2 vs = wipe σ vs ∧ wi1 σ2 H2 fun J1 H3 => J1.stop 0 H3 ∧ ∃ m', m' < m ∧ W (i + 1) m' H3)
theorem dc2E_core {pins : List (Addr × Obj)} {s : Shared} {σ : L2.St} {H : Hp} {Q : VK} {kx vx tg iter tg1 iter1 : Expr} {scope : Scope} {own : List (Str × Nat)} {pos pos' : Pos} {wi wi1 : TI} {g : TG} {use : Option (Value → Sem Unit)} {Qf : Value → Shared → Prop} (hc : X.calm = true) (hN : X.N.Nodup) (I : Inv X pins σ H s) (hi : PI X tg iter wi) (ok : BlkOk X.N X.env.scope scope own)
    (hg : ∀ (s : Shared) (H : Hp) (C : Addr) (cl : List (Str × Addr)) (fp : List Addr), PG (X.blk s H scope (compEnvC scope cl C X.env) fp) tg g)
    (hi1 : ∀ (s : Shared) (H : Hp) (C : Addr) (cl : List (Str × Addr)) (fp : List Addr), PI (X.blk s H scope (compEnvC scope cl C X.env) fp) tg1 iter1 wi1)
    (hs : ∀ x, foldedSetIterable iter X.env x = pure x) (hs1 : ∀ env x, foldedSetIterable iter1 env x = pure x) (h : tDc2E wi g wi1 (own.map (·.2)) σ H Q)
    (hRR : ∀ D C s' m H', Inv X pins σ H' s' → Q (.ref D) H' → s'.heap.Ns C m → FpOk X pins H' C → compPost (model X.prog X.w) X.A X.xe use Qf (.ref D) C (.ok .next) s') :
    wpAny (model X.prog X.w) X.A (comprehension (.DictComp kx vx [⟨tg, iter, [], 0⟩, ⟨tg1, iter1, [], 0⟩] scope pos) scope X.env pos' newDict false (eval iter X.env) use) Qf X.xe s := by
  have hfree : ∀ y ∈ scope.names, y.2 = .free → ∃ c, X.env.cells.lookup y.1 = some c := fun y hy e => (ok.free y hy e).elim (fun k => I.ok.has _ (.inl k)) fun k => I.ok.has _ (.inr k)
  refine wpAny_comprehension_free (use := use) rfl hs (closure_ok hfree) ok.kind (fun y hy e => by rw [ok.uniq y hy, e]) (thn (hi.run pins s σ H _ I h) fun xv s1 hx => thn hx fun itv s2 h2 => ?_)
  obtain ⟨it, fp, tn, J, H2, e, I2, T, st2, f2, q⟩ := h2
  subst e
  refine wpAny_newObj_type (newEnv_comp ?_)
  generalize hD : s2.heap.objs.size = D
  obtain ⟨W, ⟨m0, w0⟩, turn⟩ := q D (I2.hok.fresh (Nat.le_of_eq hD))
  generalize hs3 : ({ s2 with heap := s2.heap.push { cls := .type "dict", data := .dict #[] } } : Shared) = s3
  have h3 : s3.heap = s2.heap.push { cls := .type "dict", data := .dict #[] } := by rw [← hs3]
  have I3 : Inv X pins σ (upd H2 D (.dK [])) s3 := by
    rw [← hs3]
    refine I2.laid (t' := s2.toks) (fun b o e => Heap.get?_push_of_some _ e) (Nat.le_of_eq hD) ?_
    rw [← hD]
    exact dk_empty s2.heap I2.big
  have f3 : ∀ b ∈ fp, FpOk X pins (upd H2 D (.dK [])) b ∧ b < s3.heap.objs.size := fun b hb => by
    obtain ⟨o, e, _⟩ := T.obj _ _ st2 b hb
    have hlt := Heap.lt_size e
    refine ⟨⟨?_, (f2 b hb).2⟩, by rw [h3, Heap.size_push]; exact Nat.lt_succ_of_lt hlt⟩
    rw [upd_ne (by rw [← hD]; exact Nat.ne_of_lt hlt)]
    exact (f2 b hb).1
  have st3 : tn 0 s3.heap := T.keep _ _ _ st2 fun b _ o e => by rw [h3]; exact Heap.get?_push_of_some _ e
  have I4 := block_start I3 ok hN f3
  have pg := hg s3 (upd H2 D (.dK [])) s3.heap.objs.size (cellsFrom (s3.heap.objs.size + 1) scope.names (cloFrom X.env.cells scope.names [])) fp
  have pj := hi1 s3 (upd H2 D (.dK [])) s3.heap.objs.size (cellsFrom (s3.heap.objs.size + 1) scope.names (cloFrom X.env.cells scope.names [])) fp
  show codeAny _ _ (.compStart _ 0 (.ref it) (.ref D) (compEnvC scope (cellsFrom (s3.heap.objs.size + 1) scope.names (cloFrom X.env.cells scope.names [])) s3.heap.objs.size X.env)) _ { s3 with heap := pushCells (s3.heap.push { cls := .type "dict", data := .dict #[] }) scope.names }
  generalize hce : compEnvC scope (cellsFrom (s3.heap.objs.size + 1) scope.names (cloFrom X.env.cells scope.names [])) s3.heap.objs.size X.env = ce at I4 pg pj ⊢
  have cL : ce.locals = s3.heap.objs.size := by subst hce; rfl
  generalize hH3 : upd H2 D (.dK []) = H3 at I3 I4 pg pj w0 f3
  generalize hs4 : ({ s3 with heap := pushCells (s3.heap.push { cls := .type "dict", data := .dict #[] }) scope.names } : Shared) = s4 at I4 ⊢
  have st4 : tn 0 s4.heap := T.keep _ _ _ st3 fun b _ o e => by rw [← hs4]; exact pushCells_keeps _ _ _ _ (Heap.get?_push_of_some _ e)
  have stat : ∀ {σ' : L2.St} {H' : Hp} {s' : Shared}, Inv (X.blk s3 H3 scope ce fp) [] σ' H' s' → (∀ b ∈ fp, H' b = none) → ∀ b ∈ fp, FpOk (X.blk s3 H3 scope ce fp) [] H' b := fun {σ' H' s'} I' hn b hb =>
    ⟨hn b hb, (I'.ok.exf b hb).1, I'.ok.exfs b hb, .inl hb, fun x c e => (I'.ok.exf b hb).2 x c e, fun p hp => absurd (show p ∈ ([] : List (Addr × Obj)) ++ [] from hp) (by simp)⟩
  have loop : codeAny (model X.prog X.w) X.A (.compLoop (.DictComp kx vx [⟨tg, iter, [], 0⟩, ⟨tg1, iter1, [], 0⟩] scope pos) 0 (.ref it) (.ref D) ce) (compPost (model X.prog X.w) X.A X.xe use Qf (.ref D) s3.heap.objs.size) s4 := by
    refine codeAny_loop rfl (fun n s' => ∃ i H', Inv (X.blk s3 H3 scope ce fp) [] (wipe σ (own.map (·.2))) H' s' ∧ tn i s'.heap ∧ (∀ b ∈ fp, H' b = none) ∧ W i n H') (fun n s5 hI => ?_) m0 ⟨0, H3, I4, st4, fun b hb => (f3 b hb).1.1, w0⟩
    obtain ⟨i, H5, I5, st5, n5, w5⟩ := hI
    refine wpAny_noted (m := compTurn (.DictComp kx vx [⟨tg, iter, [], 0⟩, ⟨tg1, iter1, [], 0⟩] scope pos) 0 (.ref it) (.ref D) ce) ?_
    rw [dturn_out]
    refine wpAny_bind (wpAny_standAt (wpAny_bind ?_))
    rcases turn i n H5 w5 with ⟨stop, qq⟩ | ⟨go, step⟩
    · refine thnF (T.done (X.blk s3 H3 scope ce fp) rfl rfl rfl hc i [] s5 _ H5 (fun _ _ => False) I5 (stat I5 n5) st5 stop) fun r s6 ⟨hr, I6⟩ => ?_
      subst hr
      refine wpAny_pure ?_
      have I7 : Inv X pins σ H5 s6 := I3.call' (ch := fp) I6.os I6.base I6.hok I6.bare fun b hb => ⟨(f3 b hb).1.2.2.2.1, (f3 b hb).1.2.1, (f3 b hb).1.2.2.2.2.1, (f3 b hb).1.2.2.2.2.2⟩
      have nC : H5 s3.heap.objs.size = none := by rw [← cL]; exact I6.free
      obtain ⟨m, hn, _⟩ := I6.loc
      have hn : s6.heap.Ns ce.locals m := hn
      rw [cL] at hn
      obtain ⟨g0, g1, g2, g3, g4, g5⟩ := I3.fpOk (Nat.le_refl _) nC
      exact hRR D _ s6 m H5 I7 qq hn ⟨g0, g1, g2, g3, g4, g5⟩
    · refine thnF (T.item (X.blk s3 H3 scope ce fp) rfl rfl rfl hc i [] s5 _ H5 (fun _ _ => False) I5 (stat I5 n5) st5 go) fun r s6 ⟨u, hr, h6⟩ => ?_
      subst hr
      refine wpAny_bind (thnF h6 fun _ s7 ⟨x, H7, I7, r7, y7, st7, n7⟩ => ?_)
      have I7' := I7.pinned (stat I7 n7) (T.obj _ _ st7)
      refine wpAny_bind (thnF (pg.run _ s7 _ H7 x u _ I7' r7 (step x H7 y7)) fun _ s8 ⟨σ8, H8, I8, hw8, q8⟩ => ?_)
      refine wpAny_bind (thnF (pj.run _ s8 σ8 H8 _ I8 q8) fun xv s10 hx => ?_)
      refine wpAny_bind (wpAny_standAt (wpAny_bind (wpAny_of_eq (hs1 ce xv) (wpAny_bind (wpAny_holding (thnF hx fun itv s11 h11 => ?_))))))
      obtain ⟨it1, fp1, tn1, J1, H11, e1, I11, T1, st11, f11, stop1, m', hm, w'⟩ := h11
      subst e1
      refine wpAny_bind (wpAny_runOwn ?_)
      rw [Around.mark_none]
      have loop1 : codeAny (model X.prog X.w) X.A (.compLoop (.DictComp kx vx [⟨tg, iter, [], 0⟩, ⟨tg1, iter1, [], 0⟩] scope pos) 1 (.ref it1) (.ref D) ce)
          (fun r s' => r = .ok .next ∧ ∃ i H', Inv (X.blk s3 H3 scope ce fp) [] (wipe σ (own.map (·.2))) H' s' ∧ tn i s'.heap ∧ (∀ b ∈ fp, H' b = none) ∧ W i m' H') s11 := by
        refine dloop_in (thnF (T1.done (X.blk s3 H3 scope ce fp) rfl rfl rfl hc 0 _ s11 σ8 H11 (fun _ _ => False) I11 (fun b hb => f11 b hb) st11 stop1) fun r s13 ⟨hr, I13⟩ => ⟨hr, rfl, i + 1, H11, ?_, ?_, fun b hb => ?_, w'⟩)
        · exact (I13.unpinned (pins := [])).weak (by rw [← hw8, wipe_length]) fun j v e => by rw [← hw8] at e; exact (wipe_some e).1
        · exact T.keep _ _ _ st7 fun b hb o e => (I13.pin (b, o) (List.mem_append_right _ (List.mem_append_right _ (mem_pinsAt hb e)))).1
        · obtain ⟨o, e, _⟩ := T.obj _ _ st7 b hb
          exact (I13.pin (b, o) (List.mem_append_right _ (List.mem_append_right _ (mem_pinsAt hb e)))).2.1
      refine codeAny_mono (dstart_in loop1 (T1.self X.A 0 _ _ _ st11 loop1)) fun r s' ⟨hr, h'⟩ => ?_
      subst hr
      first
        | exact wpAny_pure ⟨rfl, m', hm, h'⟩
        | exact wpAny_bind (wpAny_pure (wpAny_pure ⟨rfl, m', hm, h'⟩))
  exact codeAny_compStart_dict loop (T.self X.A 0 _ _ _ st4 loop)
theorem pe_dc2E {kx vx tg iter tg1 iter1 : Expr} {scope : Scope} {own : List (Str × Nat)} {pos : Pos} {wi wi1 : TI} {g : TG} (hc : X.calm = true) (hN : X.N.Nodup) (hi : PI X tg iter wi) (ok : BlkOk X.N X.env.scope scope own)
    (hg : ∀ (s : Shared) (H : Hp) (C : Addr) (cl : List (Str × Addr)) (fp : List Addr), PG (X.blk s H scope (compEnvC scope cl C X.env) fp) tg g)
    (hi1 : ∀ (s : Shared) (H : Hp) (C : Addr) (cl : List (Str × Addr)) (fp : List Addr), PI (X.blk s H scope (compEnvC scope cl C X.env) fp) tg1 iter1 wi1)
    (hs : ∀ x, foldedSetIterable iter X.env x = pure x := by intro _; rfl) (hs1 : ∀ env x, foldedSetIterable iter1 env x = pure x := by intro _ _; rfl) :
    PE X (.DictComp kx vx [⟨tg, iter, [], 0⟩, ⟨tg1, iter1, [], 0⟩] scope pos) (tDc2E wi g wi1 (own.map (·.2))) := by
  refine ⟨fun pins s σ H Q I h => ?_⟩
  rw [arm_eval_DictComp]
  refine dc2E_core hc hN I hi ok hg hi1 hs hs1 h fun D C s' m H' I' q hn f => ⟨m, hn, fun h'' sb => ?_⟩
  obtain ⟨f0, f1, f2, f3, f4, f5⟩ := f
  exact ⟨.ref D, H', I'.turned (t' := s'.toks) (fun b o hb e => (sb.2 b hb).trans e) f0 f1 f3 f4 f5, rfl, q⟩
/-- name = {.. for .. for ..} on one line, the name a local -/
theorem ps_setDc2E {i : Nat} {y : Str} {py : Pos} {kx vx tg iter tg1 iter1 : Expr} {scope : Scope} {own : List (Str × Nat)} {pos spos : Pos} {wi wi1 : TI} {g : TG} (hc : X.calm = true) (hN : X.N.Nodup) (hy : X.N[i]? = some y) (hyl : X.env.scope.names.lookup y = some .local)
    (hsw : swapsWith (.DictComp kx vx [⟨tg, iter, [], 0⟩, ⟨tg1, iter1, [], 0⟩] scope pos) (some (.Name y py)) spos.line X.env = pure true) (hi : PI X tg iter wi) (ok : BlkOk X.N X.env.scope scope own)
    (hg : ∀ (s : Shared) (H : Hp) (C : Addr) (cl : List (Str × Addr)) (fp : List Addr), PG (X.blk s H scope (compEnvC scope cl C X.env) fp) tg g)
    (hi1 : ∀ (s : Shared) (H : Hp) (C : Addr) (cl : List (Str × Addr)) (fp : List Addr), PI (X.blk s H scope (compEnvC scope cl C X.env) fp) tg1 iter1 wi1)
    (hs : ∀ x, foldedSetIterable iter X.env x = pure x := by intro _; rfl) (hs1 : ∀ env x, foldedSetIterable iter1 env x = pure x := by intro _ _; rfl) :
    PS X (.Assign [.Name y py] (.DictComp kx vx [⟨tg, iter, [], 0⟩, ⟨tg1, iter1, [], 0⟩] scope pos) spos) (tAsg (tDc2E wi g wi1 (own.map (·.2))) (gName i)) := by
  refine ⟨fun pins s σ H D I h => ?_⟩
  rw [exec_Assign_Name_used _ _ _ _ hsw]
  refine wpAny_bind (wpAny_standAt (wpAny_bind ?_))
  show wpAny _ X.A (do let _ ← comprehension (.DictComp kx vx [⟨tg, iter, [], 0⟩, ⟨tg1, iter1, [], 0⟩] scope pos) scope X.env (firstIterPos [⟨tg, iter, [], 0⟩, ⟨tg1, iter1, [], 0⟩] pos) newDict false (eval iter X.env) (some (assign (.Name y py) X.env))) _ _ s
  have h : tDc2E wi g wi1 (own.map (·.2)) σ H (fun x H1 => gName i x σ H1 D.nx) := h
  refine wpAny_bind (thn (dc2E_core (Qf := fun _ s' => SP X pins D .next s') hc hN I hi ok hg hi1 hs hs1 h fun L C s' m H' I' q hn f => ?_) fun _ s' hq => wpAny_pure (wpAny_pure hq))
  show wpAny _ _ (assign (.Name y py) X.env (.ref L)) _ _ _
  refine wpAny_assign_Name (store_ok2 (v := V.ref L) I' hN hy (.inl hyl) rfl (fun s2 I2 ⟨a, sb, ha⟩ => ?_) (.inr hyl))
  obtain ⟨f0, f1, f2, f3, f4, f5⟩ := f
  have haC : C ≠ a := by
    rcases ha with z | z
    · rw [z]; exact f1
    · exact fun e => f4 y a z e.symm
  refine ⟨m, hn.sameBut sb haC, fun h3 sb3 => ?_⟩
  exact ⟨_, H', I2.turned (t' := s2.toks) (fun b o hb e => (sb3.2 b hb).trans e) f0 f1 f3 f4 f5, q⟩
theorem sw_trueD {kx vx : Expr} {gs : List Comprehension} {scope : Scope} {pos py : Pos} {y : Str} {l : Nat} {env : Env} (hk : env.scope.kind = .function) (hy : env.scope.names.lookup y = some .local) (hl : (py.line == pos.line) = true)
    (ha : (scope.names.any fun (n, k) => n == y && (k == .local || k == .cell)) = false) : swapsWith (.DictComp kx vx gs scope pos) (some (.Name y py)) l env = pure true := by
  have ky : env.kindOf y = some .local := hy
  have hb : env.blockKind = .function := by unfold Env.blockKind; rw [hk]; rfl
  unfold swapsWith
  simp only [hb, ky, ha, Expr.pos, hl]
  rfl
end


end
/-! part P02 -/
section
/-! the text's defs, facts about the world behind the top -/
abbrev inClass (st : Stmt) (j : Nat) : Stmt := (C8.clsBody st).getD j (.Pass ⟨0, 0, 0, 0⟩)
abbrev s_is_count : Stmt := top 13
abbrev n_is_count : List Str := ["value", "least", "most"]
theorem sc_is_count : FnScope n_is_count ["value", "least", "most"] (defScope s_is_count) := ⟨rfl, rfl, rfl, by decide +kernel, rfl, by decide +kernel, by decide +kernel⟩
abbrev s_are_told : Stmt := top 16
abbrev n_are_told : List Str := ["value", "classes", "pages", "one"]
theorem sc_are_told : FnScope n_are_told ["value", "classes"] (defScope s_are_told) := ⟨rfl, rfl, rfl, by decide +kernel, rfl, by decide +kernel, by decide +kernel⟩
abbrev s_Tree_init : Stmt := inClass (top 17) 0
abbrev n_Tree_init : List Str := ["self", "classes", "told"]
theorem sc_Tree_init : FnScope n_Tree_init ["self", "classes", "told"] (defScope s_Tree_init) := ⟨rfl, rfl, rfl, by decide +kernel, rfl, by decide +kernel, by decide +kernel⟩
abbrev s_Tree_told : Stmt := inClass (top 17) 3
abbrev n_Tree_told : List Str := ["self"]
theorem sc_Tree_told : FnScope n_Tree_told ["self"] (defScope s_Tree_told) := ⟨rfl, rfl, rfl, by decide +kernel, rfl, by decide +kernel, by decide +kernel⟩
abbrev s_Tree_is_upright : Stmt := inClass (top 17) 4
abbrev n_Tree_is_upright : List Str := ["self", "node"]
theorem sc_Tree_is_upright : FnScope n_Tree_is_upright ["self"] (defScope s_Tree_is_upright) := ⟨rfl, rfl, rfl, by decide +kernel, rfl, by decide +kernel, by decide +kernel⟩
abbrev s_Tree_eq : Stmt := inClass (top 17) 5
abbrev n_Tree_eq : List Str := ["self", "other"]
theorem sc_Tree_eq : FnScope n_Tree_eq ["self", "other"] (defScope s_Tree_eq) := ⟨rfl, rfl, rfl, by decide +kernel, rfl, by decide +kernel, by decide +kernel⟩
abbrev s_Tree_len : Stmt := inClass (top 17) 6
abbrev n_Tree_len : List Str := ["self"]
theorem sc_Tree_len : FnScope n_Tree_len ["self"] (defScope s_Tree_len) := ⟨rfl, rfl, rfl, by decide +kernel, rfl, by decide +kernel, by decide +kernel⟩
abbrev s_Tree_getitem : Stmt := inClass (top 17) 7
abbrev n_Tree_getitem : List Str := ["self", "node"]
theorem sc_Tree_getitem : FnScope n_Tree_getitem ["self", "node"] (defScope s_Tree_getitem) := ⟨rfl, rfl, rfl, by decide +kernel, rfl, by decide +kernel, by decide +kernel⟩
abbrev s_Tree_iter : Stmt := inClass (top 17) 8
abbrev n_Tree_iter : List Str := ["self"]
theorem sc_Tree_iter : FnScope n_Tree_iter ["self"] (defScope s_Tree_iter) := ⟨rfl, rfl, rfl, by decide +kernel, rfl, by decide +kernel, by decide +kernel⟩
abbrev s_Tree_leaf : Stmt := inClass (top 17) 9
abbrev n_Tree_leaf : List Str := ["self", "page"]
theorem sc_Tree_leaf : FnScope n_Tree_leaf ["self", "page"] (defScope s_Tree_leaf) := ⟨rfl, rfl, rfl, by decide +kernel, rfl, by decide +kernel, by decide +kernel⟩
abbrev s_Tree_way : Stmt := inClass (top 17) 10
abbrev n_Tree_way : List Str := ["self", "page", "found"]
theorem sc_Tree_way : FnScope n_Tree_way ["self", "page"] (defScope s_Tree_way) := ⟨rfl, rfl, rfl, by decide +kernel, rfl, by decide +kernel, by decide +kernel⟩
abbrev s_Tree_greater : Stmt := inClass (top 17) 11
abbrev n_Tree_greater : List Str := ["self", "node"]
theorem sc_Tree_greater : FnScope n_Tree_greater ["self", "node"] (defScope s_Tree_greater) := ⟨rfl, rfl, rfl, by decide +kernel, rfl, by decide +kernel, by decide +kernel⟩
abbrev s_Tree_least_on_way : Stmt := inClass (top 17) 12
abbrev n_Tree_least_on_way : List Str := ["self", "page", "node"]
theorem sc_Tree_least_on_way : FnScope n_Tree_least_on_way ["self", "page"] (defScope s_Tree_least_on_way) := ⟨rfl, rfl, rfl, by decide +kernel, rfl, by decide +kernel, by decide +kernel⟩
abbrev s_Tree_missed : Stmt := inClass (top 17) 13
abbrev n_Tree_missed : List Str := ["self", "page"]
theorem sc_Tree_missed : FnScope n_Tree_missed ["self"] (defScope s_Tree_missed) := ⟨rfl, rfl, rfl, by decide +kernel, rfl, by decide +kernel, by decide +kernel⟩
abbrev s_Tree_mended : Stmt := inClass (top 17) 14
abbrev n_Tree_mended : List Str := ["self", "found", "node"]
theorem sc_Tree_mended : FnScope n_Tree_mended ["self"] (defScope s_Tree_mended) := ⟨rfl, rfl, rfl, by decide +kernel, rfl, by decide +kernel, by decide +kernel⟩
abbrev s_Tree_with_told : Stmt := inClass (top 17) 15
abbrev n_Tree_with_told : List Str := ["self", "node", "told"]
theorem sc_Tree_with_told : FnScope n_Tree_with_told ["self", "node", "told"] (defScope s_Tree_with_told) := ⟨rfl, rfl, rfl, by decide +kernel, rfl, by decide +kernel, by decide +kernel⟩
abbrev s_check_tree : Stmt := top 18
abbrev n_check_tree : List Str := ["value"]
theorem sc_check_tree : FnScope n_check_tree ["value"] (defScope s_check_tree) := ⟨rfl, rfl, rfl, by decide +kernel, rfl, by decide +kernel, by decide +kernel⟩
abbrev s_check_above : Stmt := top 20
abbrev n_check_above : List Str := ["value"]
theorem sc_check_above : FnScope n_check_above ["value"] (defScope s_check_above) := ⟨rfl, rfl, rfl, by decide +kernel, rfl, by decide +kernel, by decide +kernel⟩
abbrev s_check_class : Stmt := top 21
abbrev n_check_class : List Str := ["tree", "told"]
theorem sc_check_class : FnScope n_check_class ["tree", "told"] (defScope s_check_class) := ⟨rfl, rfl, rfl, by decide +kernel, rfl, by decide +kernel, by decide +kernel⟩
abbrev s_raising : Stmt := top 22
abbrev n_raising : List Str := ["tree", "page", "told", "above", "way", "row", "node"]
theorem sc_raising : FnScope n_raising ["tree", "page", "told", "above"] (defScope s_raising) := ⟨rfl, rfl, rfl, by decide +kernel, rfl, by decide +kernel, by decide +kernel⟩
abbrev s_lowering : Stmt := top 23
abbrev n_lowering : List Str := ["tree", "node", "told", "above", "row", "now"]
theorem sc_lowering : FnScope n_lowering ["tree", "node", "told", "above"] (defScope s_lowering) := ⟨rfl, rfl, rfl, by decide +kernel, rfl, by decide +kernel, by decide +kernel⟩
abbrev s_is_row : Stmt := top 24
abbrev n_is_row : List Str := ["tree", "value", "one"]
theorem sc_is_row : FnScope n_is_row ["tree", "value"] (defScope s_is_row) := ⟨rfl, rfl, rfl, by decide +kernel, rfl, by decide +kernel, by decide +kernel⟩
abbrev s_check_row : Stmt := top 25
abbrev n_check_row : List Str := ["tree", "row"]
theorem sc_check_row : FnScope n_check_row ["tree", "row"] (defScope s_check_row) := ⟨rfl, rfl, rfl, by decide +kernel, rfl, by decide +kernel, by decide +kernel⟩
abbrev s_written : Stmt := top 26
abbrev n_written : List Str := ["tree", "row", "node", "told"]
theorem sc_written : FnScope n_written ["tree", "row"] (defScope s_written) := ⟨rfl, rfl, rfl, by decide +kernel, rfl, by decide +kernel, by decide +kernel⟩
abbrev s_stages : Stmt := top 27
abbrev n_stages : List Str := ["tree", "row", "node", "told"]
abbrev s_is_one_of : Stmt := top 30
abbrev n_is_one_of : List Str := ["value", "texts"]
theorem sc_is_one_of : FnScope n_is_one_of ["value", "texts"] (defScope s_is_one_of) := ⟨rfl, rfl, rfl, by decide +kernel, rfl, by decide +kernel, by decide +kernel⟩
abbrev s_check_order : Stmt := top 31
abbrev n_check_order : List Str := ["order"]
theorem sc_check_order : FnScope n_check_order ["order"] (defScope s_check_order) := ⟨rfl, rfl, rfl, by decide +kernel, rfl, by decide +kernel, by decide +kernel⟩
abbrev s_Disk_init : Stmt := inClass (top 32) 0
abbrev n_Disk_init : List Str := ["self", "tree"]
theorem sc_Disk_init : FnScope n_Disk_init ["self", "tree"] (defScope s_Disk_init) := ⟨rfl, rfl, rfl, by decide +kernel, rfl, by decide +kernel, by decide +kernel⟩
abbrev s_Disk_now : Stmt := inClass (top 32) 1
abbrev n_Disk_now : List Str := ["self"]
theorem sc_Disk_now : FnScope n_Disk_now ["self"] (defScope s_Disk_now) := ⟨rfl, rfl, rfl, by decide +kernel, rfl, by decide +kernel, by decide +kernel⟩
abbrev s_Disk_flushed : Stmt := inClass (top 32) 2
abbrev n_Disk_flushed : List Str := ["self"]
theorem sc_Disk_flushed : FnScope n_Disk_flushed ["self"] (defScope s_Disk_flushed) := ⟨rfl, rfl, rfl, by decide +kernel, rfl, by decide +kernel, by decide +kernel⟩
abbrev s_Disk_eq : Stmt := inClass (top 32) 4
abbrev n_Disk_eq : List Str := ["self", "other"]
theorem sc_Disk_eq : FnScope n_Disk_eq ["self", "other"] (defScope s_Disk_eq) := ⟨rfl, rfl, rfl, by decide +kernel, rfl, by decide +kernel, by decide +kernel⟩
abbrev s_Disk_with_row : Stmt := inClass (top 32) 5
abbrev n_Disk_with_row : List Str := ["self", "row", "found"]
theorem sc_Disk_with_row : FnScope n_Disk_with_row ["self", "row"] (defScope s_Disk_with_row) := ⟨rfl, rfl, rfl, by decide +kernel, rfl, by decide +kernel, by decide +kernel⟩
abbrev s_Disk_with_flush : Stmt := inClass (top 32) 6
abbrev n_Disk_with_flush : List Str := ["self"]
theorem sc_Disk_with_flush : FnScope n_Disk_with_flush ["self"] (defScope s_Disk_with_flush) := ⟨rfl, rfl, rfl, by decide +kernel, rfl, by decide +kernel, by decide +kernel⟩
abbrev s_Disk_can_tell : Stmt := inClass (top 32) 7
abbrev n_Disk_can_tell : List Str := ["self", "node", "found", "one", "told"]
theorem sc_Disk_can_tell : FnScope n_Disk_can_tell ["self", "node"] (defScope s_Disk_can_tell) := ⟨rfl, rfl, rfl, by decide +kernel, rfl, by decide +kernel, by decide +kernel⟩
abbrev s_Disk_menus : Stmt := inClass (top 32) 8
abbrev n_Disk_menus : List Str := ["self", "node"]
theorem sc_Disk_menus : FnScope n_Disk_menus ["self"] (defScope s_Disk_menus) := ⟨rfl, rfl, rfl, by decide +kernel, rfl, by decide +kernel, by decide +kernel⟩
abbrev s_Disk_prefixes : Stmt := inClass (top 32) 9
abbrev n_Disk_prefixes : List Str := ["self", "known", "tree"]
theorem sc_Disk_prefixes : FnScope n_Disk_prefixes ["self"] (defScope s_Disk_prefixes) := ⟨rfl, rfl, rfl, by decide +kernel, rfl, by decide +kernel, by decide +kernel⟩
abbrev s_Disk_count : Stmt := inClass (top 32) 10
abbrev n_Disk_count : List Str := ["self", "order", "found", "menu"]
theorem sc_Disk_count : FnScope n_Disk_count ["self", "order"] (defScope s_Disk_count) := ⟨rfl, rfl, rfl, by decide +kernel, rfl, by decide +kernel, by decide +kernel⟩
abbrev s_Disk_trees : Stmt := inClass (top 32) 11
abbrev n_Disk_trees : List Str := ["self", "order", "tree", "menus", "number"]
abbrev s_Disk_can_have : Stmt := inClass (top 32) 12
abbrev n_Disk_can_have : List Str := ["self", "value", "order", "told", "menu"]
theorem sc_Disk_can_have : FnScope n_Disk_can_have ["self", "value", "order"] (defScope s_Disk_can_have) := ⟨rfl, rfl, rfl, by decide +kernel, rfl, by decide +kernel, by decide +kernel⟩
abbrev s_Disk_missable : Stmt := inClass (top 32) 13
abbrev n_Disk_missable : List Str := ["self", "order", "known", "menus", "found", "page", "way", "tree", "node"]
theorem sc_Disk_missable : FnScope n_Disk_missable ["self", "order"] (defScope s_Disk_missable) := ⟨rfl, rfl, rfl, by decide +kernel, rfl, by decide +kernel, by decide +kernel⟩
abbrev s_picked : Stmt := top 33
abbrev n_picked : List Str := ["menus", "number", "found", "menu"]
theorem sc_picked : FnScope n_picked ["menus", "number"] (defScope s_picked) := ⟨rfl, rfl, rfl, by decide +kernel, rfl, by decide +kernel, by decide +kernel⟩
abbrev s_check_disk : Stmt := top 34
abbrev n_check_disk : List Str := ["value"]
theorem sc_check_disk : FnScope n_check_disk ["value"] (defScope s_check_disk) := ⟨rfl, rfl, rfl, by decide +kernel, rfl, by decide +kernel, by decide +kernel⟩
abbrev s_Setting_init : Stmt := inClass (top 38) 0
abbrev n_Setting_init : List Str := ["self", "raises", "lowers", "flush_raises", "flush_lowers", "order", "mends"]
theorem sc_Setting_init : FnScope n_Setting_init ["self", "raises", "lowers", "flush_raises", "flush_lowers", "order", "mends"] (defScope s_Setting_init) := ⟨rfl, rfl, rfl, by decide +kernel, rfl, by decide +kernel, by decide +kernel⟩
abbrev s_Setting_misses : Stmt := inClass (top 38) 2
abbrev n_Setting_misses : List Str := ["self"]
theorem sc_Setting_misses : FnScope n_Setting_misses ["self"] (defScope s_Setting_misses) := ⟨rfl, rfl, rfl, by decide +kernel, rfl, by decide +kernel, by decide +kernel⟩
abbrev s_Setting_frame : Stmt := inClass (top 38) 3
abbrev n_Setting_frame : List Str := ["self"]
theorem sc_Setting_frame : FnScope n_Setting_frame ["self"] (defScope s_Setting_frame) := ⟨rfl, rfl, rfl, by decide +kernel, rfl, by decide +kernel, by decide +kernel⟩
abbrev s_Setting_eq : Stmt := inClass (top 38) 4
abbrev n_Setting_eq : List Str := ["self", "other"]
theorem sc_Setting_eq : FnScope n_Setting_eq ["self", "other"] (defScope s_Setting_eq) := ⟨rfl, rfl, rfl, by decide +kernel, rfl, by decide +kernel, by decide +kernel⟩
abbrev s_Setting_flushes : Stmt := inClass (top 38) 6
abbrev n_Setting_flushes : List Str := ["self", "word"]
theorem sc_Setting_flushes : FnScope n_Setting_flushes ["self", "word"] (defScope s_Setting_flushes) := ⟨rfl, rfl, rfl, by decide +kernel, rfl, by decide +kernel, by decide +kernel⟩
abbrev s_check_setting : Stmt := top 39
abbrev n_check_setting : List Str := ["value"]
theorem sc_check_setting : FnScope n_check_setting ["value"] (defScope s_check_setting) := ⟨rfl, rfl, rfl, by decide +kernel, rfl, by decide +kernel, by decide +kernel⟩
abbrev s_is_deed : Stmt := top 40
abbrev n_is_deed : List Str := ["tree", "value"]
theorem sc_is_deed : FnScope n_is_deed ["tree", "value"] (defScope s_is_deed) := ⟨rfl, rfl, rfl, by decide +kernel, rfl, by decide +kernel, by decide +kernel⟩
abbrev s_deed_row : Stmt := top 41
abbrev n_deed_row : List Str := ["setting", "tree", "deed", "word", "page", "told"]
theorem sc_deed_row : FnScope n_deed_row ["setting", "tree", "deed"] (defScope s_deed_row) := ⟨rfl, rfl, rfl, by decide +kernel, rfl, by decide +kernel, by decide +kernel⟩
abbrev s_all_written : Stmt := top 42
abbrev n_all_written : List Str := ["setting", "disk", "row", "word", "write"]
theorem sc_all_written : FnScope n_all_written ["setting", "disk", "row", "word"] (defScope s_all_written) := ⟨rfl, rfl, rfl, by decide +kernel, rfl, by decide +kernel, by decide +kernel⟩
abbrev s_done_whole : Stmt := top 43
abbrev n_done_whole : List Str := ["setting", "disk", "deed", "row"]
theorem sc_done_whole : FnScope n_done_whole ["setting", "disk", "deed"] (defScope s_done_whole) := ⟨rfl, rfl, rfl, by decide +kernel, rfl, by decide +kernel, by decide +kernel⟩
abbrev s_done_part : Stmt := top 44
abbrev n_done_part : List Str := ["setting", "disk", "deed", "done", "row"]
theorem sc_done_part : FnScope n_done_part ["setting", "disk", "deed", "done"] (defScope s_done_part) := ⟨rfl, rfl, rfl, by decide +kernel, rfl, by decide +kernel, by decide +kernel⟩
abbrev s_crashed : Stmt := top 45
abbrev n_crashed : List Str := ["setting", "disk", "told", "tree"]
theorem sc_crashed : FnScope n_crashed ["setting", "disk", "told"] (defScope s_crashed) := ⟨rfl, rfl, rfl, by decide +kernel, rfl, by decide +kernel, by decide +kernel⟩
abbrev s_left_tree : Stmt := top 46
abbrev n_left_tree : List Str := ["setting", "disk", "told", "classes", "tree"]
theorem sc_left_tree : FnScope n_left_tree ["setting", "disk", "told"] (defScope s_left_tree) := ⟨rfl, rfl, rfl, by decide +kernel, rfl, by decide +kernel, by decide +kernel⟩
abbrev s_behind_crash : Stmt := top 48
abbrev n_behind_crash : List Str := ["setting", "disk", "told"]
theorem sc_behind_crash : FnScope n_behind_crash ["setting", "disk", "told"] (defScope s_behind_crash) := ⟨rfl, rfl, rfl, by decide +kernel, rfl, by decide +kernel, by decide +kernel⟩
abbrev s_behind_cut : Stmt := top 49
abbrev n_behind_cut : List Str := ["setting", "disk", "deed", "done", "told"]
theorem sc_behind_cut : FnScope n_behind_cut ["setting", "disk", "deed", "done", "told"] (defScope s_behind_cut) := ⟨rfl, rfl, rfl, by decide +kernel, rfl, by decide +kernel, by decide +kernel⟩
abbrev s_behind_part : Stmt := top 50
abbrev n_behind_part : List Str := ["setting", "disk", "part"]
theorem sc_behind_part : FnScope n_behind_part ["setting", "disk", "part"] (defScope s_behind_part) := ⟨rfl, rfl, rfl, by decide +kernel, rfl, by decide +kernel, by decide +kernel⟩
abbrev s_end_of : Stmt := top 51
abbrev n_end_of : List Str := ["setting", "tree", "value", "disk", "part"]
theorem sc_end_of : FnScope n_end_of ["setting", "tree", "value"] (defScope s_end_of) := ⟨rfl, rfl, rfl, by decide +kernel, rfl, by decide +kernel, by decide +kernel⟩
abbrev s_is_run : Stmt := top 52
abbrev n_is_run : List Str := ["setting", "tree", "value"]
theorem sc_is_run : FnScope n_is_run ["setting", "tree", "value"] (defScope s_is_run) := ⟨rfl, rfl, rfl, by decide +kernel, rfl, by decide +kernel, by decide +kernel⟩
abbrev s_run_end : Stmt := top 53
abbrev n_run_end : List Str := ["setting", "tree", "run", "disk"]
theorem sc_run_end : FnScope n_run_end ["setting", "tree", "run"] (defScope s_run_end) := ⟨rfl, rfl, rfl, by decide +kernel, rfl, by decide +kernel, by decide +kernel⟩
abbrev s_shows_miss : Stmt := top 54
abbrev n_shows_miss : List Str := ["setting", "tree", "value", "disk"]
theorem sc_shows_miss : FnScope n_shows_miss ["setting", "tree", "value"] (defScope s_shows_miss) := ⟨rfl, rfl, rfl, by decide +kernel, rfl, by decide +kernel, by decide +kernel⟩
abbrev s_l_opened : Stmt := top 56
abbrev n_l_opened : List Str := ["_law_script", "_law_k", "_law_cell", "_law_great"]
theorem sc_l_opened : FnScope n_l_opened ["_law_script", "_law_k"] (defScope s_l_opened) := ⟨rfl, rfl, rfl, by decide +kernel, rfl, by decide +kernel, by decide +kernel⟩
abbrev s_l_draw : Stmt := top 57
abbrev n_l_draw : List Str := ["_law_pool", "_law_many", "_law_some_one"]
theorem sc_l_draw : FnScope n_l_draw ["_law_pool", "_law_many"] (defScope s_l_draw) := ⟨rfl, rfl, rfl, by decide +kernel, rfl, by decide +kernel, by decide +kernel⟩
abbrev s_l_pick : Stmt := top 58
abbrev n_l_pick : List Str := ["_law_pool", "_law_some"]
theorem sc_l_pick : FnScope n_l_pick ["_law_pool", "_law_some"] (defScope s_l_pick) := ⟨rfl, rfl, rfl, by decide +kernel, rfl, by decide +kernel, by decide +kernel⟩
abbrev s_l_way : Stmt := top 59
abbrev n_l_way : List Str := ["_law_told", "_law_page", "_law_node", "_law_nodes"]
theorem sc_l_way : FnScope n_l_way ["_law_told", "_law_page"] (defScope s_l_way) := ⟨rfl, rfl, rfl, by decide +kernel, rfl, by decide +kernel, by decide +kernel⟩
abbrev s_l_greater : Stmt := top 60
abbrev n_l_greater : List Str := ["_law_told", "_law_node"]
theorem sc_l_greater : FnScope n_l_greater ["_law_told", "_law_node"] (defScope s_l_greater) := ⟨rfl, rfl, rfl, by decide +kernel, rfl, by decide +kernel, by decide +kernel⟩
abbrev s_l_write : Stmt := top 61
abbrev n_l_write : List Str := ["_law_told", "_law_rows", "_law_later", "_law_node", "_law_level"]
theorem sc_l_write : FnScope n_l_write ["_law_told", "_law_rows"] (defScope s_l_write) := ⟨rfl, rfl, rfl, by decide +kernel, rfl, by decide +kernel, by decide +kernel⟩
abbrev s_l_raise : Stmt := top 62
abbrev n_l_raise : List Str := ["_law_told", "_law_page", "_law_level", "_law_node"]
theorem sc_l_raise : FnScope n_l_raise ["_law_told", "_law_page", "_law_level"] (defScope s_l_raise) := ⟨rfl, rfl, rfl, by decide +kernel, rfl, by decide +kernel, by decide +kernel⟩
abbrev s_l_lower : Stmt := top 63
abbrev n_l_lower : List Str := ["_law_told", "_law_node", "_law_level", "_law_rows", "_law_now_here"]
theorem sc_l_lower : FnScope n_l_lower ["_law_told", "_law_node", "_law_level"] (defScope s_l_lower) := ⟨rfl, rfl, rfl, by decide +kernel, rfl, by decide +kernel, by decide +kernel⟩
abbrev s_l_is_upright : Stmt := top 64
abbrev n_l_is_upright : List Str := ["_law_told", "_law_node"]
theorem sc_l_is_upright : FnScope n_l_is_upright ["_law_told"] (defScope s_l_is_upright) := ⟨rfl, rfl, rfl, by decide +kernel, rfl, by decide +kernel, by decide +kernel⟩
abbrev s_l_mend : Stmt := top 65
abbrev n_l_mend : List Str := ["_law_told", "_law_later", "_law_node"]
theorem sc_l_mend : FnScope n_l_mend ["_law_told"] (defScope s_l_mend) := ⟨rfl, rfl, rfl, by decide +kernel, rfl, by decide +kernel, by decide +kernel⟩
abbrev s_l_drawn_told : Stmt := top 66
abbrev n_l_drawn_told : List Str := ["_law_pool", "_law_pages", "_law_classes", "_law_rightly", "_law_told", "_law_node", "_law_most"]
theorem sc_l_drawn_told : FnScope n_l_drawn_told ["_law_pool", "_law_pages", "_law_classes", "_law_rightly"] (defScope s_l_drawn_told) := ⟨rfl, rfl, rfl, by decide +kernel, rfl, by decide +kernel, by decide +kernel⟩
abbrev s_l_parts : Stmt := top 67
abbrev n_l_parts : List Str := ["_law_pool", "_law_sides", "_law_flushes", "_law_step_here"]
theorem sc_l_parts : FnScope n_l_parts ["_law_pool"] (defScope s_l_parts) := ⟨rfl, rfl, rfl, by decide +kernel, rfl, by decide +kernel, by decide +kernel⟩
abbrev s_l_made : Stmt := top 68
abbrev n_l_made : List Str := ["_law_parts_here"]
theorem sc_l_made : FnScope n_l_made ["_law_parts_here"] (defScope s_l_made) := ⟨rfl, rfl, rfl, by decide +kernel, rfl, by decide +kernel, by decide +kernel⟩
abbrev s_l_deed_rows : Stmt := top 69
abbrev n_l_deed_rows : List Str := ["_law_parts_here", "_law_told", "_law_deed", "_law_word", "_law_page", "_law_level", "_law_rows"]
theorem sc_l_deed_rows : FnScope n_l_deed_rows ["_law_parts_here", "_law_told", "_law_deed"] (defScope s_l_deed_rows) := ⟨rfl, rfl, rfl, by decide +kernel, rfl, by decide +kernel, by decide +kernel⟩
abbrev s_l_after : Stmt := top 70
abbrev n_l_after : List Str := ["_law_parts_here", "_law_disk", "_law_rows", "_law_word", "_law_last", "_law_base", "_law_since", "_law_at", "_law_row"]
theorem sc_l_after : FnScope n_l_after ["_law_parts_here", "_law_disk", "_law_rows", "_law_word", "_law_last"] (defScope s_l_after) := ⟨rfl, rfl, rfl, by decide +kernel, rfl, by decide +kernel, by decide +kernel⟩
abbrev s_l_now : Stmt := top 71
abbrev n_l_now : List Str := ["_law_disk"]
theorem sc_l_now : FnScope n_l_now ["_law_disk"] (defScope s_l_now) := ⟨rfl, rfl, rfl, by decide +kernel, rfl, by decide +kernel, by decide +kernel⟩
abbrev s_l_drawn_deed : Stmt := top 72
abbrev n_l_drawn_deed : List Str := ["_law_pool", "_law_pages", "_law_classes"]
theorem sc_l_drawn_deed : FnScope n_l_drawn_deed ["_law_pool", "_law_pages", "_law_classes"] (defScope s_l_drawn_deed) := ⟨rfl, rfl, rfl, by decide +kernel, rfl, by decide +kernel, by decide +kernel⟩
abbrev s_l_is_class_row : Stmt := top 73
abbrev n_l_is_class_row : List Str := ["_law_told", "_law_classes", "_law_many", "_law_one"]
theorem sc_l_is_class_row : FnScope n_l_is_class_row ["_law_told", "_law_classes", "_law_many"] (defScope s_l_is_class_row) := ⟨rfl, rfl, rfl, by decide +kernel, rfl, by decide +kernel, by decide +kernel⟩
abbrev s_l_can_have : Stmt := top 74
abbrev n_l_can_have : List Str := ["_law_how", "_law_disk", "_law_told", "_law_base", "_law_since", "_law_node", "_law_at", "_law_one", "_law_level"]
theorem sc_l_can_have : FnScope n_l_can_have ["_law_how", "_law_disk", "_law_told"] (defScope s_l_can_have) := ⟨rfl, rfl, rfl, by decide +kernel, rfl, by decide +kernel, by decide +kernel⟩
abbrev s_l_crashed : Stmt := top 75
abbrev n_l_crashed : List Str := ["_law_parts_here", "_law_classes", "_law_disk", "_law_told"]
theorem sc_l_crashed : FnScope n_l_crashed ["_law_parts_here", "_law_classes", "_law_disk", "_law_told"] (defScope s_l_crashed) := ⟨rfl, rfl, rfl, by decide +kernel, rfl, by decide +kernel, by decide +kernel⟩
abbrev s_l_step : Stmt := top 76
abbrev n_l_step : List Str := ["_law_parts_here", "_law_classes", "_law_disk", "_law_part", "_law_rows", "_law_cut"]
theorem sc_l_step : FnScope n_l_step ["_law_parts_here", "_law_classes", "_law_disk", "_law_part"] (defScope s_l_step) := ⟨rfl, rfl, rfl, by decide +kernel, rfl, by decide +kernel, by decide +kernel⟩
abbrev s_l_some_left : Stmt := top 77
abbrev n_l_some_left : List Str := ["_law_pool", "_law_how", "_law_disk", "_law_base", "_law_since", "_law_told", "_law_node", "_law_one", "_law_level"]
theorem sc_l_some_left : FnScope n_l_some_left ["_law_pool", "_law_how", "_law_disk"] (defScope s_l_some_left) := ⟨rfl, rfl, rfl, by decide +kernel, rfl, by decide +kernel, by decide +kernel⟩
abbrev s_l_drawn_part : Stmt := top 78
abbrev n_l_drawn_part : List Str := ["_law_pool", "_law_parts_here", "_law_pages", "_law_classes", "_law_disk", "_law_way_here", "_law_deed", "_law_rows", "_law_done", "_law_cut"]
theorem sc_l_drawn_part : FnScope n_l_drawn_part ["_law_pool", "_law_parts_here", "_law_pages", "_law_classes", "_law_disk"] (defScope s_l_drawn_part) := ⟨rfl, rfl, rfl, by decide +kernel, rfl, by decide +kernel, by decide +kernel⟩
abbrev s_l_good_parts : Stmt := top 79
abbrev n_l_good_parts : List Str := ["_law_pool", "_law_parts_here"]
theorem sc_l_good_parts : FnScope n_l_good_parts ["_law_pool"] (defScope s_l_good_parts) := ⟨rfl, rfl, rfl, by decide +kernel, rfl, by decide +kernel, by decide +kernel⟩
abbrev s_law : Stmt := top 80
abbrev n_law : List Str := ["_law_script", "_law_k", "_law_pool", "_law_pages", "_law_classes", "_law_parts_here", "_law_told", "_law_setting", "_law_tree", "_law_disk", "_law_run", "_law_step_here", "_law_part", "_law_at", "_law_shown"]
theorem sc_law : FnScope n_law ["_law_script"] (defScope s_law) := ⟨rfl, rfl, rfl, by decide +kernel, rfl, by decide +kernel, by decide +kernel⟩
abbrev cT (K : PySem.W.Frag) : Addr := He.ga K "Tree"
abbrev cD (K : PySem.W.Frag) : Addr := He.ga K "Disk"
abbrev cS (K : PySem.W.Frag) : Addr := He.ga K "Setting"
def FnAt (K : PySem.W.Frag) (mg : Str → Option Value) (x : Str) (st : Stmt) : Prop := ∃ f fd, FunD K x x (defArgs st) (defBody st) (defScope st) [] [] f fd ∧ mg x = some (.ref f)
def MtAt (K : PySem.W.Frag) (C : Addr) (m q : Str) (st : Stmt) : Prop := ∃ f fd, FunD K m q (defArgs st) (defBody st) (defScope st) [] [] f fd ∧ Meth K C m f
def PrAt (K : PySem.W.Frag) (C : Addr) (m q : Str) (st : Stmt) : Prop := ∃ p f fd, FunD K m q (defArgs st) (defBody st) (defScope st) [] [] f fd ∧ PropOf K C m p f
def MkAt (K : PySem.W.Frag) (C : Addr) (q : Str) (st : Stmt) : Prop := ∃ f fd, FunD K "__init__" q (defArgs st) (defBody st) (defScope st) [] [] f fd ∧ Mk K C f
structure Txt (K : PySem.W.Frag) (mg : Str → Option Value) : Prop where
  m_isinstance : mg "isinstance" = none
  m_int : mg "int" = none
  m_bool : mg "bool" = none
  m_list : mg "list" = none
  m_tuple : mg "tuple" = none
  m_str : mg "str" = none
  m_len : mg "len" = none
  m_range : mg "range" = none
  m_max : mg "max" = none
  m_min : mg "min" = none
  m_all : mg "all" = none
  m_sorted : mg "sorted" = none
  m_zip : mg "zip" = none
  m_enumerate : mg "enumerate" = none
  g_MOST_BOUNDS : ∃ u, mg "MOST_BOUNDS" = some u ∧ RelV (.int 8) u
  g_PAGES : mg "PAGES" = some (.ref (He.ga K "PAGES"))
  q_PAGES : ∀ H, SqT K H (He.ga K "PAGES") [.int 2, .int 4, .int 8, .int 16, .int 32]
  g_ORDERS : mg "ORDERS" = some (.ref (He.ga K "ORDERS"))
  q_ORDERS : ∀ H, SqT K H (He.ga K "ORDERS") [.str "in order", .str "anyhow"]
  g_SIDES : mg "SIDES" = some (.ref (He.ga K "SIDES"))
  q_SIDES : ∀ H, SqT K H (He.ga K "SIDES") [.str "above", .str "below"]
  g_WORDS : mg "WORDS" = some (.ref (He.ga K "WORDS"))
  q_WORDS : ∀ H, SqT K H (He.ga K "WORDS") [.str "raise", .str "lower"]
  g_Tree : mg "Tree" = some (.ref (cT K))
  i_Tree : C8.InsC K (cT K)
  g_Disk : mg "Disk" = some (.ref (cD K))
  i_Disk : C8.InsC K (cD K)
  g_Setting : mg "Setting" = some (.ref (cS K))
  i_Setting : C8.InsC K (cS K)
  na_Tree_classes : NoAttr K (cT K) "classes"
  na_Tree_told_row : NoAttr K (cT K) "told_row"
  na_Tree_pages : NoAttr K (cT K) "pages"
  na_Tree_leaves : NoAttr K (cT K) "leaves"
  na_Disk_base : NoAttr K (cD K) "base"
  na_Disk_top : NoAttr K (cD K) "top"
  na_Disk_row : NoAttr K (cD K) "row"
  na_Setting_raises : NoAttr K (cS K) "raises"
  na_Setting_lowers : NoAttr K (cS K) "lowers"
  na_Setting_flush_raises : NoAttr K (cS K) "flush_raises"
  na_Setting_flush_lowers : NoAttr K (cS K) "flush_lowers"
  na_Setting_order : NoAttr K (cS K) "order"
  na_Setting_mends : NoAttr K (cS K) "mends"
  f_is_count : FnAt K mg "is_count" s_is_count
  f_are_told : FnAt K mg "are_told" s_are_told
  f_Tree_init : MkAt K (cT K) "Tree.__init__" s_Tree_init
  f_Tree_told : PrAt K (cT K) "told" "Tree.told" s_Tree_told
  f_Tree_is_upright : PrAt K (cT K) "is_upright" "Tree.is_upright" s_Tree_is_upright
  f_Tree_eq : MtAt K (cT K) "__eq__" "Tree.__eq__" s_Tree_eq
  f_Tree_len : MtAt K (cT K) "__len__" "Tree.__len__" s_Tree_len
  f_Tree_getitem : MtAt K (cT K) "__getitem__" "Tree.__getitem__" s_Tree_getitem
  f_Tree_leaf : MtAt K (cT K) "leaf" "Tree.leaf" s_Tree_leaf
  f_Tree_way : MtAt K (cT K) "way" "Tree.way" s_Tree_way
  f_Tree_greater : MtAt K (cT K) "greater" "Tree.greater" s_Tree_greater
  f_Tree_least_on_way : MtAt K (cT K) "least_on_way" "Tree.least_on_way" s_Tree_least_on_way
  f_Tree_missed : MtAt K (cT K) "missed" "Tree.missed" s_Tree_missed
  f_Tree_mended : MtAt K (cT K) "mended" "Tree.mended" s_Tree_mended
  f_Tree_with_told : MtAt K (cT K) "with_told" "Tree.with_told" s_Tree_with_told
  f_check_tree : FnAt K mg "check_tree" s_check_tree
  f_check_above : FnAt K mg "check_above" s_check_above
  f_check_class : FnAt K mg "check_class" s_check_class
  f_raising : FnAt K mg "raising" s_raising
  f_lowering : FnAt K mg "lowering" s_lowering
  f_is_row : FnAt K mg "is_row" s_is_row
  f_check_row : FnAt K mg "check_row" s_check_row
  f_written : FnAt K mg "written" s_written
  f_stages : FnAt K mg "stages" s_stages
  f_is_one_of : FnAt K mg "is_one_of" s_is_one_of
  f_check_order : FnAt K mg "check_order" s_check_order
  f_Disk_init : MkAt K (cD K) "Disk.__init__" s_Disk_init
  f_Disk_now : PrAt K (cD K) "now" "Disk.now" s_Disk_now
  f_Disk_with_row : MtAt K (cD K) "with_row" "Disk.with_row" s_Disk_with_row
  f_Disk_with_flush : MtAt K (cD K) "with_flush" "Disk.with_flush" s_Disk_with_flush
  f_Disk_can_tell : MtAt K (cD K) "can_tell" "Disk.can_tell" s_Disk_can_tell
  f_Disk_menus : MtAt K (cD K) "menus" "Disk.menus" s_Disk_menus
  f_Disk_prefixes : MtAt K (cD K) "prefixes" "Disk.prefixes" s_Disk_prefixes
  f_Disk_can_have : MtAt K (cD K) "can_have" "Disk.can_have" s_Disk_can_have
  f_Disk_missable : MtAt K (cD K) "missable" "Disk.missable" s_Disk_missable
  f_picked : FnAt K mg "picked" s_picked
  f_check_disk : FnAt K mg "check_disk" s_check_disk
  f_Setting_init : MkAt K (cS K) "Setting.__init__" s_Setting_init
  f_Setting_misses : PrAt K (cS K) "misses" "Setting.misses" s_Setting_misses
  f_Setting_flushes : MtAt K (cS K) "flushes" "Setting.flushes" s_Setting_flushes
  f_check_setting : FnAt K mg "check_setting" s_check_setting
  f_is_deed : FnAt K mg "is_deed" s_is_deed
  f_deed_row : FnAt K mg "deed_row" s_deed_row
  f_all_written : FnAt K mg "all_written" s_all_written
  f_done_whole : FnAt K mg "done_whole" s_done_whole
  f_done_part : FnAt K mg "done_part" s_done_part
  f_crashed : FnAt K mg "crashed" s_crashed
  f_left_tree : FnAt K mg "left_tree" s_left_tree
  f_behind_crash : FnAt K mg "behind_crash" s_behind_crash
  f_behind_cut : FnAt K mg "behind_cut" s_behind_cut
  f_behind_part : FnAt K mg "behind_part" s_behind_part
  f_end_of : FnAt K mg "end_of" s_end_of
  f_is_run : FnAt K mg "is_run" s_is_run
  f_run_end : FnAt K mg "run_end" s_run_end
  f_shows_miss : FnAt K mg "shows_miss" s_shows_miss
  f_l_opened : FnAt K mg "_law_opened" s_l_opened
  f_l_draw : FnAt K mg "_law_draw" s_l_draw
  f_l_pick : FnAt K mg "_law_pick" s_l_pick
  f_l_way : FnAt K mg "_law_way" s_l_way
  f_l_greater : FnAt K mg "_law_greater" s_l_greater
  f_l_write : FnAt K mg "_law_write" s_l_write
  f_l_raise : FnAt K mg "_law_raise" s_l_raise
  f_l_lower : FnAt K mg "_law_lower" s_l_lower
  f_l_is_upright : FnAt K mg "_law_is_upright" s_l_is_upright
  f_l_mend : FnAt K mg "_law_mend" s_l_mend
  f_l_drawn_told : FnAt K mg "_law_drawn_told" s_l_drawn_told
  f_l_parts : FnAt K mg "_law_parts" s_l_parts
  f_l_made : FnAt K mg "_law_made" s_l_made
  f_l_deed_rows : FnAt K mg "_law_deed_rows" s_l_deed_rows
  f_l_after : FnAt K mg "_law_after" s_l_after
  f_l_now : FnAt K mg "_law_now" s_l_now
  f_l_drawn_deed : FnAt K mg "_law_drawn_deed" s_l_drawn_deed
  f_l_is_class_row : FnAt K mg "_law_is_class_row" s_l_is_class_row
  f_l_can_have : FnAt K mg "_law_can_have" s_l_can_have
  f_l_crashed : FnAt K mg "_law_crashed" s_l_crashed
  f_l_step : FnAt K mg "_law_step" s_l_step
  f_l_some_left : FnAt K mg "_law_some_left" s_l_some_left
  f_l_drawn_part : FnAt K mg "_law_drawn_part" s_l_drawn_part
  f_l_good_parts : FnAt K mg "_law_good_parts" s_l_good_parts
  f_law : FnAt K mg "law" s_law
  d_Tree_getitem : ∃ g, PySem.W.findIn K (.ref (cT K)) "__getitem__" = some (some (.ref g)) ∧ PySem.W.fnIn K g = true
section
variable {P : Program} {w : World} {K : PySem.W.Frag} {mg : Str → Option Value} {base : Heap}
abbrev BindsAll (name qual : Str) (st : Stmt) (ps : List Str) : Prop := ∀ (kV doc pm : Value) (an : Option Addr) (cdv ct : Value) (us : List Value), us.length = ps.length → bindArgs (PySem.W.fnOf name qual (defArgs st) (defBody st) (defScope st) .none kV doc pm an cdv ct) ⟨us, []⟩ = pure (ps.zip us)
abbrev BodyOk (P : Program) (w : World) (K : PySem.W.Frag) (mg : Str → Option Value) (base : Heap) (k : Nat) (N : List Str) (qual : Str) (st : Stmt) (sp : Sp) : Prop := ∀ (f : Addr) (cdv : Value) (A : Around) (outer : List Env) (s : Shared) (H : Hp) (vs : List V) (Q : VK) (E : XK), Room k (A.deeper (envOfC qual (defScope st) s.heap.objs.size f cdv)) → sp vs H Q E →
      ∃ t, PSs (cxOf CX0 P w K mg base N qual (defScope st) f cdv A outer s H E).nox (defBody st) t ∧ t { nx := fun _ H' => Q .non H', rt := Q } (start N vs) H
abbrev Lens (sp : Sp) (ps : List Str) : Prop := ∀ vs H Q E, sp vs H Q E → vs.length = ps.length
theorem fnok {name qual : Str} {st : Stmt} {N ps : List Str} {sp : Sp} {k : Nat} {f : Addr} {fd : FuncData} (F : FunD K name qual (defArgs st) (defBody st) (defScope st) [] [] f fd) (S : FnScope N ps (defScope st)) (len : Lens sp ps)
    (hbody : BodyOk P w K mg base k N qual st sp) : FnOk P w K mg base CX0 (k + 1) f fd ps sp := by
  refine F.ok S len fun cdv A outer s H vs Q E hr h => ?_
  obtain ⟨t, h, q⟩ := hbody f cdv A outer s H vs Q E hr h
  exact ⟨t, h.nox, q⟩
theorem mkcal {x : Str} {st : Stmt} {N ps : List Str} {sp : Sp} {k : Nat} (G : FnAt K mg x st) (S : FnScope N ps (defScope st)) (len : Lens sp ps) (hb : BindsAll x x st ps)
    (hbody : BodyOk P w K mg base k N x st sp) : C8.Cal P w K mg base (k + 1) x sp [] := by
  obtain ⟨f, fd, F, gm⟩ := G
  exact ⟨f, fd, ps, [], fnok F S len hbody, gm, F.kp, F.bindsN hb, .nil⟩
theorem mkmet {C : Addr} {m q : Str} {st : Stmt} {N ps : List Str} {sp : Sp} {k : Nat} (c : Cls K C) (G : MtAt K C m q st) (S : FnScope N ps (defScope st)) (len : Lens sp ps) (hb : BindsAll m q st ps)
    (hbody : BodyOk P w K mg base k N q st sp) : C8.Met P w K mg base (k + 1) C m sp [] := by
  obtain ⟨f, fd, F, gm⟩ := G
  exact ⟨f, fd, ps, [], c, gm, fnok F S len hbody, F.bindsN hb, .nil⟩
theorem mkprp {C : Addr} {m q : Str} {st : Stmt} {N ps : List Str} {sp : Sp} {k : Nat} (c : Cls K C) (G : PrAt K C m q st) (S : FnScope N ps (defScope st)) (len : Lens sp ps) (hb : BindsAll m q st ps)
    (hbody : BodyOk P w K mg base k N q st sp) : Prp P w K mg base (k + 1) C m sp := by
  obtain ⟨p, f, fd, F, gm⟩ := G
  exact ⟨p, f, fd, ps, [], c, gm, fnok F S len hbody, F.bindsN hb, .nil⟩
theorem mkmak {x : Str} {C : Addr} {q : Str} {st : Stmt} {N ps : List Str} {sp : Sp} {k : Nat} (g : mg x = some (.ref C)) (G : MkAt K C q st) (S : FnScope N ps (defScope st)) (len : Lens sp ps) (hb : BindsAll "__init__" q st ps)
    (hbody : BodyOk P w K mg base k N q st sp) : C8.Mak P w K mg base (k + 1) x C sp [] := by
  obtain ⟨f, fd, F, gm⟩ := G
  exact ⟨f, fd, ps, [], gm, fnok F S len hbody, g, F.bindsN hb, .nil⟩
/-- calls with keywords, all of them written, in the parameters' order -/
theorem kbn_all {name qual : Str} {st : Stmt} {f : Addr} {fd : FuncData} {ps ks : List Str} {n : Nat} (F : FunD K name qual (defArgs st) (defBody st) (defScope st) [] [] f fd)
    (h : ∀ (kV doc pm : Value) (an : Option Addr) (cdv ct : Value) (us ws : List Value), us.length = n → ws.length = ks.length → bindArgs (PySem.W.fnOf name qual (defArgs st) (defBody st) (defScope st) .none kV doc pm an cdv ct) ⟨us, ks.zip ws⟩ = pure (ps.zip (us ++ ws))) :
    KBn K fd ps n ks (fun us ws => us ++ ws) (fun vs zs => vs ++ zs) := by
  obtain ⟨oc, od, dV, kV, doc, pm, an, cdv, ct, osl, rfl, lk, hcd, hD, hK⟩ := F.ex
  rcases hD with ⟨_, rfl⟩ | ⟨e, _⟩
  · exact ⟨fun s us ws _ l1 l2 => .of_eq (h kV doc pm an cdv ct us ws l1 l2), fun r1 r2 => r1.append r2⟩
  · exact absurd rfl e
structure CalK (P : Program) (w : World) (K : PySem.W.Frag) (mg : Str → Option Value) (base : Heap) (k : Nat) (x : Str) (sp : Sp) (n : Nat) (ks : List Str) : Prop where
  ex : ∃ (f : Addr) (fd : FuncData) (ps : List Str), FnOk P w K mg base CX0 k f fd ps sp ∧ mg x = some (.ref f) ∧ PySem.W.keepIn K (.ref f) = true ∧ KBn K fd ps n ks (fun us ws => us ++ ws) (fun vs zs => vs ++ zs)
structure MakK (P : Program) (w : World) (K : PySem.W.Frag) (mg : Str → Option Value) (base : Heap) (k : Nat) (x : Str) (C : Addr) (sp : Sp) (ks : List Str) : Prop where
  ex : ∃ (f : Addr) (fd : FuncData) (ps : List Str), Mk K C f ∧ FnOk P w K mg base CX0 k f fd ps sp ∧ mg x = some (.ref C) ∧ KBn K fd ps 1 ks (fun us ws => us ++ ws) (fun vs zs => vs ++ zs)
theorem mkcalK {x : Str} {st : Stmt} {N ps ks : List Str} {sp : Sp} {k n : Nat} (G : FnAt K mg x st) (S : FnScope N ps (defScope st)) (len : Lens sp ps)
    (hb : ∀ (kV doc pm : Value) (an : Option Addr) (cdv ct : Value) (us ws : List Value), us.length = n → ws.length = ks.length → bindArgs (PySem.W.fnOf x x (defArgs st) (defBody st) (defScope st) .none kV doc pm an cdv ct) ⟨us, ks.zip ws⟩ = pure (ps.zip (us ++ ws)))
    (hbody : BodyOk P w K mg base k N x st sp) : CalK P w K mg base (k + 1) x sp n ks := by
  obtain ⟨f, fd, F, gm⟩ := G
  exact ⟨f, fd, ps, fnok F S len hbody, gm, F.kp, kbn_all F hb⟩
theorem mkmakK {x : Str} {C : Addr} {q : Str} {st : Stmt} {N ps ks : List Str} {sp : Sp} {k : Nat} (g : mg x = some (.ref C)) (G : MkAt K C q st) (S : FnScope N ps (defScope st)) (len : Lens sp ps)
    (hb : ∀ (kV doc pm : Value) (an : Option Addr) (cdv ct : Value) (us ws : List Value), us.length = 1 → ws.length = ks.length → bindArgs (PySem.W.fnOf "__init__" q (defArgs st) (defBody st) (defScope st) .none kV doc pm an cdv ct) ⟨us, ks.zip ws⟩ = pure (ps.zip (us ++ ws)))
    (hbody : BodyOk P w K mg base k N q st sp) : MakK P w K mg base (k + 1) x C sp ks := by
  obtain ⟨f, fd, F, gm⟩ := G
  exact ⟨f, fd, ps, gm, fnok F S len hbody, g, kbn_all F hb⟩
end
section
variable {X : Cx} {k n j : Nat} {x : Str} {C : Addr} {sp : Sp} {p pos : Pos} {e : Expr} {es : List Expr} {kws : List Keyword} {ks : List Str} {t tk : TA}
theorem pe_cK (c : CalK X.prog X.w X.K X.mg X.base k x sp n ks) (hr : Room j X.A) (hk : k ≤ j) (hg : Gl X x) (ha : PA X (e :: es) t) (hkw : PK X kws tk)
    (hall : (backToKw pos (keywordEach kws X.env)).all (·.1.isSome) = true := by rfl) (hks : (backToKw pos (keywordEach kws X.env)).filterMap (·.1) = ks := by rfl)
    (hdb : (x == ("__debug__" : Str)) = false := by decide) (he : starEach (e :: es) X.env = (false, eval e X.env) :: starEach es X.env := by rfl)
    (hpl : ((backTo pos (starEach (e :: es) X.env)).any (·.1) || (backToKw pos (keywordEach kws X.env)).any (·.1.isNone)) = false := by rfl) :
    PE X (.Call (.Name x p) (e :: es) kws pos) (tCallN n ks.length sp (fun vs zs => vs ++ zs) E0 t tk) := by
  obtain ⟨f, fd, ps, F, hm, kp, b⟩ := c.ex
  exact pe_callN F (hr.mono hk) hg hm kp b pass0 ha hkw hall hks hdb he hpl
theorem pe_mkK (c : MakK X.prog X.w X.K X.mg X.base k x C sp ks) (hr : Room j X.A) (hk : k + 1 ≤ j) (hg : Gl X x) (hkw : PK X kws tk)
    (hall : (backToKw pos (keywordEach kws X.env)).all (·.1.isSome) = true := by rfl) (hks : (backToKw pos (keywordEach kws X.env)).filterMap (·.1) = ks := by rfl) (hdb : (x == ("__debug__" : Str)) = false := by decide)
    (hpl : ((backTo pos (starEach [] X.env)).any (·.1) || (backToKw pos (keywordEach kws X.env)).any (·.1.isNone)) = false := by rfl) :
    PE X (.Call (.Name x p) [] kws pos) (tMakeK C 0 ks.length sp (fun vs zs => vs ++ zs) E0 tNil tk) := by
  obtain ⟨f, fd, ps, M, F, hm, b⟩ := c.ex
  exact pe_makeK0 M F (hr.mono hk) hg hm b pass0 hkw hall hks hdb hpl
end
/-! ### rules -/
theorem _root_.L2.Same.up {H H' : Hp} {D : Addr} {o : HO} (e : Same H H') (h : H D = none) : Same H (upd H' D o) := fun b u q => by
  rw [upd_ne (ne_of_none q h)]
  exact e b u q
theorem same_up {H : Hp} {D : Addr} {o : HO} (h : H D = none) : Same H (upd H D o) := Same.up (Same.refl H) h
/-! the same rules, the written part named (for blocks) -/
section
variable {X : Cx} {e a b : Expr} {te : TE} {f : Str} {pos : Pos} {tg : Expr}
theorem pe_fldK (K : PySem.W.Frag) (he : PE X e te) (hb : attributeBase e f X.env (eval e X.env) = eval e X.env) (h : X.K = K := by rfl) : PE X (.Attribute e f pos) (tFld K te f) := by
  subst h
  exact pe_fld he hb
theorem ix_tupK (K : PySem.W.Frag) (h : X.K = K := by rfl) : IxR X (rIxT K) := by
  subst h
  exact ix_tup
theorem ix_listK (K : PySem.W.Frag) (h : X.K = K := by rfl) : IxR X (rIxL K) := by
  subst h
  exact ix_list
theorem ix_seqK (K : PySem.W.Frag) (h : X.K = K := by rfl) : IxR X (rIx K) := by
  subst h
  exact ix_seq
theorem sl_listK (K : PySem.W.Frag) (h : X.K = K := by rfl) : SlR X (rSlL K) := by
  subst h
  exact sl_list
theorem call_lenK (K : PySem.W.Frag) (h : X.K = K := by rfl) : CallR X (.builtin "len") (fun xs H Q => ∃ x n, xs = [x] ∧ LenV K x H n ∧ Q (.int n) H) := by
  subst h
  exact call_len
theorem call_isiK (K : PySem.W.Frag) (h : X.K = K := by rfl) : CallR X (.builtin "isinstance") (rIsi K) := by
  subst h
  exact call_isi
theorem op_in_seqK (K : PySem.W.Frag) (h : X.K = K := by rfl) : OpR X (compareOp .In) (rIn K false) := by
  subst h
  exact op_in_seq
theorem pi_listK (K : PySem.W.Frag) (hl : PE X e te) (h : X.K = K := by rfl) : PI X tg e (iList K te) := by
  subst h
  exact pi_list hl
end
theorem pg_tupK (K : PySem.W.Frag) {X : Cx} {pos : Pos} {es : List Expr} {k : Nat} {t : TGs} {n : Nat} (hc : X.calm = true) (h : PGs X es t)
    (hn : (assignEach es X.env).length = n := by rfl) (hst : (assignEach es X.env).findIdx? (·.1) = none := by rfl) (hK : X.K = K := by rfl) : PG X (.Tuple es k pos) (gTup K n t) := by
  subst hK
  exact pg_tup hc h hn hst


end
/-! part P03 -/
section
/-! ### the plain side: what is computed -/
abbrev Wr : Type := Int × Int
def lvl (ts : List Int) (v : Int) : Int := ts.getD (v - 1).toNat 0
def put (ts : List Int) (w : Wr) : List Int := ts.set (w.1 - 1).toNat w.2
def puts (ts : List Int) (ws : List Wr) : List Int := ws.foldl put ts
def gr (ts : List Int) (v : Int) : Int := if lvl ts (2 * v + 1) > lvl ts (2 * v) then lvl ts (2 * v + 1) else lvl ts (2 * v)
def up (v : Int) : List Int := if v < 1 then [] else v :: up (v / 2)
termination_by v.toNat
decreasing_by omega
theorem up_neg {v : Int} (h : v < 1) : up v = [] := by rw [up, if_pos h]
theorem up_pos {v : Int} (h : 1 ≤ v) : up v = v :: up (v / 2) := by rw [up, if_neg (by omega)]
def way (n p : Int) : List Int := (up (n + p)).reverse
def lowUp (ts : List Int) (v : Int) : List Wr := if v < 1 then [] else if gr ts v < lvl ts v then (v, gr ts v) :: lowUp (put ts (v, gr ts v)) (v / 2) else lowUp ts (v / 2)
termination_by v.toNat
decreasing_by all_goals omega
theorem lowUp_neg {ts : List Int} {v : Int} (h : v < 1) : lowUp ts v = [] := by rw [lowUp, if_pos h]
theorem lowUp_lt {ts : List Int} {v : Int} (h : 1 ≤ v) (g : gr ts v < lvl ts v) : lowUp ts v = (v, gr ts v) :: lowUp (put ts (v, gr ts v)) (v / 2) := by rw [lowUp, if_neg (by omega), if_pos g]
theorem lowUp_ge {ts : List Int} {v : Int} (h : 1 ≤ v) (g : ¬ gr ts v < lvl ts v) : lowUp ts v = lowUp ts (v / 2) := by rw [lowUp, if_neg (by omega), if_neg g]
def lowRow (ts : List Int) (v l : Int) : List Wr := if l ≥ lvl ts v then [] else (v, l) :: lowUp (put ts (v, l)) (v / 2)
def raiseRow (ts : List Int) (n p l : Int) : List Wr := ((way n p).filter fun v => decide (lvl ts v < l)).map fun v => (v, l)
def mendTo : Nat → List Int → List Int
  | 0, ts => ts
  | k + 1, ts => mendTo k (put ts ((k + 1 : Nat), gr ts ((k + 1 : Nat))))
def mend (n : Int) (ts : List Int) : List Int := mendTo (n - 1).toNat ts
def Up (n : Int) (ts : List Int) : Prop := ∀ v : Int, 2 ≤ v → v < 2 * n → lvl ts v ≤ lvl ts (v / 2)
/-- a row of levels that fits -/
structure TW (n c : Int) (ts : List Int) : Prop where
  n5 : n = 2 ∨ n = 4 ∨ n = 8 ∨ n = 16 ∨ n = 32
  len : (ts.length : Int) + 1 = 2 * n
  c1 : 1 ≤ c
  c8 : c ≤ 8
  ent : ∀ x ∈ ts, 0 ≤ x ∧ x ≤ c
def WOk (n c : Int) (w : Wr) : Prop := 1 ≤ w.1 ∧ w.1 < 2 * n ∧ 0 ≤ w.2 ∧ w.2 ≤ c
structure Par where
  ra : Bool
  la : Bool
  fr : Bool
  fl : Bool
  io : Bool
  me : Bool
structure Deed where
  up : Bool
  page : Int
  lv : Int
structure Dk where
  base : List Int
  row : List Wr
def Dk.now (D : Dk) : List Int := puts D.base D.row
inductive Part where
  | flush | crash (t : List Int) | deed (d : Deed) | cut (d : Deed) (k : Int) (t : List Int)
def Par.fls (p : Par) (d : Deed) : Bool := if d.up then p.fr else p.fl
def rows (p : Par) (n : Int) (ts : List Int) (d : Deed) : List Wr :=
  if d.up then (if p.ra then raiseRow ts n d.page d.lv else (raiseRow ts n d.page d.lv).reverse) else (if p.la then (lowRow ts (n + d.page) d.lv).reverse else lowRow ts (n + d.page) d.lv)
def add1 (D : Dk) (w : Wr) : Dk := ⟨D.base, D.row ++ [w]⟩
def aft1 (f : Bool) (D : Dk) (w : Wr) : Dk := if f then ⟨puts D.base (D.row ++ [w]), []⟩ else add1 D w
def afts (f : Bool) (D : Dk) (ws : List Wr) : Dk := ws.foldl (aft1 f) D
/-- the disk behind the first k writes of a deed, the last one not flushed -/
def cutAt (f : Bool) (D : Dk) (ws : List Wr) (k : Int) : Dk := match ws[(k - 1).toNat]? with
  | some w => add1 (afts f D (ws.take (k - 1).toNat)) w
  | none => D
def Can (io : Bool) (D : Dk) (t : List Int) : Prop := if io then ∃ i, i ≤ D.row.length ∧ t = puts D.base (D.row.take i) else ∀ v : Int, 1 ≤ v → v ≤ D.base.length → lvl t v = lvl D.base v ∨ ∃ w ∈ D.row, w.1 = v ∧ lvl t v = w.2
def left (p : Par) (n : Int) (t : List Int) : Dk := ⟨if p.me then mend n t else t, []⟩
def DeedOk (n c : Int) (d : Deed) : Prop := 0 ≤ d.page ∧ d.page < n ∧ 0 ≤ d.lv ∧ d.lv ≤ c
def stepP (p : Par) (n : Int) (D : Dk) : Part → Dk
  | .flush => ⟨D.now, []⟩
  | .crash t => left p n t
  | .deed d => afts (p.fls d) D (rows p n D.now d)
  | .cut _ _ t => left p n t
def PartOk (p : Par) (n c : Int) (D : Dk) : Part → Prop
  | .flush => True
  | .crash t => TW n c t ∧ Can p.io D t
  | .deed d => DeedOk n c d
  | .cut d k t => DeedOk n c d ∧ 1 ≤ k ∧ k ≤ (rows p n D.now d).length ∧ TW n c t ∧ Can p.io (cutAt (p.fls d) D (rows p n D.now d) k) t
def runP (p : Par) (n : Int) (D : Dk) (run : List Part) : Dk := run.foldl (stepP p n) D
def RunOk (p : Par) (n c : Int) : Dk → List Part → Prop
  | _, [] => True
  | D, x :: r => PartOk p n c D x ∧ D.row.length ≤ 9000 ∧ RunOk p n c (stepP p n D x) r
/-! ### on the heap -/
abbrev iV (ts : List Int) : List V := ts.map V.int
def SeqI (K : PySem.W.Frag) (H : Hp) (a : Addr) (ts : List Int) : Prop := SqL K H a (iV ts) ∨ SqT K H a (iV ts)
structure TreeF (K : PySem.W.Frag) (H : Hp) (n c : Int) (ts : List Int) (t l : Addr) : Prop where
  told : SqT K H t (iV ts)
  leaves : ∃ xs, SqT K H l xs ∧ (xs.length : Int) = n
  tw : TW n c ts
abbrev treeFs (n c : Int) (t l : Addr) : List (Str × V) := [("classes", .int c), ("told_row", .ref t), ("pages", .int n), ("leaves", .ref l)]
def TreeAt (K : PySem.W.Frag) (H : Hp) (a : Addr) (n c : Int) (ts : List Int) : Prop := ∃ dx t l, H a = some (.ins (cT K) dx (treeFs n c t l)) ∧ TreeF K H n c ts t l
def WrAt (K : PySem.W.Frag) (H : Hp) (x : V) (w : Wr) : Prop := ∃ p, x = .ref p ∧ SqT K H p [.int w.1, .int w.2]
abbrev WrsAt (K : PySem.W.Frag) (H : Hp) (xs : List V) (ws : List Wr) : Prop := Paired (WrAt K H) xs ws
def RowL (K : PySem.W.Frag) (H : Hp) (a : Addr) (ws : List Wr) : Prop := ∃ xs, SqL K H a xs ∧ WrsAt K H xs ws
structure DiskF (K : PySem.W.Frag) (H : Hp) (n c : Int) (D : Dk) (b t r : Addr) : Prop where
  base : TreeAt K H b n c D.base
  top : TreeAt K H t n c D.now
  row : ∃ xs, SqT K H r xs ∧ WrsAt K H xs D.row
  wok : ∀ w ∈ D.row, WOk n c w
  small : D.row.length ≤ 100000
abbrev diskFs (b t r : Addr) : List (Str × V) := [("base", .ref b), ("top", .ref t), ("row", .ref r)]
def DiskAt (K : PySem.W.Frag) (H : Hp) (a : Addr) (n c : Int) (D : Dk) : Prop := ∃ dx b t r, H a = some (.ins (cD K) dx (diskFs b t r)) ∧ DiskF K H n c D b t r
def side (above : Bool) : V := if above then .str "above" else .str "below"
def ordV (io : Bool) : V := if io then .str "in order" else .str "anyhow"
def wordV (up : Bool) : V := if up then .str "raise" else .str "lower"
abbrev setFs (p : Par) : List (Str × V) := [("raises", side p.ra), ("lowers", side p.la), ("flush_raises", .bl p.fr), ("flush_lowers", .bl p.fl), ("order", ordV p.io), ("mends", .bl p.me)]
def SetAt (K : PySem.W.Frag) (H : Hp) (a : Addr) (p : Par) : Prop := ∃ dx, H a = some (.ins (cS K) dx (setFs p))
def DeedAt (K : PySem.W.Frag) (H : Hp) (x : V) (d : Deed) : Prop := ∃ p, x = .ref p ∧ SqT K H p [wordV d.up, .int d.page, .int d.lv]
def TupI (K : PySem.W.Frag) (H : Hp) (x : V) (t : List Int) : Prop := ∃ p, x = .ref p ∧ SqT K H p (iV t)
def PartAt (K : PySem.W.Frag) (H : Hp) (x : V) : Part → Prop
  | .flush => ∃ p, x = .ref p ∧ SqT K H p [.str "flush"]
  | .crash t => ∃ p y, x = .ref p ∧ SqT K H p [.str "crash", y] ∧ TupI K H y t
  | .deed d => DeedAt K H x d
  | .cut d k t => ∃ p y z, x = .ref p ∧ SqT K H p [.str "cut", y, .int k, z] ∧ DeedAt K H y d ∧ TupI K H z t
/-! what is known stays known -/
section
variable {K : PySem.W.Frag} {H H' : Hp}
theorem _root_.L2.Same.rd (e : Same H H') {a : Addr} {o : HO} (h : Rd H a o) : Rd H' a o := by
  rcases h with h | ⟨ob, h⟩
  · exact .inl (e _ _ h)
  · exact .inr ⟨ob, e _ _ h⟩
theorem _root_.L2.Same.sqL (e : Same H H') {a : Addr} {xs : List V} (h : SqL K H a xs) : SqL K H' a xs := by
  rcases h with h | h
  · exact .inl (e.rd h)
  · exact .inr h
theorem _root_.L2.Same.sqT (e : Same H H') {a : Addr} {xs : List V} (h : SqT K H a xs) : SqT K H' a xs := by
  rcases h with h | h
  · exact .inl (e.rd h)
  · exact .inr h
theorem _root_.L2.Same.seqI (e : Same H H') {a : Addr} {ts : List Int} (h : SeqI K H a ts) : SeqI K H' a ts := h.imp e.sqL e.sqT
theorem _root_.L2.Same.tree (e : Same H H') {a : Addr} {n c : Int} {ts : List Int} (h : TreeAt K H a n c ts) : TreeAt K H' a n c ts := by
  obtain ⟨dx, t, l, h1, h2⟩ := h
  obtain ⟨xs, h3, h4⟩ := h2.leaves
  exact ⟨dx, t, l, e _ _ h1, e.sqT h2.told, ⟨xs, e.sqT h3, h4⟩, h2.tw⟩
theorem _root_.L2.Same.wr (e : Same H H') {x : V} {w : Wr} (h : WrAt K H x w) : WrAt K H' x w := by
  obtain ⟨p, h1, h2⟩ := h
  exact ⟨p, h1, e.sqT h2⟩
theorem _root_.L2.Same.wrs (e : Same H H') {xs : List V} {ws : List Wr} (h : WrsAt K H xs ws) : WrsAt K H' xs ws := Paired.mapP h fun _ _ => e.wr
theorem _root_.L2.Same.rowL (e : Same H H') {a : Addr} {ws : List Wr} (h : RowL K H a ws) : RowL K H' a ws := by
  obtain ⟨xs, h1, h2⟩ := h
  exact ⟨xs, e.sqL h1, e.wrs h2⟩
theorem _root_.L2.Same.diskF (e : Same H H') {n c : Int} {D : Dk} {b t r : Addr} (h : DiskF K H n c D b t r) : DiskF K H' n c D b t r := by
  obtain ⟨xs, h3, h4⟩ := h.row
  exact ⟨e.tree h.base, e.tree h.top, ⟨xs, e.sqT h3, e.wrs h4⟩, h.wok, h.small⟩
theorem _root_.L2.Same.disk (e : Same H H') {a : Addr} {n c : Int} {D : Dk} (h : DiskAt K H a n c D) : DiskAt K H' a n c D := by
  obtain ⟨dx, b, t, r, h1, h2⟩ := h
  exact ⟨dx, b, t, r, e _ _ h1, e.diskF h2⟩
theorem _root_.L2.Same.set (e : Same H H') {a : Addr} {p : Par} (h : SetAt K H a p) : SetAt K H' a p := by
  obtain ⟨dx, h⟩ := h
  exact ⟨dx, e _ _ h⟩
theorem _root_.L2.Same.deed (e : Same H H') {x : V} {d : Deed} (h : DeedAt K H x d) : DeedAt K H' x d := by
  obtain ⟨p, h1, h2⟩ := h
  exact ⟨p, h1, e.sqT h2⟩
theorem _root_.L2.Same.tupI (e : Same H H') {x : V} {t : List Int} (h : TupI K H x t) : TupI K H' x t := by
  obtain ⟨p, h1, h2⟩ := h
  exact ⟨p, h1, e.sqT h2⟩
theorem _root_.L2.Same.part (e : Same H H') {x : V} : ∀ {q : Part}, PartAt K H x q → PartAt K H' x q
  | .flush, ⟨p, h1, h2⟩ => ⟨p, h1, e.sqT h2⟩
  | .crash _, ⟨p, y, h1, h2, h3⟩ => ⟨p, y, h1, e.sqT h2, e.tupI h3⟩
  | .deed _, h => e.deed h
  | .cut _ _ _, ⟨p, y, z, h1, h2, h3, h4⟩ => ⟨p, y, z, h1, e.sqT h2, e.deed h3, e.tupI h4⟩
end
theorem sqT_at {K : PySem.W.Frag} {H : Hp} {a : Addr} {xs : List V} (h : H a = some (.tup xs)) : SqT K H a xs := .inl (.inl h)
theorem sqL_at {K : PySem.W.Frag} {H : Hp} {a : Addr} {xs : List V} (h : H a = some (.lst xs)) : SqL K H a xs := .inl (.inl h)
/-! small facts -/
theorem TW.npos {n c : Int} {ts : List Int} (h : TW n c ts) : 2 ≤ n ∧ n ≤ 32 := by have := h.n5; omega
theorem lvl_get {ts : List Int} {v : Int} (h1 : 1 ≤ v) (h2 : v ≤ ts.length) : ts[(v - 1).toNat]? = some (lvl ts v) := by
  have : (v - 1).toNat < ts.length := by omega
  rw [lvl, List.getD_eq_getElem?_getD, List.getElem?_eq_getElem this]
  rfl
theorem lvl_mem {ts : List Int} {v : Int} (h1 : 1 ≤ v) (h2 : v ≤ ts.length) : lvl ts v ∈ ts := List.mem_of_getElem? (lvl_get h1 h2)
theorem TW.lvl {n c : Int} {ts : List Int} (h : TW n c ts) {v : Int} (h1 : 1 ≤ v) (h2 : v < 2 * n) : 0 ≤ lvl ts v ∧ lvl ts v ≤ c := h.ent _ (lvl_mem h1 (by have := h.len; omega))
theorem put_length {ts : List Int} {w : Wr} : (put ts w).length = ts.length := by rw [put, List.length_set]
theorem TW.put {n c : Int} {ts : List Int} {w : Wr} (h : TW n c ts) (hw : 0 ≤ w.2 ∧ w.2 ≤ c) : TW n c (put ts w) :=
  ⟨h.n5, by rw [put_length]; exact h.len, h.c1, h.c8, fun x hx => by
    rcases List.mem_or_eq_of_mem_set hx with z | z
    · exact h.ent x z
    · rw [z]; exact hw⟩
theorem TW.puts {n c : Int} : ∀ {ws : List Wr} {ts : List Int}, TW n c ts → (∀ w ∈ ws, WOk n c w) → TW n c (puts ts ws)
  | [], _, h, _ => h
  | w :: ws, ts, h, hw => TW.puts (ws := ws) (h.put (hw w (List.mem_cons_self ..)).2.2) fun u hu => hw u (List.mem_cons_of_mem _ hu)
theorem atI_int {ts : List Int} {v : Int} (h1 : 1 ≤ v) (h2 : v ≤ ts.length) : atI (iV ts) (v - 1) = some (.int (lvl ts v)) := by
  have e : (v - 1) = ((v - 1).toNat : Int) := by omega
  rw [e]
  refine atI_nat ?_
  rw [List.getElem?_map, lvl_get h1 h2] <;> rfl


end
/-! part P04 -/
section
/-! ### comprehensions: one rule over any walk -/
def off (H : Hp) (D : Addr) : Hp := fun b => if b = D then none else H b
theorem off_same {H : Hp} {D : Addr} : Same (off H D) H := fun b o e => by
  unfold off at e
  by_cases h : b = D
  · rw [if_pos h] at e; cases e
  · rw [if_neg h] at e; exact e
theorem off_ne {H : Hp} {D b : Addr} (h : b ≠ D) : off H D b = H b := by unfold off; rw [if_neg h]
theorem off_self {H : Hp} {D : Addr} : off H D D = none := by unfold off; rw [if_pos rfl]
theorem off_mono {H H' : Hp} {D : Addr} (e : Same H H') : Same (off H D) (off H' D) := fun b o q => by
  unfold off at *
  by_cases h : b = D
  · rw [if_pos h] at q; cases q
  · rw [if_neg h] at *; exact e b o q
theorem off_upd {H : Hp} {D : Addr} {o : HO} : off (upd H D o) D = off H D := by
  funext b
  unfold off upd
  by_cases h : b = D
  · rw [if_pos h, if_pos h]
  · rw [if_neg h, if_neg h, if_neg h]
theorem off_none {H : Hp} {D : Addr} (h : H D = none) : off H D = H := by
  funext b
  unfold off
  by_cases e : b = D
  · rw [if_pos e, e, h]
  · rw [if_neg e]
theorem same_off {H1 H : Hp} {D : Addr} (e : Same H1 H) (h : H1 D = none) : Same H1 (off H D) := fun b o q => by
  rw [off_ne (ne_of_none q h)]
  exact e b o q
structure Wk (J : It) (H1 : Hp) (n : Nat) (Y : Nat → V → Hp → Prop) : Prop where
  step : ∀ i H, i < n → Same H1 H → J.go i H ∧ ∀ x H', J.yld i H x H' → Same H H' ∧ Y i x H'
  stop : ∀ H, Same H1 H → J.stop n H
section
variable {K : PySem.W.Frag} {H1 : Hp} {a b : Addr} {xs ys : List V}
theorem Wk.list (h : SqL K H1 a xs) : Wk (Itl K a) H1 xs.length fun i x _ => xs[i]? = some x := by
  refine ⟨fun i H hi e => ⟨⟨xs, xs[i], e.sqL h, List.getElem?_eq_getElem hi⟩, fun x H' y => ?_⟩, fun H e => ⟨xs, e.sqL h, Nat.le_refl _⟩⟩
  obtain ⟨rfl, y⟩ := y
  exact ⟨Same.refl _, y xs (e.sqL h)⟩
theorem Wk.tup (h : SqT K H1 a xs) : Wk (Itt K a) H1 xs.length fun i x _ => xs[i]? = some x := by
  refine ⟨fun i H hi e => ⟨⟨xs, xs[i], e.sqT h, List.getElem?_eq_getElem hi⟩, fun x H' y => ?_⟩, fun H e => ⟨xs, e.sqT h, Nat.le_refl _⟩⟩
  obtain ⟨rfl, y⟩ := y
  exact ⟨Same.refl _, y xs (e.sqT h)⟩
theorem Wk.rng {lo : Int} {n : Nat} : Wk (Itr lo n) H1 n fun i x _ => x = .int (lo + i) := by
  refine ⟨fun i H hi e => ⟨hi, fun x H' y => ?_⟩, fun H e => Nat.le_refl _⟩
  obtain ⟨rfl, y⟩ := y
  exact ⟨Same.refl _, y⟩
theorem Wk.enum (h : SqL K H1 a xs) : Wk (Ite K a) H1 xs.length fun i v H => ∃ T x, v = .ref T ∧ H T = some (.tup [.int (i : Nat), x]) ∧ xs[i]? = some x := by
  refine ⟨fun i H hi e => ⟨⟨xs, xs[i], e.sqL h, List.getElem?_eq_getElem hi⟩, fun x H' y => ?_⟩, fun H e => ⟨xs, e.sqL h, Nat.le_refl _⟩⟩
  obtain ⟨T, z, rfl, hn, rfl, y⟩ := y
  exact ⟨same_up hn, T, z, rfl, upd_same, y xs (e.sqL h)⟩
theorem Wk.zip (h : SqL K H1 a xs) (h' : SqL K H1 b ys) (hl : xs.length = ys.length) : Wk (Itz K a b) H1 xs.length fun i v H => ∃ T x y, v = .ref T ∧ H T = some (.tup [x, y]) ∧ xs[i]? = some x ∧ ys[i]? = some y := by
  refine ⟨fun i H hi e => ⟨⟨xs, ys, xs[i], ys[i], e.sqL h, e.sqL h', List.getElem?_eq_getElem hi, List.getElem?_eq_getElem (by omega)⟩, fun x H' y => ?_⟩, fun H e => ⟨xs, ys, e.sqL h, e.sqL h', .inl (Nat.le_refl _)⟩⟩
  obtain ⟨T, z1, z2, rfl, hn, rfl, y1, y2⟩ := y
  exact ⟨same_up hn, T, z1, z2, rfl, upd_same, y1 xs (e.sqL h), y2 ys (e.sqL h')⟩
end
section
variable {J : It} {H1 : Hp} {n : Nat} {Y : Nat → V → Hp → Prop} {g : TG} {tt : TT} {te : TE} {vs : List Nat} {σ : L2.St} {D : Addr} {Qd : Hp → Prop}
abbrev LcGoal (J : It) (H1 : Hp) (g : TG) (tt : TT) (te : TE) (vs : List Nat) (σ : L2.St) (D : Addr) (Qd : Hp → Prop) : Prop := ∃ W : Nat → Nat → Hp → Prop, (∃ m, W 0 m (upd H1 D (.lst []))) ∧ ∀ i m H, W i m H →
  (J.stop i H ∧ Qd H) ∨ (J.go i H ∧ ∃ Nx : Hp → Prop, (∀ H', Nx H' → ∃ m', m' < m ∧ W (i + 1) m' H') ∧ ∀ x H', J.yld i H x H' → g x (wipe σ vs) H' fun σ2 H2 => wipe σ2 vs = wipe σ vs ∧ tt σ2 H2 fun b H3 =>
    if b = true then te σ2 H3 fun y H4 => ∃ acc, H4 D = some (.lst acc) ∧ acc.length < sizeLine ∧ Nx (upd H4 D (.lst (acc ++ [y]))) else Nx H3)
theorem lcW (hD : H1 D = none) (w : Wk J H1 n Y) (hz : n < sizeLine) (R : Nat → List V → Hp → Prop) (h0 : R 0 [] H1) (hR : ∀ i acc H H', Same H H' → R i acc H → R i acc H')
    (hs : ∀ i x H acc, i < n → Same H1 H → H D = some (.lst acc) → acc.length ≤ i → Y i x H → R i acc (off H D) → ∀ (Nt : V → Hp → Prop) (Nf : Hp → Prop), (∀ y H4, Same H H4 → R (i + 1) (acc ++ [y]) (off H4 D) → Nt y H4) → (∀ H3, Same H H3 → R (i + 1) acc (off H3 D) → Nf H3) →
      g x (wipe σ vs) H fun σ2 H2 => wipe σ2 vs = wipe σ vs ∧ tt σ2 H2 fun b H3 => if b = true then te σ2 H3 Nt else Nf H3)
    (hd : ∀ H acc, Same H1 H → H D = some (.lst acc) → R n acc (off H D) → Qd H) : LcGoal J H1 g tt te vs σ D Qd := by
  refine ⟨fun i m H => m = n - i ∧ i ≤ n ∧ Same H1 H ∧ ∃ acc, H D = some (.lst acc) ∧ acc.length ≤ i ∧ R i acc (off H D), ⟨n, by simp, Nat.zero_le _, same_up hD, [], upd_same, Nat.le_refl _, ?_⟩, ?_⟩
  · rw [off_upd, off_none hD]
    exact h0
  · rintro i m H ⟨rfl, hi, e, acc, hacc, hl, hr⟩
    by_cases hlt : i < n
    · obtain ⟨w1, w2⟩ := w.step i H hlt e
      refine .inr ⟨w1, fun H' => Same H1 H' ∧ ∃ acc, H' D = some (.lst acc) ∧ acc.length ≤ i + 1 ∧ R (i + 1) acc (off H' D), fun H' ⟨e', q⟩ => ⟨n - (i + 1), by omega, rfl, hlt, e', q⟩, fun x H' y => ?_⟩
      obtain ⟨e1, hy⟩ := w2 x H' y
      refine hs i x H' acc hlt (e.trans e1) (e1 _ _ hacc) hl hy (hR _ _ _ _ (off_mono e1) hr) _ _ (fun y H4 e4 r4 => ?_) (fun H3 e3 r3 => ?_)
      · refine ⟨acc, e4 _ _ (e1 _ _ hacc), by omega, (e.trans (e1.trans e4)).up hD, acc ++ [y], upd_same, by rw [List.length_append] <;> exact Nat.succ_le_succ hl, ?_⟩
        rw [off_upd]
        exact r4
      · exact ⟨e.trans (e1.trans e3), acc, e3 _ _ (e1 _ _ hacc), by omega, r3⟩
    · have e0 : i = n := by omega
      subst e0
      exact .inl ⟨w.stop H e, hd H acc e hacc hr⟩
/-- values told beforehand: those of l that p holds of, by f -/
theorem lcF {α : Type} (hD : H1 D = none) (w : Wk J H1 n Y) (l : List α) (f : α → V) (p : α → Bool) (hn : n = l.length) (hz : n < sizeLine)
    (hs : ∀ i u x H, l[i]? = some u → Same H1 H → Y i x H → ∀ (Nt : V → Hp → Prop) (Nf : Hp → Prop), (∀ H4, Same H H4 → p u = true → Nt (f u) H4) → (∀ H3, Same H H3 → p u = false → Nf H3) →
      g x (wipe σ vs) H fun σ2 H2 => wipe σ2 vs = wipe σ vs ∧ tt σ2 H2 fun b H3 => if b = true then te σ2 H3 Nt else Nf H3)
    (hd : ∀ H, Same H1 H → H D = some (.lst ((l.filter p).map f)) → Qd H) : LcGoal J H1 g tt te vs σ D Qd := by
  refine lcW hD w hz (fun i acc _ => acc = ((l.take i).filter p).map f) rfl (fun _ _ _ _ _ h => h) (fun i x H acc hi e _ _ hy hr Nt Nf ht hf => ?_) (fun H acc e h2 h3 => ?_)
  · have hi' : i < l.length := by omega
    have ht' : l.take (i + 1) = l.take i ++ [l[i]] := List.take_succ_eq_append_getElem hi'
    refine hs i l[i] x H (List.getElem?_eq_getElem hi') e hy Nt Nf (fun H4 e4 hp => ht _ _ e4 ?_) (fun H3 e3 hp => hf _ e3 ?_)
    · rw [ht', List.filter_append, List.map_append, hr, List.filter_cons_of_pos hp] <;> rfl
    · rw [ht', List.filter_append, List.map_append, hr, List.filter_cons_of_neg (by rw [hp] <;> exact Bool.false_ne_true)] <;> simp
  · rw [h3, hn, List.take_length] at h2
    exact hd H e h2
/-- .. all of l -/
theorem lcM {α : Type} (hD : H1 D = none) (w : Wk J H1 n Y) (l : List α) (f : α → V) (hn : n = l.length) (hz : n < sizeLine)
    (hs : ∀ i u x H, l[i]? = some u → Same H1 H → Y i x H → ∀ (Nt : V → Hp → Prop), (∀ H4, Same H H4 → Nt (f u) H4) →
      g x (wipe σ vs) H fun σ2 H2 => wipe σ2 vs = wipe σ vs ∧ te σ2 H2 Nt)
    (hd : ∀ H, Same H1 H → H D = some (.lst (l.map f)) → Qd H) : LcGoal J H1 g tYes te vs σ D Qd :=
  lcF hD w l f (fun _ => true) hn hz (fun i u x H h1 h2 h3 Nt Nf ht _ => hs i u x H h1 h2 h3 Nt fun H4 e => ht H4 e rfl) fun H e h2 => hd H e (by rw [h2, List.filter_eq_self.mpr fun _ _ => rfl])
/-- all of them, what they are told by R -/
theorem lcR (hD : H1 D = none) (w : Wk J H1 n Y) (hz : n < sizeLine) (R : Nat → List V → Hp → Prop) (h0 : R 0 [] H1) (hR : ∀ i acc H H', Same H H' → R i acc H → R i acc H')
    (hs : ∀ i x H acc, i < n → Same H1 H → H D = some (.lst acc) → acc.length ≤ i → Y i x H → R i acc (off H D) → ∀ (Nt : V → Hp → Prop), (∀ y H4, Same H H4 → R (i + 1) (acc ++ [y]) (off H4 D) → Nt y H4) →
      g x (wipe σ vs) H fun σ2 H2 => wipe σ2 vs = wipe σ vs ∧ te σ2 H2 Nt)
    (hd : ∀ H acc, Same H1 H → H D = some (.lst acc) → R n acc (off H D) → Qd H) : LcGoal J H1 g tYes te vs σ D Qd :=
  lcW hD w hz R h0 hR (fun i x H acc h1 h2 h3 h4 h5 h6 Nt Nf ht _ => hs i x H acc h1 h2 h3 h4 h5 h6 Nt ht) hd
end
theorem small_of {n : Nat} (h : n ≤ 200000) : n < sizeLine := Nat.lt_of_le_of_lt h (by decide)
/-- a while loop: m goes down -/
theorem whileS {c : TT} {tb : TS} {D : Ends} {σ : L2.St} {H : Hp} (Pv : Nat → L2.St → Hp → Prop) (m : Nat) (h0 : Pv m σ H)
    (hs : ∀ m σ H, Pv m σ H → ∀ Kn : Bool → Hp → Prop, (∀ H1, (∀ N : L2.St → Hp → Prop, (∀ m' σ' H', m' < m → Pv m' σ' H' → N σ' H') → tb { D with nx := N, ct := N, bk := D.nx } σ H1) → Kn true H1) → (∀ H1, D.nx σ H1 → Kn false H1) → c σ H Kn) : tWhile c tb D σ H := by
  refine ⟨fun m σ H => Pv m σ H, ⟨m, h0⟩, fun m σ H p => hs m σ H p _ (fun H1 k => iteT ?_) (fun H1 q => iteF q)⟩
  exact ⟨fun σ' H' => ∃ m', m' < m ∧ Pv m' σ' H', fun σ' H' q => q, k _ fun m' σ' H' l q => ⟨m', l, q⟩⟩
section
variable {K : PySem.W.Frag} {H : Hp} {a : Addr} {xs : List V}
theorem ty_list (h : SqL K H a xs) : TyX K H (.ref a) (.type "list") := by
  rcases h with (h | ⟨o, h⟩) | ⟨o, its, n, h1, h2, _⟩
  · exact .base (.lst h)
  · exact .base (.frz h)
  · exact .kList h1 h2
theorem ty_tup (h : SqT K H a xs) : TyX K H (.ref a) (.type "tuple") := by
  rcases h with (h | ⟨o, h⟩) | ⟨o, its, n, h1, h2, _⟩
  · exact .base (.tup h)
  · exact .fTuple h
  · exact .kTuple h1 h2
end
theorem le_small {n : Nat} (h : n ≤ 1000) : n ≤ sizeLine := Nat.le_trans h (by decide)
theorem iV_app {a b : List Int} : iV (a ++ b) = iV a ++ iV b := List.map_append ..
theorem iV_rev {a : List Int} : iV a.reverse = (iV a).reverse := List.map_reverse ..
theorem iV_len {a : List Int} : (iV a).length = a.length := List.length_map ..


end
/-! part P05 -/
section
/-! ### the walk: counts, trees -/
section
variable {P : Program} {w : World} {K : PySem.W.Frag} {mg : Str → Option Value} {base : Heap}
def spIsCount : Sp := fun vs H Q _ => ∃ v a b : Int, vs = [.int v, .int a, .int b] ∧ a ≤ v ∧ v ≤ b ∧ Q (.bl true) H
theorem ok_is_count (T : Txt K mg) : C8.Cal P w K mg base 1 "is_count" spIsCount [] := by
  refine mkcal T.f_is_count sc_is_count (fun vs H Q E h => ?_) (fun _ _ _ _ _ _ us hl => match us, hl with | [_, _, _], _ => rfl) (fun f cdv A outer s H vs Q E hr h => ⟨_, (pss_one (ps_ret (pe_and (pe_callB (call_isiK K) (by rfl) T.m_isinstance (by decide +kernel) (pa_cons (pv 0) (pa_cons (pe_bltn (v := .ty "int") (by rfl) T.m_int (by decide +kernel) rfl) pa_nil))) (pe_and (pe_not (pe_callB (call_isiK K) (by rfl) T.m_isinstance (by decide +kernel) (pa_cons (pv 0) (pa_cons (pe_bltn (v := .ty "bool") (by rfl) T.m_bool (by decide +kernel) rfl) pa_nil)))) (pe_one (pe_chain op_le op_le (pv 1) (pv 0) (pv 2))))))), ?_⟩)
  · obtain ⟨v, a, b, rfl, _⟩ := h
    rfl
  · obtain ⟨v, a, b, rfl, h1, h2, q⟩ := h
    refine ⟨_, rfl, _, _, _, _, true, rfl, .ty _, .base (.int _), kit_ty (by decide +kernel), true, rfl, iteT ?_⟩
    refine ⟨_, rfl, _, _, _, _, false, rfl, .ty _, .base (.int _), kit_ty (by decide +kernel), false, rfl, true, rfl, iteT ?_⟩
    refine ⟨_, rfl, _, rfl, _, _, rfl, rfl, _, rfl, ?_⟩
    rw [decide_eq_true h1]
    refine iteT ⟨_, rfl, _, _, rfl, rfl, ?_⟩
    show Q (.bl (decide (v ≤ b))) H
    rw [decide_eq_true h2]
    exact q
theorem five_in {n : Int} (h : n = 2 ∨ n = 4 ∨ n = 8 ∨ n = 16 ∨ n = 32) : inV (.int (2 * n)) ([(2 : Int), 4, 8, 16, 32].map fun x => V.int (2 * x)) = true := by
  rcases h with rfl | rfl | rfl | rfl | rfl <;> decide +kernel
def spAreTold (K : PySem.W.Frag) : Sp := fun vs H Q _ => ∃ a n c ts, vs = [.ref a, .int c] ∧ SeqI K H a ts ∧ TW n c ts ∧ ∀ H', Same H H' → Q (.bl true) H'
theorem ok_are_told (T : Txt K mg) : C8.Cal P w K mg base 3 "are_told" (spAreTold K) [] := by
  refine mkcal T.f_are_told sc_are_told (fun vs H Q E h => ?_) (fun _ _ _ _ _ _ us hl => match us, hl with | [_, _], _ => rfl) (fun f cdv A outer s H vs Q E hr h => ?_)
  · obtain ⟨a, n, c, ts, rfl, _⟩ := h
    rfl
  · obtain ⟨a, n, c, ts, rfl, hq, tw, q⟩ := h
    have hl : ((iV ts).length : Int) + 1 = 2 * n := by rw [List.length_map]; exact tw.len
    have hin : inV (.int (((iV ts).length : Int) + 1)) ([(2 : Int), 4, 8, 16, 32].map fun x => V.int (2 * x)) = true := by rw [hl]; exact five_in tw.n5
    have hlz : (iV ts).length < sizeLine := small_of (by have := tw.npos; omega)
    have hall : ((iV ts).map fun _ => V.bl true) = (ts.map fun _ => true).map V.bl := by rw [List.map_map, List.map_map] <;> rfl
    have hall2 : (ts.map fun _ => true).all id = true := by rw [List.all_map, List.all_eq_true]; exact fun _ _ => rfl
    have hone : ∀ (i : Nat) (v : V), (iV ts)[i]? = some v → ∃ x : Int, v = .int x ∧ 0 ≤ x ∧ x ≤ c := fun i v e => by
      obtain ⟨x, hx, rfl⟩ := List.mem_map.mp (List.mem_of_getElem? e)
      exact ⟨x, rfl, tw.ent x hx⟩
    rcases hq with hq | hq
    · refine ⟨_, (pss_cons (ps_if (PW.pt (pw_or (pt_not (pt_val (pe_callB call_isiT (by rfl) T.m_isinstance (by decide +kernel) (pa_cons (pv 0) (pa_cons (pe_tup (pa_cons (pe_bltn (v := .ty "list") (by rfl) T.m_list (by decide +kernel) rfl) (pa_cons (pe_bltn (v := .ty "tuple") (by rfl) T.m_tuple (by decide +kernel) rfl) pa_nil))) pa_nil))))) (pw_or1 (pt_cmpR (op_notIn_seq) (pe_op op_add (pe_callB (call_lenK K) (by rfl) T.m_len (by decide +kernel) (pa_cons (pv 0) pa_nil)) pe_int) (pe_lc (own := [("pages", 2)]) (by rfl) sc_are_told.nd (pi_tup (pe_glob (v := .ref (He.ga K "PAGES")) rfl T.g_PAGES rfl)) (blkOk_by (own := [("pages", 2)]) (N := n_are_told) (sc := defScope s_are_told) (by decide +kernel)) (fun _ _ _ _ _ => (pg_name (i := 2) sc_are_told.nd rfl (Or.inl rfl))) (fun _ _ _ _ _ => pts_nil) (fun _ _ _ _ _ => (pe_op op_mul pe_int (pv 2)))) (by rfl))))) (pss_one (ps_ret pe_bl)) pss_nil)
      (pss_one (ps_ret (pe_callB (cr_all rfl) (by rfl) T.m_all (by decide +kernel) (pa_cons (pe_lc (own := [("one", 3)]) (by rfl) sc_are_told.nd (pi_listK K (pv 0)) (blkOk_by (own := [("one", 3)]) (N := n_are_told) (sc := defScope s_are_told) (by decide +kernel)) (fun _ _ _ _ _ => (pg_name (i := 3) sc_are_told.nd rfl (Or.inl rfl))) (fun _ _ _ _ _ => pts_nil) (fun _ _ _ _ _ => (C8.pe_c (ok_is_count T) hr (by decide) rfl (pa_cons (pv 3) (pa_cons pe_int (pa_cons (pv 1) pa_nil)))))) pa_nil))))), ?_⟩
      refine ⟨_, rfl, le_small (by decide), fun q1 hq1 => ?_⟩
      have e1 := same_up (o := .tup [.ty "list", .ty "tuple"]) hq1
      refine ⟨_, _, _, _, [_, _], true, rfl, upd_same, .cons (.ty _) (.cons (.ty _) .nil), ty_list (e1.sqL hq), ?_, true, rfl, ?_⟩
      · exact kitAny_cons (b := true) (kit_ty (by decide +kernel)) (fun h => nomatch h) fun _ => rfl
      refine iteF ⟨_, rfl, _, _, rfl, .inl ⟨_, e1.sqL hq, rfl⟩, _, _, rfl, rfl, ?_⟩
      refine ⟨_, rfl, ⟨_, T.q_PAGES _⟩, fun D hD => ?_⟩
      refine lcM hD (Wk.tup (T.q_PAGES _)) [(2 : Int), 4, 8, 16, 32] (fun x => V.int (2 * x)) rfl (by decide) (fun i u x H h1 e h2 Nt ht => ?_) (fun H2 e2 hD => ?_)
      · have : x = .int u := by
          rw [show ([.int 2, .int 4, .int 8, .int 16, .int 32] : List V) = [(2 : Int), 4, 8, 16, 32].map V.int from rfl, List.getElem?_map, h1] at h2
          injection h2 with h2
          exact h2.symm
        subst this
        exact ⟨rfl, _, rfl, _, _, rfl, rfl, .inl ⟨by decide, by decide⟩, ht _ (Same.refl _)⟩
      refine ⟨_, _, rfl, .inl (sqL_at hD), rfl, rfl, ?_⟩
      rw [hin]
      refine ⟨false, rfl, iteF ?_⟩
      have e3 := (e1.trans e2)
      refine ⟨_, rfl, _, rfl, ⟨_, e3.sqL hq⟩, fun D' hD' => ?_⟩
      refine lcM hD' (Wk.list (e3.sqL hq)) (iV ts) (fun _ => V.bl true) rfl hlz (fun i u x H h1 e h2 Nt ht => ?_) (fun H4 e4 hD' => ?_)
      · obtain ⟨y, rfl, y1, y2⟩ := hone i x h2
        exact ⟨rfl, _, rfl, _, rfl, _, _, _, rfl, y1, y2, ht _ (Same.refl _)⟩
      rw [hall] at hD'
      refine ⟨_, _, rfl, sqL_at hD', ?_⟩
      rw [hall2]
      exact q _ (e3.trans e4)
    · refine ⟨_, (pss_cons (ps_if (PW.pt (pw_or (pt_not (pt_val (pe_callB call_isiT (by rfl) T.m_isinstance (by decide +kernel) (pa_cons (pv 0) (pa_cons (pe_tup (pa_cons (pe_bltn (v := .ty "list") (by rfl) T.m_list (by decide +kernel) rfl) (pa_cons (pe_bltn (v := .ty "tuple") (by rfl) T.m_tuple (by decide +kernel) rfl) pa_nil))) pa_nil))))) (pw_or1 (pt_cmpR (op_notIn_seq) (pe_op op_add (pe_callB (call_lenK K) (by rfl) T.m_len (by decide +kernel) (pa_cons (pv 0) pa_nil)) pe_int) (pe_lc (own := [("pages", 2)]) (by rfl) sc_are_told.nd (pi_tup (pe_glob (v := .ref (He.ga K "PAGES")) rfl T.g_PAGES rfl)) (blkOk_by (own := [("pages", 2)]) (N := n_are_told) (sc := defScope s_are_told) (by decide +kernel)) (fun _ _ _ _ _ => (pg_name (i := 2) sc_are_told.nd rfl (Or.inl rfl))) (fun _ _ _ _ _ => pts_nil) (fun _ _ _ _ _ => (pe_op op_mul pe_int (pv 2)))) (by rfl))))) (pss_one (ps_ret pe_bl)) pss_nil)
      (pss_one (ps_ret (pe_callB (cr_all rfl) (by rfl) T.m_all (by decide +kernel) (pa_cons (pe_lc (own := [("one", 3)]) (by rfl) sc_are_told.nd (pi_tup (pv 0)) (blkOk_by (own := [("one", 3)]) (N := n_are_told) (sc := defScope s_are_told) (by decide +kernel)) (fun _ _ _ _ _ => (pg_name (i := 3) sc_are_told.nd rfl (Or.inl rfl))) (fun _ _ _ _ _ => pts_nil) (fun _ _ _ _ _ => (C8.pe_c (ok_is_count T) hr (by decide) rfl (pa_cons (pv 3) (pa_cons pe_int (pa_cons (pv 1) pa_nil)))))) pa_nil))))), ?_⟩
      refine ⟨_, rfl, le_small (by decide), fun q1 hq1 => ?_⟩
      have e1 := same_up (o := .tup [.ty "list", .ty "tuple"]) hq1
      refine ⟨_, _, _, _, [_, _], true, rfl, upd_same, .cons (.ty _) (.cons (.ty _) .nil), ty_tup (e1.sqT hq), ?_, true, rfl, ?_⟩
      · exact kitAny_cons (b := false) (kit_ty (by decide +kernel)) (fun _ => kitAny_cons (b := true) (kit_ty (by decide +kernel)) (fun h => nomatch h) fun _ => rfl) fun _ => rfl
      refine iteF ⟨_, rfl, _, _, rfl, .inr ⟨_, e1.sqT hq, rfl⟩, _, _, rfl, rfl, ?_⟩
      refine ⟨_, rfl, ⟨_, T.q_PAGES _⟩, fun D hD => ?_⟩
      refine lcM hD (Wk.tup (T.q_PAGES _)) [(2 : Int), 4, 8, 16, 32] (fun x => V.int (2 * x)) rfl (by decide) (fun i u x H h1 e h2 Nt ht => ?_) (fun H2 e2 hD => ?_)
      · have : x = .int u := by
          rw [show ([.int 2, .int 4, .int 8, .int 16, .int 32] : List V) = [(2 : Int), 4, 8, 16, 32].map V.int from rfl, List.getElem?_map, h1] at h2
          injection h2 with h2
          exact h2.symm
        subst this
        exact ⟨rfl, _, rfl, _, _, rfl, rfl, .inl ⟨by decide, by decide⟩, ht _ (Same.refl _)⟩
      refine ⟨_, _, rfl, .inl (sqL_at hD), rfl, rfl, ?_⟩
      rw [hin]
      refine ⟨false, rfl, iteF ?_⟩
      have e3 := (e1.trans e2)
      refine ⟨_, rfl, _, rfl, ⟨_, e3.sqT hq⟩, fun D' hD' => ?_⟩
      refine lcM hD' (Wk.tup (e3.sqT hq)) (iV ts) (fun _ => V.bl true) rfl hlz (fun i u x H h1 e h2 Nt ht => ?_) (fun H4 e4 hD' => ?_)
      · obtain ⟨y, rfl, y1, y2⟩ := hone i x h2
        exact ⟨rfl, _, rfl, _, rfl, _, _, _, rfl, y1, y2, ht _ (Same.refl _)⟩
      rw [hall] at hD'
      refine ⟨_, _, rfl, sqL_at hD', ?_⟩
      rw [hall2]
      exact q _ (e3.trans e4)
theorem iteD {c : Prop} [Decidable c] {A B : Prop} (h1 : c → A) (h2 : ¬ c → B) : if decide c = true then A else B := by
  by_cases h : c
  · rw [decide_eq_true h]; exact iteT (h1 h)
  · rw [decide_eq_false h]; exact iteF (h2 h)
def spTold (K : PySem.W.Frag) : Sp := fun vs H Q _ => ∃ a n c ts, vs = [.ref a] ∧ TreeAt K H a n c ts ∧ ∀ l, H l = none → Q (.ref l) (upd H l (.lst (iV ts)))
theorem ok_Tree_told (T : Txt K mg) : Prp P w K mg base 1 (cT K) "told" (spTold K) := by
  refine mkprp T.i_Tree.cl T.f_Tree_told sc_Tree_told (fun vs H Q E h => ?_) (fun _ _ _ _ _ _ us hl => match us, hl with | [_], _ => rfl) (fun f cdv A outer s H vs Q E hr h => ?_)
  · obtain ⟨a, n, c, ts, rfl, ⟨dx, t, l, ha, hf⟩, q⟩ := h
    rfl
  obtain ⟨a, n, c, ts, rfl, ⟨dx, t, l, ha, hf⟩, q⟩ := h
  refine ⟨_, (pss_one (ps_ret (pe_callTy call_list_of (by rfl) T.m_list (by decide +kernel) (pa_cons (pe_fldK K (pv 0) (by rfl)) pa_nil)))), ?_⟩
  exact ⟨_, rfl, _, _, _, _, _, rfl, ha, T.i_Tree.cl, T.na_Tree_told_row, rfl, _, _, rfl, .inr hf.told, q⟩
def spLenT (K : PySem.W.Frag) : Sp := fun vs H Q _ => ∃ a n c ts, vs = [.ref a] ∧ TreeAt K H a n c ts ∧ Q (.int n) H
theorem ok_Tree_len (T : Txt K mg) : C8.Met P w K mg base 1 (cT K) "__len__" (spLenT K) [] := by
  refine mkmet T.i_Tree.cl T.f_Tree_len sc_Tree_len (fun vs H Q E h => ?_) (fun _ _ _ _ _ _ us hl => match us, hl with | [_], _ => rfl) (fun f cdv A outer s H vs Q E hr h => ?_)
  · obtain ⟨a, n, c, ts, rfl, ⟨dx, t, l, ha, hf⟩, q⟩ := h
    rfl
  obtain ⟨a, n, c, ts, rfl, ⟨dx, t, l, ha, hf⟩, q⟩ := h
  refine ⟨_, (pss_one (ps_ret (pe_callB (call_lenK K) (by rfl) T.m_len (by decide +kernel) (pa_cons (pe_fldK K (pv 0) (by rfl)) pa_nil)))), ?_⟩
  obtain ⟨xs, h1, h2⟩ := hf.leaves
  subst h2
  exact ⟨_, rfl, _, _, _, _, _, rfl, ha, T.i_Tree.cl, T.na_Tree_leaves, rfl, _, _, rfl, .inr ⟨_, h1, rfl⟩, q⟩
def spGet (K : PySem.W.Frag) : Sp := fun vs H Q _ => ∃ a v n c ts, vs = [.ref a, .int v] ∧ TreeAt K H a n c ts ∧ 1 ≤ v ∧ v < 2 * n ∧ Q (.int (lvl ts v)) H
theorem ok_Tree_getitem (T : Txt K mg) : C8.Met P w K mg base 2 (cT K) "__getitem__" (spGet K) [] := by
  refine mkmet T.i_Tree.cl T.f_Tree_getitem sc_Tree_getitem (fun vs H Q E h => ?_) (fun _ _ _ _ _ _ us hl => match us, hl with | [_, _], _ => rfl) (fun f cdv A outer s H vs Q E hr h => ?_)
  · obtain ⟨a, v, n, c, ts, rfl, ⟨dx, t, l, ha, hf⟩, v1, v2, q⟩ := h
    rfl
  obtain ⟨a, v, n, c, ts, rfl, ⟨dx, t, l, ha, hf⟩, v1, v2, q⟩ := h
  have hl := hf.tw.len
  refine ⟨_, (pss_cons (ps_if (pt_not (pt_val (C8.pe_c (ok_is_count T) hr (by decide) rfl (pa_cons (pv 1) (pa_cons pe_int (pa_cons (pe_op op_sub (pe_op op_mul pe_int (pe_fldK K (pv 0) (by rfl))) pe_int) pa_nil)))))) (pss_one ps_never) pss_nil)
      (pss_one (ps_ret (pe_ix (ix_tupK K) (pe_fldK K (pv 0) (by rfl)) (pe_op op_sub (pv 1) pe_int) (fun _ _ => rfl))))), ?_⟩
  refine ⟨_, rfl, _, rfl, _, _, _, _, _, rfl, ha, T.i_Tree.cl, T.na_Tree_pages, rfl, _, _, rfl, rfl, .inl ⟨by decide, by decide⟩, _, _, rfl, rfl, _, _, _, rfl, v1, by omega, true, rfl, iteF ?_⟩
  exact ⟨_, rfl, _, _, _, _, _, rfl, ha, T.i_Tree.cl, T.na_Tree_told_row, rfl, _, rfl, _, _, rfl, rfl, _, _, _, _, rfl, rfl, hf.told, atI_int v1 (by omega), q⟩
def spLeaf (K : PySem.W.Frag) : Sp := fun vs H Q _ => ∃ a p n c ts, vs = [.ref a, .int p] ∧ TreeAt K H a n c ts ∧ 0 ≤ p ∧ p < n ∧ Q (.int (n + p)) H
theorem ok_Tree_leaf (T : Txt K mg) : C8.Met P w K mg base 2 (cT K) "leaf" (spLeaf K) [] := by
  refine mkmet T.i_Tree.cl T.f_Tree_leaf sc_Tree_leaf (fun vs H Q E h => ?_) (fun _ _ _ _ _ _ us hl => match us, hl with | [_, _], _ => rfl) (fun f cdv A outer s H vs Q E hr h => ?_)
  · obtain ⟨a, p, n, c, ts, rfl, ⟨dx, t, l, ha, hf⟩, v1, v2, q⟩ := h
    rfl
  obtain ⟨a, p, n, c, ts, rfl, ⟨dx, t, l, ha, hf⟩, v1, v2, q⟩ := h
  refine ⟨_, (pss_cons (ps_if (pt_not (pt_val (C8.pe_c (ok_is_count T) hr (by decide) rfl (pa_cons (pv 1) (pa_cons pe_int (pa_cons (pe_op op_sub (pe_fldK K (pv 0) (by rfl)) pe_int) pa_nil)))))) (pss_one ps_never) pss_nil)
      (pss_one (ps_ret (pe_op op_add (pe_fldK K (pv 0) (by rfl)) (pv 1))))), ?_⟩
  refine ⟨_, rfl, _, rfl, _, _, _, _, _, rfl, ha, T.i_Tree.cl, T.na_Tree_pages, rfl, _, _, rfl, rfl, _, _, _, rfl, v1, by omega, true, rfl, iteF ?_⟩
  exact ⟨_, rfl, _, _, _, _, _, rfl, ha, T.i_Tree.cl, T.na_Tree_pages, rfl, _, rfl, _, _, rfl, rfl, q⟩
def spWay (K : PySem.W.Frag) : Sp := fun vs H Q _ => ∃ a p n c ts, vs = [.ref a, .int p] ∧ TreeAt K H a n c ts ∧ 0 ≤ p ∧ p < n ∧ ∀ l H', Same H H' → H l = none → H' l = some (.lst (iV (way n p))) → Q (.ref l) H'
theorem ok_Tree_way (T : Txt K mg) : C8.Met P w K mg base 3 (cT K) "way" (spWay K) [] := by
  refine mkmet T.i_Tree.cl T.f_Tree_way sc_Tree_way (fun vs H Q E h => ?_) (fun _ _ _ _ _ _ us hl => match us, hl with | [_, _], _ => rfl) (fun f cdv A outer s H vs Q E hr h => ?_)
  · obtain ⟨a, p, n, c, ts, rfl, hT, v1, v2, q⟩ := h
    rfl
  obtain ⟨a, p, n, c, ts, rfl, hT, v1, v2, q⟩ := h
  have hn := hT.elim fun _ ⟨_, _, _, hf⟩ => hf.tw.npos
  refine ⟨_, (pss_cons (ps_set (i := 2) sc_Tree_way.nd rfl (Or.inl rfl) (pe_lst (pa_cons (C8.pe_mt (ok_Tree_leaf T) hr (by decide) (pv 0) (pa_cons (pv 1) pa_nil)) pa_nil)))
      (pss_cons (ps_while PassesOwn.never (pt_cmpR (op_gt) (pe_ix (ix_listK K) (pv 2) (pe_un un_neg pe_int) (fun _ _ => rfl)) pe_int (nomark _)) (pss_one (ps_expr (pe_bm PySem.F.plainAttrs_list PySem.F.slot_list_append PySem.F.type_list_append mt_append (pv 2) (pa_cons (pe_op op_fdiv (pe_ix (ix_listK K) (pv 2) (pe_un un_neg pe_int) (fun _ _ => rfl)) pe_int) pa_nil)))))
      (pss_one (ps_ret (pe_revL (pv 2)))))), ?_⟩
  obtain ⟨dx, t, l, ha, hf⟩ := hT
  refine ⟨_, rfl, _, _, _, rfl, ha, rfl, _, rfl, _, _, _, _, _, rfl, ⟨dx, t, l, ha, hf⟩, v1, v2, le_small (Nat.le_of_ble_eq_true rfl), fun d hd => ?_⟩
  refine whileS (fun m σ H' => σ = [some (.ref a), some (.int p), some (.ref d)] ∧ ∃ pre v, 1 ≤ v ∧ m = v.toNat ∧ v ≤ 63 ∧ (pre.length : Int) + v ≤ 64 ∧ H' d = some (.lst (iV (pre ++ [v]))) ∧ pre ++ up v = up (n + p) ∧ Same H H') (n + p).toNat ?_ ?_
  · exact ⟨rfl, [], n + p, by omega, rfl, by omega, by simp; omega, upd_same, rfl, same_up hd⟩
  · rintro m σ H1 ⟨rfl, pre, v, h1, rfl, h63, hlen, h2, h3, h4⟩ Kn kt kf
    have hlast : atI (iV (pre ++ [v])) (-1) = some (.int v) := by
      rw [iV_app]
      exact atI_last _ _
    refine ⟨_, rfl, _, rfl, _, _, _, _, rfl, rfl, sqL_at h2, hlast, _, _, rfl, rfl, _, rfl, ?_⟩
    by_cases hv : 1 < v
    · rw [decide_eq_true hv]
      refine kt _ fun N hN => ?_
      refine ⟨_, rfl, .inl ⟨rfl, _, sqL_at h2⟩, _, rfl, _, rfl, _, _, _, _, rfl, rfl, sqL_at h2, hlast, _, _, rfl, rfl, ⟨by decide, by decide⟩, _, _, _, rfl, rfl, h2, ?_, ?_⟩
      · rw [iV_len, List.length_append]
        exact small_of (by simp; omega)
      · refine hN (v / 2).toNat _ _ (by omega) ⟨rfl, pre ++ [v], v / 2, by omega, rfl, by omega, by simp; omega, ?_, ?_, h4.up hd⟩
        · rw [upd_same, iV_app (b := [v / 2])] <;> rfl
        · rw [← h3, up_pos h1, List.append_assoc] <;> rfl
    · rw [decide_eq_false hv]
      have e1 : v = 1 := by omega
      subst e1
      refine kf _ ⟨_, rfl, _, _, rfl, sqL_at h2, fun l hl => ?_⟩
      refine q l _ (h4.up (h4.free hl)) (h4.free hl) ?_
      rw [upd_same, way, ← h3, up_pos (by decide), up_neg (by decide), iV_rev] <;> rfl
def spGreater (K : PySem.W.Frag) : Sp := fun vs H Q _ => ∃ a v n c ts, vs = [.ref a, .int v] ∧ TreeAt K H a n c ts ∧ 1 ≤ v ∧ v < n ∧ Q (.int (gr ts v)) H
theorem ok_Tree_greater (T : Txt K mg) : C8.Met P w K mg base 2 (cT K) "greater" (spGreater K) [] := by
  refine mkmet T.i_Tree.cl T.f_Tree_greater sc_Tree_greater (fun vs H Q E h => ?_) (fun _ _ _ _ _ _ us hl => match us, hl with | [_, _], _ => rfl) (fun f cdv A outer s H vs Q E hr h => ?_)
  · obtain ⟨a, v, n, c, ts, rfl, ⟨dx, t, l, ha, hf⟩, v1, v2, q⟩ := h
    rfl
  obtain ⟨a, v, n, c, ts, rfl, ⟨dx, t, l, ha, hf⟩, v1, v2, q⟩ := h
  have hl := hf.tw.len
  refine ⟨_, (pss_cons (ps_if (pt_not (pt_val (C8.pe_c (ok_is_count T) hr (by decide) rfl (pa_cons (pv 1) (pa_cons pe_int (pa_cons (pe_op op_sub (pe_fldK K (pv 0) (by rfl)) pe_int) pa_nil)))))) (pss_one ps_never) pss_nil)
      (pss_one (ps_ret (pe_callB (call_max2 rfl) (by rfl) T.m_max (by decide +kernel) (pa_cons (pe_callTy call_int1 (by rfl) T.m_int (by decide +kernel) (pa_cons (pe_ix (ix_tupK K) (pe_fldK K (pv 0) (by rfl)) (pe_op op_sub (pe_op op_mul pe_int (pv 1)) pe_int) (fun _ _ => rfl)) pa_nil)) (pa_cons (pe_callTy call_int1 (by rfl) T.m_int (by decide +kernel) (pa_cons (pe_ix (ix_tupK K) (pe_fldK K (pv 0) (by rfl)) (pe_op op_mul pe_int (pv 1)) (fun _ _ => rfl)) pa_nil)) pa_nil)))))), ?_⟩
  refine ⟨_, rfl, _, rfl, _, _, _, _, _, rfl, ha, T.i_Tree.cl, T.na_Tree_pages, rfl, _, _, rfl, rfl, _, _, _, rfl, v1, by omega, true, rfl, iteF ?_⟩
  have e2 : atI (iV ts) (2 * v) = some (.int (lvl ts (2 * v + 1))) := by
    have := atI_int (ts := ts) (v := 2 * v + 1) (by omega) (by omega)
    rwa [show 2 * v + 1 - 1 = 2 * v by omega] at this
  refine ⟨_, rfl, _, _, _, _, _, rfl, ha, T.i_Tree.cl, T.na_Tree_told_row, rfl, _, rfl, _, _, rfl, rfl, .inl ⟨by decide, by decide⟩, _, _, rfl, rfl, _, _, _, _, rfl, rfl, hf.told, atI_int (by omega) (by omega), .inl ⟨_, rfl, ?_⟩⟩
  exact ⟨_, rfl, _, _, _, _, _, rfl, ha, T.i_Tree.cl, T.na_Tree_told_row, rfl, _, rfl, _, _, rfl, rfl, .inl ⟨by decide, by decide⟩, _, _, _, _, rfl, rfl, hf.told, e2, .inl ⟨_, rfl, _, _, rfl, q⟩⟩
end


end
/-! part P06 -/
section
/-! ### list(range(a, b, c)) -/
def tLstRg3 (ta : TA) : TE := fun σ H Q => ta σ H fun vs H1 => ∃ (i j c : Int) (n : Nat), vs = [.int i, .int j, .int c] ∧ RgC i j c n ∧ n ≤ 2 ^ 24 ∧ ∀ q, H1 q = none → Q (.ref q) (upd H1 q (.lst ((List.range n).map fun (k : Nat) => V.int (i + k * c))))
section
variable {X : Cx}
theorem pe_listRg3 {a b c : Expr} {ta : TA} {p1 p2 pos1 pos : Pos} (hc : X.calm = true) (hg : Gl X "list") (hm : X.mg "list" = none) (hg2 : Gl X "range") (hm2 : X.mg "range" = none) (ha : PA X [a, b, c] ta)
    (hs : starEach [a, b, c] X.env = (false, eval a X.env) :: starEach [b, c] X.env := by rfl) (hpl : (backTo pos1 (starEach [b, c] X.env)).any (·.1) = false := by rfl)
    (na : starEach [.Call (.Name "range" p2) [a, b, c] [] pos1] X.env = (false, eval (.Call (.Name "range" p2) [a, b, c] [] pos1) X.env) :: starEach [] X.env := by rfl) :
    PE X (.Call (.Name "list" p1) [.Call (.Name "range" p2) [a, b, c] [] pos1] [] pos) (tLstRg3 ta) := by
  refine ⟨fun pins s σ H Q I h => ?_⟩
  refine Call_ (ld_blt I hg hm boot_list (PyProof.Rows.callWith_type1 (args_cons ?_ na) na))
  refine Call_ (ld_blt I hg2 hm2 boot_range (PyProof.Rows.callWith_type1 (thn (ha.run pos1 pins s σ H _ I h) fun us s1 ⟨vs, H1, I1, r1, q1⟩ => ?_) hs hpl))
  obtain ⟨i, j, k, n, e, ⟨c0, c1, c2, c3⟩, hz, q⟩ := q1
  subst e
  cases r1 with
  | cons r rr =>
    cases rr with
    | cons r' rr =>
      cases rr with
      | cons r'' rr =>
        cases rr
        obtain ⟨t, rfl⟩ := r
        obtain ⟨t', rfl⟩ := r'
        obtain ⟨t'', rfl⟩ := r''
        refine call_range_3 c0 ?_ (.inl (PyProof.noPylong_small c1))
        have I2 : Inv X pins σ H1 { s1 with heap := s1.heap.push { cls := .type "range", data := .fields #[.int i t, .int j t', .int k t''] } } := I1.kept (t' := s1.toks) fun b o e => Heap.get?_push_of_some _ e
        refine args_nil ?_
        refine call_list_range (n := n) (I2.ok.hd hc) (IsRange.new ..) c2 c3 hz fun h' tk acc c' hk e' hi => ?_
        refine ⟨.ref _, _, I2.laid hk (Nat.le_refl _) (show ObjOk X.prog X.w _ _ _ (.lst ((List.range n).map fun (m : Nat) => V.int (i + m * k))) from ⟨?_, acc.toList, c', ?_, ?_⟩), rfl, q _ (I2.hok.fresh (Nat.le_refl _))⟩
        · rw [List.length_map, List.length_range, sizeLine_eq]
          omega
        · have e : acc.toList.length = n := by rw [Array.length_toList]; exact hi.1
          rw [← e]
          refine vals_of_get acc.toList _ fun j u hj => ?_
          obtain ⟨t, rfl⟩ := hi.2 j u (by rw [← hj, Array.getElem?_toList])
          exact ⟨t, rfl⟩
        · rw [Array.toArray_toList]
          exact e'
end


end
/-! part P07 -/
section
/-! ### the walk: trees, second part -/
/-- the same but for x -/
def Ex (x : Addr) (H H' : Hp) : Prop := ∀ b o, b ≠ x → H b = some o → H' b = some o
theorem Ex.refl {x : Addr} {H : Hp} : Ex x H H := fun _ _ _ h => h
theorem Ex.same {x : Addr} {H H1 H' : Hp} (e : Ex x H H1) (h : Same H1 H') : Ex x H H' := fun b o hb q => h b o (e b o hb q)
theorem Ex.upx {x : Addr} {H H1 : Hp} {o : HO} (e : Ex x H H1) : Ex x H (upd H1 x o) := fun b u hb q => by
  rw [upd_ne hb]
  exact e b u hb q
theorem Ex.upn {x q : Addr} {H H1 : Hp} {o : HO} (e : Ex x H H1) (h : H1 q = none) : Ex x H (upd H1 q o) := e.same (same_up h)
theorem Ex.trans {x : Addr} {H H1 H2 : Hp} (e : Ex x H H1) (h : Ex x H1 H2) : Ex x H H2 := fun b o hb q => h b o hb (e b o hb q)
section
variable {K : PySem.W.Frag} {x : Addr} {H H' : Hp}
theorem Ex.sqL (e : Ex x H H') {a : Addr} {xs : List V} (hx : ∃ C dx fs, H x = some (.ins C dx fs)) (h : SqL K H a xs) : SqL K H' a xs := by
  obtain ⟨C, dx, fs, hx⟩ := hx
  rcases h with (h | ⟨o, h⟩) | h
  · exact .inl (.inl (e _ _ (ne_of h hx (fun z => nomatch z)) h))
  · exact .inl (.inr ⟨o, e _ _ (ne_of h hx (fun z => nomatch z)) h⟩)
  · exact .inr h
theorem Ex.sqT (e : Ex x H H') {a : Addr} {xs : List V} (hx : ∃ C dx fs, H x = some (.ins C dx fs)) (h : SqT K H a xs) : SqT K H' a xs := by
  obtain ⟨C, dx, fs, hx⟩ := hx
  rcases h with (h | ⟨o, h⟩) | h
  · exact .inl (.inl (e _ _ (ne_of h hx (fun z => nomatch z)) h))
  · exact .inl (.inr ⟨o, e _ _ (ne_of h hx (fun z => nomatch z)) h⟩)
  · exact .inr h
end
section
variable {P : Program} {w : World} {K : PySem.W.Frag} {mg : Str → Option Value} {base : Heap}
abbrev f1 (c : Int) : List (Str × V) := [("classes", .int c)]
abbrev f2 (c : Int) (t : Addr) : List (Str × V) := [("classes", .int c), ("told_row", .ref t)]
abbrev f3 (c n : Int) (t : Addr) : List (Str × V) := [("classes", .int c), ("told_row", .ref t), ("pages", .int n)]
def spTreeInit (K : PySem.W.Frag) : Sp := fun vs H Q _ => ∃ x dx a n c ts, vs = [.ref x, .int c, .ref a] ∧ H x = some (.ins (cT K) dx []) ∧ SeqI K H a ts ∧ TW n c ts ∧ ∀ H', Ex x H H' → TreeAt K H' x n c ts → Q .non H'
theorem ok_Tree_init (T : Txt K mg) : C8.Mak P w K mg base 4 "Tree" (cT K) (spTreeInit K) [] := by
  refine mkmak T.g_Tree T.f_Tree_init sc_Tree_init (fun vs H Q E h => ?_) (fun _ _ _ _ _ _ us hl => match us, hl with | [_, _, _], _ => rfl) (fun f cdv A outer s H vs Q E hr h => ?_)
  · obtain ⟨x, dx, a, n, c, ts, rfl, hx, hq, tw, q⟩ := h
    rfl
  obtain ⟨x, dx, a, n, c, ts, rfl, hx, hq, tw, q⟩ := h
  refine ⟨_, (pss_cons (ps_if (pt_not (pt_val (C8.pe_c (ok_is_count T) hr (by decide) rfl (pa_cons (pv 1) (pa_cons pe_int (pa_cons (C8.pe_gc rfl T.g_MOST_BOUNDS) pa_nil)))))) (pss_one ps_never) pss_nil)
      (pss_cons (ps_if (pt_not (pt_val (C8.pe_c (ok_are_told T) hr (by decide) rfl (pa_cons (pv 2) (pa_cons (pv 1) pa_nil))))) (pss_one ps_never) pss_nil)
      (pss_cons (ps_fld (pv 0) (pv 1) rfl)
      (pss_cons (ps_fld (pv 0) (pe_tupleOf rfl T.m_tuple (pv 2)) rfl)
      (pss_cons (ps_fld (pv 0) (pe_op op_fdiv (pe_op op_add (pe_callB (call_lenK K) (by rfl) T.m_len (by decide +kernel) (pa_cons (pv 2) pa_nil)) pe_int) pe_int) rfl)
      (pss_one (ps_fld (pv 0) (pe_tupRg rfl rfl T.m_tuple (prg_2 rfl T.m_range (pe_fldK K (pv 0) (by rfl)) (pe_op op_mul pe_int (pe_fldK K (pv 0) (by rfl))))) rfl))))))), ?_⟩
  refine ⟨_, rfl, _, _, _, rfl, tw.c1, tw.c8, true, rfl, iteF ?_⟩
  refine ⟨_, rfl, _, rfl, a, n, c, ts, rfl, hq, tw, fun H1 e1 => ⟨true, rfl, iteF ?_⟩⟩
  have hx1 := e1 _ _ hx
  have hq1 := e1.seqI hq
  have en : ((iV ts).length + 1 : Int) / 2 = n := by
    have := tw.len
    rw [iV_len]
    omega
  have fin : ∀ H2 (t : Addr), Ex x H1 H2 → H2 x = some (.ins (cT K) dx (f2 c t)) → SqT K H2 t (iV ts) → SeqI K H2 a ts →
      sFld K (tVar 0) (tOp (rI CDiv fun i j => .int (i / j)) (tOp (rI0 fun i j => .int (i + j)) (tCB (fun xs H Q => ∃ x n, xs = [x] ∧ LenV K x H n ∧ Q (.int n) H) (tCons (tVar 2) tNil)) (tC (.int 1))) (tC (.int 2))) "pages"
        { nx := sFld K (tVar 0) (tTupRg (tRg2 (tFld K (tVar 0) "pages") (tOp (rI CMul fun i j => .int (i * j)) (tC (.int 2)) (tFld K (tVar 0) "pages")))) "leaves" { nx := fun _ H' => Q .non H', rt := Q }, rt := Q } (start n_Tree_init [.ref x, .int c, .ref a]) H2 := by
    intro H2 t e2 hx2 ht hq2
    have lenq : ∃ m : Nat, LenV K (.ref a) H2 m ∧ m = (iV ts).length := by
      rcases hq2 with h | h
      · exact ⟨_, .inl ⟨_, h, rfl⟩, rfl⟩
      · exact ⟨_, .inr ⟨_, h, rfl⟩, rfl⟩
    obtain ⟨m, hm, rfl⟩ := lenq
    refine ⟨_, rfl, _, _, rfl, hm, _, _, rfl, rfl, _, _, rfl, rfl, ⟨by decide, by decide⟩, _, rfl, _, _, _, _, rfl, hx2, T.i_Tree.cl, T.na_Tree_pages, Nat.le_of_ble_eq_true rfl,  ?_⟩
    have hx3 : (upd H2 x (.ins (cT K) dx (f3 c n t))) x = some _ := upd_same
    have e3 : Ex x H1 (upd H2 x (.ins (cT K) dx (f3 c n t))) := e2.upx
    have ht3 : SqT K (upd H2 x (.ins (cT K) dx (f3 c n t))) t (iV ts) := Ex.sqT (x := x) Ex.refl.upx ⟨_, _, _, hx2⟩ ht
    have eo : putF "pages" (.int (((iV ts).length + 1 : Int) / 2)) (f2 c t) = f3 c n t := by rw [en]; rfl
    show sFld K (tVar 0) (tTupRg (tRg2 (tFld K (tVar 0) "pages") (tOp (rI CMul fun i j => .int (i * j)) (tC (.int 2)) (tFld K (tVar 0) "pages")))) "leaves" { nx := fun _ H' => Q .non H', rt := Q } (start n_Tree_init [.ref x, .int c, .ref a])
      (upd H2 x (.ins (cT K) dx (putF "pages" (.int (((iV ts).length + 1 : Int) / 2)) (f2 c t))))
    rw [eo]
    generalize upd H2 x (.ins (cT K) dx (f3 c n t)) = H3 at hx3 e3 ht3 ⊢
    have hn := tw.npos
    refine ⟨_, rfl, _, _, _, _, _, rfl, hx3, T.i_Tree.cl, T.na_Tree_pages, rfl, _, rfl, _, _, _, _, _, rfl, hx3, T.i_Tree.cl, T.na_Tree_pages, rfl, _, _, rfl, rfl, .inl ⟨by decide, by decide⟩, _, _, rfl, rfl, RgOk.of_le (by omega) (by omega) (by omega) (by omega), fun l hl => ?_⟩
    refine ⟨_, rfl, _, _, _, _, rfl, (by rw [upd_ne (ne_of_none hx3 hl)]; exact hx3), T.i_Tree.cl, T.na_Tree_leaves, Nat.le_of_ble_eq_true rfl,  ?_⟩
    refine q _ (fun b o hb h => (e3.upn hl).upx b o hb (e1 b o h)) ⟨dx, t, l, upd_same, ?_, ⟨_, .inl (.inl ((upd_ne (ne_of_none hx3 hl).symm).trans upd_same)), ?_⟩, tw⟩
    · refine Ex.sqT (x := x) (Ex.upx (Ex.refl.upn hl)) ⟨_, _, _, hx3⟩ ht3
    · rw [rgV_length]
      omega
  refine ⟨_, rfl, _, rfl, _, _, _, _, rfl, hx1, T.i_Tree.cl, T.na_Tree_classes, Nat.le_of_ble_eq_true rfl,  ?_⟩
  have hx2 : (upd H1 x (.ins (cT K) dx (f1 c))) x = some _ := upd_same
  have e2 : Ex x H1 (upd H1 x (.ins (cT K) dx (f1 c))) := Ex.refl.upx
  have hq2 : SeqI K (upd H1 x (.ins (cT K) dx (f1 c))) a ts := hq1.imp (e2.sqL ⟨_, _, _, hx1⟩) (e2.sqT ⟨_, _, _, hx1⟩)
  show sFld K (tVar 0) (tThen (tVar 2) (kTup K)) "told_row" _ (start n_Tree_init [.ref x, .int c, .ref a]) (upd H1 x (.ins (cT K) dx (f1 c)))
  generalize upd H1 x (.ins (cT K) dx (f1 c)) = H2 at hx2 e2 hq2 ⊢
  rcases hq2 with h | h
  · refine ⟨_, rfl, .inl ⟨_, _, rfl, h, fun t ht => ?_⟩⟩
    have hxt : (upd H2 t (.tup (iV ts))) x = some _ := (upd_ne (ne_of_none hx2 ht)).trans hx2
    refine ⟨_, rfl, _, _, _, _, rfl, hxt, T.i_Tree.cl, T.na_Tree_told_row, Nat.le_of_ble_eq_true rfl,  ?_⟩
    refine fin _ t (e2.upn ht).upx upd_same (.inl (.inl ((upd_ne (ne_of_none hx2 ht).symm).trans upd_same))) (.inl ?_)
    exact Ex.sqL (x := x) (Ex.upx (Ex.refl.upn ht)) ⟨_, _, _, hx2⟩ h
  · refine ⟨_, rfl, .inr ⟨_, _, rfl, h, ?_⟩⟩
    refine ⟨_, rfl, _, _, _, _, rfl, hx2, T.i_Tree.cl, T.na_Tree_told_row, Nat.le_of_ble_eq_true rfl,  ?_⟩
    exact fin _ a e2.upx upd_same (Ex.sqT (x := x) Ex.refl.upx ⟨_, _, _, hx2⟩ h) (.inr (Ex.sqT (x := x) Ex.refl.upx ⟨_, _, _, hx2⟩ h))
end


end
/-! part P08 -/
section
/-! ### plain: ways -/
theorem up_mem : ∀ (k : Nat) {x v : Int}, x.toNat ≤ k → v ∈ up x → 1 ≤ v ∧ v ≤ x
  | k, x, v, hk, h => by
    by_cases hx : x < 1
    · rw [up_neg hx] at h; cases h
    · rw [up_pos (by omega)] at h
      rcases List.mem_cons.mp h with rfl | h
      · omega
      · cases k with
        | zero => omega
        | succ k =>
          have := up_mem k (x := x / 2) (by omega) h
          omega
theorem way_mem {n p v : Int} (h : v ∈ way n p) : 1 ≤ v ∧ v ≤ n + p := up_mem _ (Nat.le_refl _) (List.mem_reverse.mp h)
theorem up_ge {n : Int} {ts : List Int} (hu : Up n ts) : ∀ (k : Nat) {x v : Int}, x.toNat ≤ k → x < 2 * n → v ∈ up x → lvl ts x ≤ lvl ts v
  | k, x, v, hk, hx, h => by
    by_cases h1 : x < 1
    · rw [up_neg h1] at h; cases h
    · rw [up_pos (by omega)] at h
      rcases List.mem_cons.mp h with rfl | h
      · exact Int.le_refl _
      · cases k with
        | zero => omega
        | succ k =>
          have h2 := up_ge hu k (x := x / 2) (by omega) (by omega) h
          have h3 := up_mem _ (Nat.le_refl _) h
          have h4 := hu x (by omega) hx
          omega
theorem leaf_way {n p : Int} (h : 1 ≤ n + p) : n + p ∈ way n p := by
  rw [way, List.mem_reverse, up_pos h]
  exact List.mem_cons_self ..
theorem way_len (n p : Int) : (way n p).length ≤ (n + p).toNat := by
  have : ∀ (k : Nat) (x : Int), x.toNat ≤ k → (up x).length ≤ x.toNat := by
    intro k
    induction k with
    | zero => intro x h; rw [up_neg (by omega)]; exact Nat.zero_le _
    | succ k ih =>
      intro x h
      by_cases hx : x < 1
      · rw [up_neg hx]; exact Nat.zero_le _
      · rw [up_pos (by omega), List.length_cons]
        have := ih (x / 2) (by omega)
        omega
  rw [way, List.length_reverse]
  exact this _ _ (Nat.le_refl _)
theorem put_split {ts : List Int} {v l : Int} (h1 : 1 ≤ v) (h2 : v ≤ ts.length) : put ts (v, l) = ts.take (v - 1).toNat ++ l :: ts.drop v.toNat := by
  have h : (v - 1).toNat < ts.length := by omega
  have e : v.toNat = (v - 1).toNat + 1 := by omega
  rw [put, List.set_eq_take_append_cons_drop, if_pos h, e]
theorem mend_len : ∀ (k : Nat) (ts : List Int), (mendTo k ts).length = ts.length
  | 0, _ => rfl
  | k + 1, ts => by rw [mendTo, mend_len k, put_length]
theorem gr_bound {n c : Int} {ts : List Int} (h : TW n c ts) {v : Int} (h1 : 1 ≤ v) (h2 : v < n) : 0 ≤ gr ts v ∧ gr ts v ≤ c := by
  have a := h.lvl (v := 2 * v) (by omega) (by omega)
  have b := h.lvl (v := 2 * v + 1) (by omega) (by omega)
  unfold gr
  split <;> omega
/-! ### the walk: trees, third part -/
section
variable {P : Program} {w : World} {K : PySem.W.Frag} {mg : Str → Option Value} {base : Heap}
theorem use_mk {H1 : Hp} {a : Addr} {n c : Int} {ts : List Int} {R : Addr → Hp → Prop} (hq : SeqI K H1 a ts) (tw : TW n c ts) (q : ∀ x H', Same H1 H' → H1 x = none → TreeAt K H' x n c ts → R x H') {E : XK} :
    ∀ x dx, H1 x = none → H1 dx = none → dx ≠ x → spTreeInit K (.ref x :: ([.int c, .ref a] ++ [])) (upd (upd H1 dx (.own x)) x (.ins (cT K) dx [])) (fun v H2 => v = .non ∧ R x H2) E := by
  intro x dx hx hdx hne
  have e : Same H1 (upd (upd H1 dx (.own x)) x (.ins (cT K) dx [])) := (same_up hdx).up hx
  exact ⟨x, dx, a, n, c, ts, rfl, upd_same, e.seqI hq, tw, fun H' e' ht => ⟨rfl, q x H' (fun b o hb => e' b o (ne_of_none hb hx) (e b o hb)) hx ht⟩⟩
def spWithTold (K : PySem.W.Frag) : Sp := fun vs H Q _ => ∃ a v l n c ts, vs = [.ref a, .int v, .int l] ∧ TreeAt K H a n c ts ∧ WOk n c (v, l) ∧ ∀ x H', Same H H' → TreeAt K H' x n c (put ts (v, l)) → Q (.ref x) H'
theorem ok_Tree_with_told (T : Txt K mg) : C8.Met P w K mg base 6 (cT K) "with_told" (spWithTold K) [] := by
  refine mkmet T.i_Tree.cl T.f_Tree_with_told sc_Tree_with_told (fun vs H Q E h => ?_) (fun _ _ _ _ _ _ us hl => match us, hl with | [_, _, _], _ => rfl) (fun f cdv A outer s H vs Q E hr h => ?_)
  · obtain ⟨a, v, l, n, c, ts, rfl, ⟨dx, t, lv, ha, hf⟩, ⟨v1, v2, l1, l2⟩, q⟩ := h
    rfl
  obtain ⟨a, v, l, n, c, ts, rfl, ⟨dx, t, lv, ha, hf⟩, ⟨v1, v2, l1, l2⟩, q⟩ := h
  have hl := hf.tw.len
  have v1' : 1 ≤ v := v1
  have v2' : v < 2 * n := v2
  have hl3 : (iV ts).length = ts.length := iV_len
  refine ⟨_, (pss_cons (ps_if (pt_not (pt_val (C8.pe_c (ok_is_count T) hr (by decide) rfl (pa_cons (pv 1) (pa_cons pe_int (pa_cons (pe_op op_sub (pe_op op_mul pe_int (pe_fldK K (pv 0) (by rfl))) pe_int) pa_nil)))))) (pss_one ps_never) pss_nil)
      (pss_cons (ps_if (pt_not (pt_val (C8.pe_c (ok_is_count T) hr (by decide) rfl (pa_cons (pv 2) (pa_cons pe_int (pa_cons (pe_fldK K (pv 0) (by rfl)) pa_nil)))))) (pss_one ps_never) pss_nil)
      (pss_one (ps_ret (C8.pe_mk (ok_Tree_init T) hr (by decide) rfl (pa_cons (pe_fldK K (pv 0) (by rfl)) (pa_cons (pe_lst (StX.pa_star (pe_slice sl_tupA (pe_fldK K (pv 0) (by rfl)) po_none (po_some (pe_op op_sub (pv 1) pe_int))) (pa_cons (pv 2) (StX.pa_star (pe_slice sl_tupA (pe_fldK K (pv 0) (by rfl)) (po_some (pv 1)) po_none) pa_nil)))) pa_nil))))))), ?_⟩
  refine ⟨_, rfl, _, rfl, _, _, _, _, _, rfl, ha, T.i_Tree.cl, T.na_Tree_pages, rfl, _, _, rfl, rfl, .inl ⟨by decide, by decide⟩, _, _, rfl, rfl, _, _, _, rfl, v1, by omega, true, rfl, iteF ?_⟩
  refine ⟨_, rfl, _, rfl, _, _, _, _, _, rfl, ha, T.i_Tree.cl, T.na_Tree_classes, rfl, _, _, _, rfl, l1, l2, true, rfl, iteF ?_⟩
  refine ⟨_, rfl, _, _, _, _, _, rfl, ha, T.i_Tree.cl, T.na_Tree_classes, rfl, ?_⟩
  refine ⟨_, rfl, _, _, _, _, _, rfl, ha, T.i_Tree.cl, T.na_Tree_told_row, rfl, _, rfl, _, _, rfl, rfl, _, rfl, _, _, rfl, hf.told, fun (h : _ ∧ _) => absurd h.2 ?_, fun _ p hp => ?_⟩
  · have e : (v - 1) = ((v - 1).toNat : Int) := by omega
    rw [e, HT.sIx_nat, hl3]
    omega
  have c1 : cutV (iV ts) none (some (v - 1)) = iV (ts.take (v - 1).toNat) := by
    have e : (v - 1) = ((v - 1).toNat : Int) := by omega
    rw [cutV, e, HT.sIx_nat, HT.sIx_none, hl3, List.drop_zero, ← List.map_take]
    congr 1
    rw [Int.toNat_natCast]
    congr 1
    omega
  have e1 := same_up (o := .tup (cutV (iV ts) none (some (v - 1)))) hp
  have ha1 := e1 _ _ ha
  refine ⟨_, _, rfl, .inl (sqT_at upd_same), _, rfl, _, rfl, _, _, _, _, _, rfl, ha1, T.i_Tree.cl, T.na_Tree_told_row, rfl, _, rfl, _, rfl, _, _, rfl, e1.sqT hf.told, fun (h : _ ∧ _) => absurd h.1 ?_, fun _ p2 hp2 => ?_⟩
  · have e : v = (v.toNat : Int) := by omega
    rw [e, HT.sIx_nat, hl3]
    omega
  have c2 : cutV (iV ts) (some v) none = iV (ts.drop v.toNat) := by
    have e : v = (v.toNat : Int) := by omega
    rw [cutV, e, HT.sIx_nat, HT.sIx_none, hl3, Int.toNat_natCast, Nat.min_eq_left (by omega), ← List.map_drop]
    exact List.take_of_length_le (by rw [List.length_map, List.length_drop]; omega)
  have e2 := e1.trans (same_up (o := .tup (cutV (iV ts) (some v) none)) hp2)
  have e3 : cutV (iV ts) none (some (v - 1)) ++ ([V.int l] ++ (cutV (iV ts) (some v) none ++ [])) = iV (put ts (v, l)) := by
    rw [c1, c2, put_split v1' (by omega), iV_app, List.append_nil] <;> rfl
  have hz : (iV (put ts (v, l))).length ≤ sizeLine := by
    rw [iV_len, put_length]
    exact le_small (by have := hf.tw.npos; omega)
  refine ⟨_, _, rfl, .inl (sqT_at upd_same), ?_⟩
  show (cutV (iV ts) none (some (v - 1)) ++ ([V.int l] ++ (cutV (iV ts) (some v) none ++ []))).length ≤ sizeLine ∧ _
  refine ⟨by rw [e3]; exact hz, fun p3 hp3 => ?_⟩
  have e4 := e2.up (o := .lst (iV (put ts (v, l)))) (e2.free hp3)
  refine use_mk (n := n) (ts := put ts (v, l)) (.inl (sqL_at ?_)) (hf.tw.put ⟨l1, l2⟩) fun x H' e5 hx ht => q x H' (fun b o hb => ?_) ht
  · rw [upd_same]
    exact congrArg (fun z => some (HO.lst z)) e3
  · refine e5 b o ?_
    rw [upd_ne (ne_of_none hb (e2.free hp3))]
    exact e2 b o hb
def spUpright (K : PySem.W.Frag) : Sp := fun vs H Q _ => ∃ a n c ts, vs = [.ref a] ∧ TreeAt K H a n c ts ∧ Up n ts ∧ ∀ H', Same H H' → Q (.bl true) H'
theorem all_true {α : Type} (l : List α) : (l.map fun _ => V.bl true) = (l.map fun _ => true).map V.bl ∧ (l.map fun _ => true).all id = true :=
  ⟨by rw [List.map_map] <;> rfl, by rw [List.all_map, List.all_eq_true]; exact fun _ _ => rfl⟩
theorem range_get {m i u : Nat} (h : (List.range m)[i]? = some u) : u = i ∧ i < m := by
  have h1 := (List.getElem?_eq_some_iff.mp h)
  obtain ⟨h2, h3⟩ := h1
  rw [List.length_range] at h2
  rw [List.getElem_range] at h3
  exact ⟨h3.symm, h2⟩
theorem ok_Tree_is_upright (T : Txt K mg) : Prp P w K mg base 2 (cT K) "is_upright" (spUpright K) := by
  refine mkprp T.i_Tree.cl T.f_Tree_is_upright sc_Tree_is_upright (fun vs H Q E h => ?_) (fun _ _ _ _ _ _ us hl => match us, hl with | [_], _ => rfl) (fun f cdv A outer s H vs Q E hr h => ?_)
  · obtain ⟨a, n, c, ts, rfl, ⟨dx, t, lv, ha, hf⟩, hu, q⟩ := h
    rfl
  obtain ⟨a, n, c, ts, rfl, ⟨dx, t, lv, ha, hf⟩, hu, q⟩ := h
  have hl := hf.tw.len
  have hn := hf.tw.npos
  refine ⟨_, (pss_one (ps_ret (pe_callB (cr_all rfl) (by rfl) T.m_all (by decide +kernel) (pa_cons (pe_lc (own := [("node", 1)]) (by rfl) sc_Tree_is_upright.nd (pi_range2 rfl T.m_range (pa_cons pe_int (pa_cons (pe_op op_mul pe_int (pe_fldK K (pv 0) (by rfl))) pa_nil))) (blkOk_by (own := [("node", 1)]) (N := n_Tree_is_upright) (sc := defScope s_Tree_is_upright) (by decide +kernel)) (fun _ _ _ _ _ => (pg_name (i := 1) sc_Tree_is_upright.nd rfl (Or.inl rfl))) (fun _ _ _ _ _ => pts_nil) (fun _ _ _ _ _ => (pe_cmpR (op_le) (pe_ix (ix_tupK K) (pe_fldK K (pv 0) (by rfl)) (pe_op op_sub (pv 1) pe_int) (fun _ _ => rfl)) (pe_ix (ix_tupK K) (pe_fldK K (pv 0) (by rfl)) (pe_op op_sub (pe_op op_fdiv (pv 1) pe_int) pe_int) (fun _ _ => rfl)) (nomark _)))) pa_nil)))), ?_⟩
  refine ⟨_, rfl, _, _, _, _, _, rfl, ha, T.i_Tree.cl, T.na_Tree_pages, rfl, _, _, rfl, rfl, .inl ⟨by decide, by decide⟩, _, _, rfl, ⟨by decide, by decide, by omega, by omega⟩, fun D hD => ?_⟩
  refine lcM hD Wk.rng (List.range (2 * n - 2).toNat) (fun _ => V.bl true) (by rw [List.length_range]) (small_of (by omega)) (fun i u x H1 h1 e y Nt ht => ?_) (fun H1 e h1 => ?_)
  · obtain ⟨rfl, hi⟩ := range_get h1
    subst y
    have ha1 := e _ _ ha
    have h2 := atI_int (ts := ts) (v := 2 + (u : Int)) (by omega) (by omega)
    have h3 := atI_int (ts := ts) (v := (2 + (u : Int)) / 2) (by omega) (by omega)
    have h4 := hu (2 + (u : Int)) (by omega) (by omega)
    refine ⟨rfl, _, rfl, _, _, _, _, _, rfl, ha1, T.i_Tree.cl, T.na_Tree_told_row, rfl, _, rfl, _, _, rfl, rfl, _, _, _, _, rfl, rfl, e.sqT hf.told, h2, _, rfl, _, _, _, _, _, rfl, ha1, T.i_Tree.cl, T.na_Tree_told_row, rfl, _, rfl, _, _, rfl, rfl, ⟨by decide, by decide⟩, _, _, rfl, rfl, _, _, _, _, rfl, rfl, e.sqT hf.told, h3, _, _, rfl, rfl, ?_⟩
    show Nt (.bl (decide (lvl ts (2 + (u : Int)) ≤ lvl ts ((2 + (u : Int)) / 2)))) H1
    rw [decide_eq_true h4]
    exact ht _ (Same.refl _)
  · rw [(all_true _).1] at h1
    refine ⟨_, _, rfl, sqL_at h1, ?_⟩
    rw [(all_true _).2]
    exact q _ e
def spLeast (K : PySem.W.Frag) : Sp := fun vs H Q _ => ∃ a p n c ts, vs = [.ref a, .int p] ∧ TreeAt K H a n c ts ∧ 0 ≤ p ∧ p < n ∧ ∀ m H', Same H H' → m ∈ (way n p).map (lvl ts) → (∀ y ∈ (way n p).map (lvl ts), m ≤ y) → Q (.int m) H'
theorem ok_Tree_least_on_way (T : Txt K mg) : C8.Met P w K mg base 5 (cT K) "least_on_way" (spLeast K) [] := by
  refine mkmet T.i_Tree.cl T.f_Tree_least_on_way sc_Tree_least_on_way (fun vs H Q E h => ?_) (fun _ _ _ _ _ _ us hl => match us, hl with | [_, _], _ => rfl) (fun f cdv A outer s H vs Q E hr h => ?_)
  · obtain ⟨a, p, n, c, ts, rfl, ⟨dx, t, lv, ha, hf⟩, p0, p1, q⟩ := h
    rfl
  obtain ⟨a, p, n, c, ts, rfl, ⟨dx, t, lv, ha, hf⟩, p0, p1, q⟩ := h
  have hl := hf.tw.len
  have hn := hf.tw.npos
  refine ⟨_, (pss_one (ps_ret (pe_callB (cr_min rfl) (by rfl) T.m_min (by decide +kernel) (pa_cons (pe_lc (own := [("node", 2)]) (by rfl) sc_Tree_least_on_way.nd (pi_listK K (C8.pe_mt (ok_Tree_way T) hr (by decide) (pv 0) (pa_cons (pv 1) pa_nil))) (blkOk_by (own := [("node", 2)]) (N := n_Tree_least_on_way) (sc := defScope s_Tree_least_on_way) (by decide +kernel)) (fun _ _ _ _ _ => (pg_name (i := 2) sc_Tree_least_on_way.nd rfl (Or.inl rfl))) (fun _ _ _ _ _ => pts_nil) (fun _ _ _ _ _ => (pe_callTy call_int1 (by rfl) T.m_int (by decide +kernel) (pa_cons (pe_ix (ix_tupK K) (pe_fldK K (pv 0) (by rfl)) (pe_op op_sub (pv 2) pe_int) (fun _ _ => rfl)) pa_nil)))) pa_nil)))), ?_⟩
  refine ⟨_, rfl, _, _, _, rfl, ha, rfl, _, rfl, a, p, n, c, ts, rfl, ⟨dx, t, lv, ha, hf⟩, p0, p1, fun l H1 e1 hl1 hl2 => ?_⟩
  refine ⟨_, rfl, ⟨_, sqL_at hl2⟩, fun D hD => ?_⟩
  refine lcM hD (Wk.list (sqL_at hl2)) (way n p) (fun v => V.int (lvl ts v)) iV_len (small_of (by have := way_len n p; rw [iV_len]; omega)) (fun i u x H2 h1 e y Nt ht => ?_) (fun H2 e h1 => ?_)
  · rw [List.getElem?_map, h1] at y
    obtain rfl : x = .int u := (Option.some.inj y).symm
    have ha1 := (e1.trans e) _ _ ha
    obtain ⟨u1, u2⟩ := way_mem (List.mem_of_getElem? h1)
    exact ⟨rfl, _, rfl, _, _, _, _, _, rfl, ha1, T.i_Tree.cl, T.na_Tree_told_row, rfl, _, rfl, _, _, rfl, rfl, _, _, _, _, rfl, rfl, (e1.trans e).sqT hf.told, atI_int u1 (by omega), .inl ⟨_, rfl, ht _ (Same.refl _)⟩⟩
  · have h2 : (way n p).map (fun v => V.int (lvl ts v)) = ((way n p).map (lvl ts)).map V.int := by rw [List.map_map] <;> rfl
    rw [h2] at h1
    refine ⟨_, _, rfl, sqL_at h1, ?_, fun m hm hy => q m _ (e1.trans e) hm hy⟩
    rw [List.length_map]
    exact List.length_pos_iff.mpr (List.ne_nil_of_mem (leaf_way (by omega)))
def spMissed (K : PySem.W.Frag) : Sp := fun vs H Q _ => ∃ a n c ts, vs = [.ref a] ∧ TreeAt K H a n c ts ∧ Up n ts ∧ ∀ l H', Same H H' → H l = none → H' l = some (.lst []) → Q (.ref l) H'
theorem ok_Tree_missed (T : Txt K mg) : C8.Met P w K mg base 6 (cT K) "missed" (spMissed K) [] := by
  refine mkmet T.i_Tree.cl T.f_Tree_missed sc_Tree_missed (fun vs H Q E h => ?_) (fun _ _ _ _ _ _ us hl => match us, hl with | [_], _ => rfl) (fun f cdv A outer s H vs Q E hr h => ?_)
  · obtain ⟨a, n, c, ts, rfl, hT, hu, q⟩ := h
    rfl
  obtain ⟨a, n, c, ts, rfl, hT, hu, q⟩ := h
  obtain ⟨dx, t, lv, ha, hf⟩ := id hT
  have hl := hf.tw.len
  have hn := hf.tw.npos
  refine ⟨_, (pss_one (ps_ret (pe_lc (own := [("page", 1)]) (by rfl) sc_Tree_missed.nd (pi_range1 rfl T.m_range (pa_cons (pe_fldK K (pv 0) (by rfl)) pa_nil)) (blkOk_by (own := [("page", 1)]) (N := n_Tree_missed) (sc := defScope s_Tree_missed) (by decide +kernel)) (fun _ _ _ _ _ => (pg_name (i := 1) sc_Tree_missed.nd rfl (Or.inl rfl))) (fun _ _ _ _ _ => pts_one (pt_cmpR (op_gt) (pe_subO (ok_Tree_getitem T) hr (by decide) T.d_Tree_getitem (pv 0) (C8.pe_mt (ok_Tree_leaf T) hr (by decide) (pv 0) (pa_cons (pv 1) pa_nil)) (fun _ _ => rfl)) (C8.pe_mt (ok_Tree_least_on_way T) hr (by decide) (pv 0) (pa_cons (pv 1) pa_nil)) (nomark _))) (fun _ _ _ _ _ => (pv 1))))), ?_⟩
  refine ⟨_, rfl, _, _, _, _, _, rfl, ha, T.i_Tree.cl, T.na_Tree_pages, rfl, _, rfl, by omega, by omega, fun D hD => ?_⟩
  refine lcF hD Wk.rng (List.range n.toNat) (fun _ => V.non) (fun _ => false) (by rw [List.length_range] <;> rfl) (small_of (by omega)) (fun i u x H1 h1 e y Nt Nf ht hfalse => ?_) (fun H1 e h1 => ?_)
  · obtain ⟨rfl, hi⟩ := range_get h1
    subst y
    have ha1 := e _ _ ha
    have hT1 := e.tree hT
    have u1 : (0 : Int) ≤ 0 + (u : Int) := by omega
    have u2 : 0 + (u : Int) < n := by omega
    refine ⟨rfl, _, rfl, _, rfl, _, _, _, rfl, ha1, rfl, _, rfl, a, _, n, c, ts, rfl, hT1, u1, u2, _, _, _, rfl, ha1, a, _, n, c, ts, rfl, hT1, by omega, by omega, _, rfl, _, _, _, rfl, ha1, rfl, _, rfl, a, _, n, c, ts, rfl, hT1, u1, u2, fun m H2 e2 hm hy => ?_⟩
    refine ⟨_, _, rfl, rfl, _, rfl, ?_⟩
    have h3 : ¬ (m < lvl ts (n + (0 + (u : Int)))) := by
      obtain ⟨v, hv, rfl⟩ := List.mem_map.mp hm
      have := up_ge hu _ (Nat.le_refl _) (by omega) (List.mem_reverse.mp hv)
      omega
    exact iteD (fun h => absurd h h3) fun _ => hfalse _ e2 rfl
  · have h2 : ((List.range n.toNat).filter fun _ => false) = [] := List.filter_eq_nil_iff.mpr fun _ _ => Bool.false_ne_true
    rw [h2] at h1
    exact q D H1 e hD h1
end


end
/-! part P09 -/
section
/-! ### the walk: trees, fourth part; writes -/
theorem ixN_int {n : Nat} {v : Int} (h1 : 1 ≤ v) (h2 : v ≤ n) : ixN n (v - 1) = some (v - 1).toNat := by
  unfold ixN
  rw [if_pos (by omega), if_pos (by omega)]
theorem iV_put {ts : List Int} {w : Wr} : (iV ts).set (w.1 - 1).toNat (.int w.2) = iV (put ts w) := (List.map_set ..).symm
section
variable {K : PySem.W.Frag} {H : Hp} {D : Addr}
theorem sqT_off {a : Addr} {xs l : List V} (hD : H D = some (.lst l)) (h : SqT K H a xs) : SqT K (off H D) a xs := by
  rcases h with (h | ⟨o, h⟩) | h
  · exact .inl (.inl ((off_ne (ne_of h hD fun z => nomatch z)).trans h))
  · by_cases e : a = D
    · rw [e, hD] at h; cases h
    · exact .inl (.inr ⟨o, (off_ne e).trans h⟩)
  · exact .inr h
theorem wr_off {x : V} {w : Wr} {l : List V} (hD : H D = some (.lst l)) (h : WrAt K H x w) : WrAt K (off H D) x w := by
  obtain ⟨p, h1, h2⟩ := h
  exact ⟨p, h1, sqT_off hD h2⟩
end
theorem Paired.snoc {α β : Type} {F : α → β → Prop} {a : α} {b : β} : ∀ {xs : List α} {ys : List β}, Paired F xs ys → F a b → Paired F (xs ++ [a]) (ys ++ [b])
  | _, _, .nil, h => .cons h .nil
  | _, _, .cons r t, h => .cons r (Paired.snoc t h)
theorem Paired.app {α β : Type} {F : α → β → Prop} : ∀ {xs us : List α} {ys vs : List β}, Paired F xs ys → Paired F us vs → Paired F (xs ++ us) (ys ++ vs)
  | _, _, _, _, .nil, h => h
  | _, _, _, _, .cons r t, h => .cons r (Paired.app t h)
theorem Paired.rev {α β : Type} {F : α → β → Prop} : ∀ {xs : List α} {ys : List β}, Paired F xs ys → Paired F xs.reverse ys.reverse
  | _, _, .nil => .nil
  | _, _, .cons r t => by
    rw [List.reverse_cons, List.reverse_cons]
    exact Paired.snoc (Paired.rev t) r
theorem Paired.at {α β : Type} {F : α → β → Prop} : ∀ {xs : List α} {ys : List β} {i : Nat} {x : α}, Paired F xs ys → xs[i]? = some x → ∃ y, ys[i]? = some y ∧ F x y
  | _, _, _, _, .nil, e => by simp at e
  | _, _, 0, _, .cons r _, e => ⟨_, rfl, by
    have := Option.some.inj (show some _ = some _ from e)
    rw [← this]
    exact r⟩
  | _, _, i + 1, x, .cons _ t, e => by
    obtain ⟨y, h1, h2⟩ := Paired.at (i := i) t (by simpa using e)
    exact ⟨y, by simpa using h1, h2⟩
theorem Paired.take' {α β : Type} {F : α → β → Prop} : ∀ {xs : List α} {ys : List β} (n : Nat), Paired F xs ys → Paired F (xs.take n) (ys.take n)
  | _, _, 0, _ => .nil
  | _, _, n + 1, .nil => .nil
  | _, _, n + 1, .cons r t => .cons r (Paired.take' n t)
theorem ints_dp {K : PySem.W.Frag} {H : Hp} : ∀ ts : List Int, DpAll K H (iV ts) (ts.map PyData.int)
  | [] => .nil
  | _ :: r => .cons (.int _) (ints_dp r)
theorem eqvAll_ints : ∀ ts us : List Int, PyData.eqvAll (ts.map PyData.int) (us.map PyData.int) = decide (ts = us)
  | [], [] => by simp [PyData.eqvAll]
  | [], _ :: _ => by simp [PyData.eqvAll]
  | _ :: _, [] => by simp [PyData.eqvAll]
  | n :: r, k :: q => by
    simp only [List.map_cons, PyData.eqvAll, PyData.eqv, eqvAll_ints r q]
    by_cases h : n = k <;> simp [h]
theorem lay_ints : ∀ ts : List Int, PyData.canLayAll0 (ts.map PyData.int) = true
  | [] => by simp [PyData.canLayAll0]
  | n :: r => by simp [PyData.canLayAll0, PyData.canLay0, lay_ints r]
theorem dep_ints : ∀ ts : List Int, PyData.depthAll (ts.map PyData.int) ≤ 1
  | [] => by simp [PyData.depthAll]
  | n :: r => by
    have := dep_ints r
    simp only [List.map_cons, PyData.depthAll, PyData.depth]
    omega
abbrev treeD (c : Int) (ts : List Int) : PyData := .tuple [.int c, .tuple (ts.map PyData.int)]
theorem treeD_shaped (c : Int) (ts : List Int) : SeqAt.shaped (treeD c ts) = true := by
  have h := dep_ints ts
  have h2 : PyData.depth (treeD c ts) ≤ 64 := by
    simp only [PyData.depth, PyData.depthAll]
    omega
  show (PyData.canLay0 (treeD c ts) && decide (PyData.depth (treeD c ts) ≤ 64)) = true
  rw [Bool.and_eq_true]
  exact ⟨by simp [PyData.canLay0, PyData.canLayAll0, lay_ints], decide_eq_true h2⟩
theorem treeD_eqv (c : Int) (ts us : List Int) : PyData.eqv (treeD c ts) (treeD c us) = decide (ts = us) := by
  simp only [PyData.eqv, PyData.eqvAll, eqvAll_ints]
  simp
section
variable {P : Program} {w : World} {K : PySem.W.Frag} {mg : Str → Option Value} {base : Heap}
def spMended (K : PySem.W.Frag) : Sp := fun vs H Q _ => ∃ a n c ts, vs = [.ref a] ∧ TreeAt K H a n c ts ∧ ∀ x H', Same H H' → TreeAt K H' x n c (mend n ts) → Q (.ref x) H'
theorem ok_Tree_mended (T : Txt K mg) : C8.Met P w K mg base 6 (cT K) "mended" (spMended K) [] := by
  refine mkmet T.i_Tree.cl T.f_Tree_mended sc_Tree_mended (fun vs H Q E h => ?_) (fun _ _ _ _ _ _ us hl => match us, hl with | [_], _ => rfl) (fun f cdv A outer s H vs Q E hr h => ?_)
  · obtain ⟨a, n, c, ts, rfl, ⟨dx, t, lv, ha, hf⟩, q⟩ := h
    rfl
  obtain ⟨a, n, c, ts, rfl, ⟨dx, t, lv, ha, hf⟩, q⟩ := h
  have hl := hf.tw.len
  have hn := hf.tw.npos
  refine ⟨_, (pss_cons (ps_set (i := 1) sc_Tree_mended.nd rfl (Or.inl rfl) (pe_callTy call_list_of (by rfl) T.m_list (by decide +kernel) (pa_cons (pe_fldK K (pv 0) (by rfl)) pa_nil)))
      (pss_cons (ps_for PassesOwn.never rfl (pi_listK K (pe_listRg3 rfl rfl T.m_list rfl T.m_range (pa_cons (pe_op op_sub (pe_fldK K (pv 0) (by rfl)) pe_int) (pa_cons pe_int (pa_cons (pe_un un_neg pe_int) pa_nil))))) (pg_name (i := 2) sc_Tree_mended.nd rfl (Or.inl rfl)) (pss_one (ps_asg (pe_callB (call_max2 rfl) (by rfl) T.m_max (by decide +kernel) (pa_cons (pe_callTy call_int1 (by rfl) T.m_int (by decide +kernel) (pa_cons (pe_ix (ix_listK K) (pv 1) (pe_op op_sub (pe_op op_mul pe_int (pv 2)) pe_int) (fun _ _ => rfl)) pa_nil)) (pa_cons (pe_callTy call_int1 (by rfl) T.m_int (by decide +kernel) (pa_cons (pe_ix (ix_listK K) (pv 1) (pe_op op_mul pe_int (pv 2)) (fun _ _ => rfl)) pa_nil)) pa_nil))) (pg_sub (pv 1) (pe_op op_sub (pv 2) pe_int) set_list))))
      (pss_one (ps_ret (C8.pe_mk (ok_Tree_init T) hr (by decide) rfl (pa_cons (pe_fldK K (pv 0) (by rfl)) (pa_cons (pv 1) pa_nil))))))), ?_⟩
  refine ⟨_, rfl, _, _, _, _, _, rfl, ha, T.i_Tree.cl, T.na_Tree_told_row, rfl, _, _, rfl, .inr hf.told, fun p0 hp0 => ?_⟩
  have e0 := same_up (o := .lst (iV ts)) hp0
  have ha0 := e0 _ _ ha
  have hp1 : (upd H p0 (.lst (iV ts))) p0 = some _ := upd_same
  refine ⟨_, rfl, _, _, _, _, _, rfl, ha0, T.i_Tree.cl, T.na_Tree_pages, rfl, _, _, rfl, rfl, _, rfl, _, _, _, _, rfl, RgC.neg (by omega) (by omega) (by omega) (by omega), by omega, fun l hl0 => ?_⟩
  have e1 := e0.up (o := .lst ((List.range (n - 1 - 0).toNat).map fun (k : Nat) => V.int (n - 1 + k * -1))) (e0.free hl0)
  have ha1 := e1 _ _ ha
  have hp2 := same_up (o := .lst ((List.range (n - 1 - 0).toNat).map fun (k : Nat) => V.int (n - 1 + k * -1))) hl0 _ _ hp1
  have hne : l ≠ p0 := (ne_of_none hp1 hl0).symm
  refine ⟨_, rfl, ⟨_, sqL_at upd_same⟩, ?_⟩
  show ∃ W : Nat → Nat → L2.St → Hp → Prop, _
  have hl2 : (upd (upd H p0 (.lst (iV ts))) l (.lst ((List.range (n - 1 - 0).toNat).map fun (k : Nat) => V.int (n - 1 + k * -1)))) l = some _ := upd_same
  refine for_list (xs := (List.range (n - 1 - 0).toNat).map fun (k : Nat) => V.int (n - 1 + k * -1)) (fun i σ H' => ∃ z cur, σ = [some (.ref a), some (.ref p0), z] ∧ H' p0 = some (.lst (iV cur)) ∧ TW n c cur ∧ mendTo ((n - 1).toNat - i) cur = mend n ts ∧ Ex p0 (upd (upd H p0 (.lst (iV ts))) l (.lst ((List.range (n - 1 - 0).toNat).map fun (k : Nat) => V.int (n - 1 + k * -1)))) H') ⟨none, ts, rfl, hp2, hf.tw, rfl, Ex.refl⟩ ?_ ?_ ?_
  · rintro i σ H' hi ⟨z, cur, rfl, h1, h2, h3, h4⟩
    exact sqL_at (h4 _ _ hne hl2)
  · rintro i x σ H' hi ⟨z, cur, rfl, h1, h2, h3, h4⟩
    have hc := h2.len
    rw [List.getElem?_map] at hi
    obtain ⟨k, hk, rfl⟩ := Option.map_eq_some_iff.mp hi
    obtain ⟨rfl, hk2⟩ := range_get hk
    have v1 : 1 ≤ n - 1 + (k : Int) * -1 := by omega
    have v2 : n - 1 + (k : Int) * -1 < n := by omega
    generalize hv : n - 1 + (k : Int) * -1 = v at v1 v2
    have i2 : atI (iV cur) (2 * v) = some (.int (lvl cur (2 * v + 1))) := by
      have := atI_int (ts := cur) (v := 2 * v + 1) (by omega) (by omega)
      rwa [show 2 * v + 1 - 1 = 2 * v by omega] at this
    refine ⟨_, rfl, _, rfl, _, _, rfl, rfl, .inl ⟨by decide, by decide⟩, _, _, rfl, rfl, _, _, _, _, rfl, rfl, sqL_at h1, atI_int (by omega) (by omega), .inl ⟨_, rfl, ?_⟩⟩
    refine ⟨_, rfl, _, rfl, _, _, rfl, rfl, .inl ⟨by decide, by decide⟩, _, _, _, _, rfl, rfl, sqL_at h1, i2, .inl ⟨_, rfl, _, _, rfl, ?_⟩⟩
    refine ⟨_, rfl, _, rfl, _, _, rfl, rfl, _, _, _, _, rfl, rfl, h1, ixN_int v1 (by rw [iV_len]; omega), ?_⟩
    refine ⟨_, put cur (v, gr cur v), rfl, ?_, h2.put (gr_bound h2 v1 v2), ?_, h4.upx⟩
    · rw [upd_same, ← iV_put] <;> rfl
    · rw [← h3]
      have e : (n - 1).toNat - k = ((n - 1).toNat - (k + 1)) + 1 := by omega
      have e2 : (((n - 1).toNat - (k + 1) + 1 : Nat) : Int) = v := by omega
      rw [e, mendTo, e2]
  · rintro σ H' ⟨z, cur, rfl, h1, h2, h3, h4⟩
    rw [List.length_map, List.length_range, show (n - 1).toNat - (n - 1 - 0).toNat = 0 by omega] at h3
    have hs : Same H H' := fun b o hb => h4 _ _ (ne_of_none hb hp0) (e1 b o hb)
    have ha2 := hs _ _ ha
    have h3' : cur = mend n ts := h3
    subst h3'
    refine ⟨_, rfl, _, _, _, _, _, rfl, ha2, T.i_Tree.cl, T.na_Tree_classes, rfl, _, rfl, ?_⟩
    exact use_mk (.inl (sqL_at h1)) h2 fun x H2 e5 hx ht => q x H2 (hs.trans e5) ht
def RTree (K : PySem.W.Frag) (a b : Addr) (H : Hp) (r : Bool) : Prop := ∃ n c ts us, TreeAt K H a n c ts ∧ TreeAt K H b n c us ∧ r = decide (ts = us)
theorem ok_Tree_eq (T : Txt K mg) : C8.Met P w K mg base 1 (cT K) "__eq__" (spEqB (RTree K)) [] := by
  refine mkmet T.i_Tree.cl T.f_Tree_eq sc_Tree_eq (fun vs H Q E h => ?_) (fun _ _ _ _ _ _ us hl => match us, hl with | [_, _], _ => rfl) (fun f cdv A outer s H vs Q E hr h => ?_)
  · obtain ⟨a, b, r, rfl, ⟨n, c, ts, us, ⟨dx, t, lv, ha, hf⟩, ⟨dx', t', lv', hb, hf'⟩, hr'⟩, q⟩ := h
    rfl
  obtain ⟨a, b, r, rfl, ⟨n, c, ts, us, ⟨dx, t, lv, ha, hf⟩, ⟨dx', t', lv', hb, hf'⟩, hr'⟩, q⟩ := h
  subst hr'
  refine ⟨_, (pss_cons (ps_if (pt_not (pt_val (pe_callB (C8.call_isC T.i_Tree) (by rfl) T.m_isinstance (by decide +kernel) (pa_cons (pv 1) (pa_cons (pe_glob (v := .ref (cT K)) rfl T.g_Tree rfl) pa_nil))))) (pss_one ps_never) pss_nil)
      (pss_one (ps_ret (pe_cmpR (op_eqD hr.units) (pe_tup (pa_cons (pe_fldK K (pv 0) (by rfl)) (pa_cons (pe_fldK K (pv 0) (by rfl)) pa_nil))) (pe_tup (pa_cons (pe_fldK K (pv 1) (by rfl)) (pa_cons (pe_fldK K (pv 1) (by rfl)) pa_nil))) (nomark _))))), ?_⟩
  refine ⟨_, rfl, _, _, _, rfl, hb, true, rfl, iteF ?_⟩
  refine ⟨_, rfl, _, _, _, _, _, rfl, ha, T.i_Tree.cl, T.na_Tree_classes, rfl, _, rfl, _, _, _, _, _, rfl, ha, T.i_Tree.cl, T.na_Tree_told_row, rfl, le_small (Nat.le_of_ble_eq_true rfl), fun p1 hp1 => ?_⟩
  have e1 := same_up (o := .tup [.int c, .ref t]) hp1
  have hb1 := e1 _ _ hb
  have h1 := sqT_at (K := K) (upd_same (H := H) (a := p1) (o := .tup [.int c, .ref t]))
  refine ⟨_, rfl, _, _, _, _, _, rfl, hb1, T.i_Tree.cl, T.na_Tree_classes, rfl, _, rfl, _, _, _, _, _, rfl, hb1, T.i_Tree.cl, T.na_Tree_told_row, rfl, le_small (Nat.le_of_ble_eq_true rfl), fun p2 hp2 => ?_⟩
  have e2 := e1.up (o := .tup [.int c, .ref t']) (e1.free hp2)
  refine ⟨treeD c ts, treeD c us, .tup ((same_up hp2).sqT h1) (.cons (.int _) (.cons (.tup (e2.sqT hf.told) (ints_dp ts)) .nil)), .tup (sqT_at upd_same) (.cons (.int _) (.cons (.tup (e2.sqT hf'.told) (ints_dp us)) .nil)), treeD_shaped _ _, treeD_shaped _ _, ?_⟩
  rw [treeD_eqv]
  exact q _ e2
def spCheckTree (K : PySem.W.Frag) : Sp := fun vs H Q _ => ∃ a n c ts, vs = [.ref a] ∧ TreeAt K H a n c ts ∧ Q .non H
theorem ok_check_tree (T : Txt K mg) : C8.Cal P w K mg base 1 "check_tree" (spCheckTree K) [] := by
  refine mkcal T.f_check_tree sc_check_tree (fun vs H Q E h => ?_) (fun _ _ _ _ _ _ us hl => match us, hl with | [_], _ => rfl) (fun f cdv A outer s H vs Q E hr h => ?_)
  · obtain ⟨a, n, c, ts, rfl, ⟨dx, t, l, ha, hf⟩, q⟩ := h
    rfl
  obtain ⟨a, n, c, ts, rfl, ⟨dx, t, l, ha, hf⟩, q⟩ := h
  refine ⟨_, (pss_one (ps_if (pt_not (pt_val (pe_callB (C8.call_isC T.i_Tree) (by rfl) T.m_isinstance (by decide +kernel) (pa_cons (pv 0) (pa_cons (pe_glob (v := .ref (cT K)) rfl T.g_Tree rfl) pa_nil))))) (pss_one ps_never) pss_nil)), ?_⟩
  exact ⟨_, rfl, _, _, _, rfl, ha, true, rfl, iteF q⟩
def spCheckClass (K : PySem.W.Frag) : Sp := fun vs H Q _ => ∃ a l n c ts, vs = [.ref a, .int l] ∧ TreeAt K H a n c ts ∧ 0 ≤ l ∧ l ≤ c ∧ Q .non H
theorem ok_check_class (T : Txt K mg) : C8.Cal P w K mg base 2 "check_class" (spCheckClass K) [] := by
  refine mkcal T.f_check_class sc_check_class (fun vs H Q E h => ?_) (fun _ _ _ _ _ _ us hl => match us, hl with | [_, _], _ => rfl) (fun f cdv A outer s H vs Q E hr h => ?_)
  · obtain ⟨a, l, n, c, ts, rfl, ⟨dx, t, lv, ha, hf⟩, l1, l2, q⟩ := h
    rfl
  obtain ⟨a, l, n, c, ts, rfl, ⟨dx, t, lv, ha, hf⟩, l1, l2, q⟩ := h
  refine ⟨_, (pss_one (ps_if (pt_not (pt_val (C8.pe_c (ok_is_count T) hr (by decide) rfl (pa_cons (pv 1) (pa_cons pe_int (pa_cons (pe_fldK K (pv 0) (by rfl)) pa_nil)))))) (pss_one ps_never) pss_nil)), ?_⟩
  exact ⟨_, rfl, _, rfl, _, _, _, _, _, rfl, ha, T.i_Tree.cl, T.na_Tree_classes, rfl, _, _, _, rfl, l1, l2, true, rfl, iteF q⟩
def spCheckAbove : Sp := fun vs H Q _ => ∃ b, vs = [.bl b] ∧ Q .non H
theorem ok_check_above (T : Txt K mg) : C8.Cal P w K mg base 1 "check_above" spCheckAbove [] := by
  refine mkcal T.f_check_above sc_check_above (fun vs H Q E h => ?_) (fun _ _ _ _ _ _ us hl => match us, hl with | [_], _ => rfl) (fun f cdv A outer s H vs Q E hr h => ?_)
  · obtain ⟨b, rfl, q⟩ := h
    rfl
  obtain ⟨b, rfl, q⟩ := h
  refine ⟨_, (pss_one (ps_if (pt_not (pt_val (pe_callB (call_isiK K) (by rfl) T.m_isinstance (by decide +kernel) (pa_cons (pv 0) (pa_cons (pe_bltn (v := .ty "bool") (by rfl) T.m_bool (by decide +kernel) rfl) pa_nil))))) (pss_one ps_never) pss_nil)), ?_⟩
  exact ⟨_, rfl, _, _, _, _, true, rfl, .ty _, .base (.bl _), kit_ty (by decide +kernel), true, rfl, iteF q⟩
end


end
/-! part P10 -/
section
/-! ### the walk: writes -/
theorem puts_snoc {ts : List Int} {ws : List Wr} {w : Wr} : puts ts (ws ++ [w]) = put (puts ts ws) w := by simp [puts]
theorem take_snoc {α : Type} {l : List α} {i : Nat} {x : α} (h : l[i]? = some x) : l.take (i + 1) = l.take i ++ [x] := by
  obtain ⟨h1, h2⟩ := List.getElem?_eq_some_iff.mp h
  rw [List.take_succ_eq_append_getElem h1, h2]
theorem up_len (k : Nat) : ∀ {x : Int}, x.toNat ≤ k → (up x).length ≤ k := by
  induction k with
  | zero => intro x h; rw [up_neg (by omega)]; exact Nat.zero_le _
  | succ k ih =>
    intro x h
    by_cases hx : x < 1
    · rw [up_neg hx]; exact Nat.zero_le _
    · rw [up_pos (by omega), List.length_cons]
      exact Nat.succ_le_succ (ih (by omega))
theorem Ex.off {r : Addr} {H H' : Hp} (e : Ex r H H') : Same (off H r) H' := fun b o h => by
  by_cases hb : b = r
  · rw [hb, off_self] at h; cases h
  · rw [off_ne hb] at h; exact e b o hb h
section
variable {K : PySem.W.Frag} {H H' : Hp} {D : Addr} {l : List V}
theorem wrs_off {xs : List V} {ws : List Wr} (hD : H D = some (.lst l)) (h : WrsAt K H xs ws) : WrsAt K (off H D) xs ws := Paired.mapP h fun _ _ => wr_off hD
theorem tree_off {a : Addr} {n c : Int} {ts : List Int} (hD : H D = some (.lst l)) (h : TreeAt K H a n c ts) : TreeAt K (off H D) a n c ts := by
  obtain ⟨dx, t, lv, h1, h2⟩ := h
  obtain ⟨xs, h3, h4⟩ := h2.leaves
  exact ⟨dx, t, lv, (off_ne (ne_of h1 hD fun z => nomatch z)).trans h1, sqT_off hD h2.told, ⟨xs, sqT_off hD h3, h4⟩, h2.tw⟩
end
section
variable {P : Program} {w : World} {K : PySem.W.Frag} {mg : Str → Option Value} {base : Heap}
def spRaising (K : PySem.W.Frag) : Sp := fun vs H Q _ => ∃ a p l ab n c ts, vs = [.ref a, .int p, .int l, .bl ab] ∧ TreeAt K H a n c ts ∧ 0 ≤ p ∧ p < n ∧ 0 ≤ l ∧ l ≤ c ∧ ∀ r H', Same H H' → RowL K H' r (if ab then raiseRow ts n p l else (raiseRow ts n p l).reverse) → Q (.ref r) H'
theorem ok_raising (T : Txt K mg) : CalK P w K mg base 7 "raising" (spRaising K) 3 ["above"] := by
  refine mkcalK T.f_raising sc_raising (fun vs H Q E h => ?_) (fun _ _ _ _ _ _ us ws hl hw => match us, ws, hl, hw with | [_, _, _], [_], _, _ => rfl) (fun f cdv A outer s H vs Q E hr h => ?_)
  · obtain ⟨a, p, l, ab, n, c, ts, rfl, hT, p1, p2, l1, l2, q⟩ := h
    rfl
  obtain ⟨a, p, l, ab, n, c, ts, rfl, hT, p1, p2, l1, l2, q⟩ := h
  obtain ⟨dx, t, lv, ha, hf⟩ := id hT
  have hn := hf.tw.npos
  refine ⟨_, (pss_cons (ps_expr (C8.pe_c (ok_check_tree T) hr (by decide) rfl (pa_cons (pv 0) pa_nil)))
      (pss_cons (ps_set (i := 4) sc_raising.nd rfl (Or.inl rfl) (C8.pe_mt (ok_Tree_way T) hr (by decide) (pv 0) (pa_cons (pv 1) pa_nil)))
      (pss_cons (ps_expr (C8.pe_c (ok_check_class T) hr (by decide) rfl (pa_cons (pv 0) (pa_cons (pv 2) pa_nil))))
      (pss_cons (ps_expr (C8.pe_c (ok_check_above T) hr (by decide) rfl (pa_cons (pv 3) pa_nil)))
      (pss_cons (ps_setLc (i := 5) (own := [("node", 6)]) (by rfl) sc_raising.nd rfl rfl (sw_true rfl rfl rfl (by decide +kernel)) (pi_listK K (pv 4)) (blkOk_by (own := [("node", 6)]) (N := n_raising) (sc := defScope s_raising) (by decide +kernel)) (fun _ _ _ _ _ => (pg_name (i := 6) sc_raising.nd rfl (Or.inl rfl))) (fun _ _ _ _ _ => pts_one (pt_cmpR (op_lt) (pe_subO (ok_Tree_getitem T) hr (by decide) T.d_Tree_getitem (pv 0) (pv 6) (fun _ _ => rfl)) (pv 2) (nomark _))) (fun _ _ _ _ _ => (pe_tup (pa_cons (pv 6) (pa_cons (pv 2) pa_nil)))))
      (pss_one (ps_ret (pe_ifExp (pt_val (pv 3)) (pv 5) (pe_revL (pv 5)))))))))), ?_⟩
  refine ⟨_, rfl, a, n, c, ts, rfl, hT, ?_⟩
  refine ⟨_, rfl, _, _, _, rfl, ha, rfl, _, rfl, a, p, n, c, ts, rfl, hT, p1, p2, fun y H1 e1 hy1 hy2 => ?_⟩
  refine ⟨_, rfl, _, rfl, a, l, n, c, ts, rfl, e1.tree hT, l1, l2, ?_⟩
  refine ⟨_, rfl, ab, rfl, ?_⟩
  refine ⟨_, rfl, _, rfl, ⟨_, sqL_at hy2⟩, fun D hD => ?_⟩
  refine lcW hD (Wk.list (sqL_at hy2)) (small_of (by have := way_len n p; rw [iV_len]; omega)) (fun i acc H => WrsAt K H acc ((((way n p).take i).filter fun v => decide (lvl ts v < l)).map fun v => (v, l))) .nil (fun i acc H H' e h => e.wrs h) (fun i x H2 acc hi e hacc hlen y hR Nt Nf ht hnf => ?_) (fun H2 acc e hacc hR => ?_)
  · rw [List.getElem?_map] at y
    obtain ⟨u, hu, rfl⟩ := Option.map_eq_some_iff.mp y
    obtain ⟨u1, u2⟩ := way_mem (List.mem_of_getElem? hu)
    have eT := (e1.trans e).tree hT
    have ha2 := (e1.trans e) _ _ ha
    refine ⟨rfl, _, rfl, _, rfl, _, _, _, rfl, ha2, a, u, n, c, ts, rfl, eT, u1, by omega, _, rfl, _, _, rfl, rfl, _, rfl, iteD (fun h => ?_) fun h => ?_⟩
    · refine ⟨_, rfl, _, rfl, le_small (Nat.le_of_ble_eq_true rfl), fun z hz => ht _ _ (same_up hz) ?_⟩
      rw [take_snoc hu, List.filter_append, List.map_append, List.filter_cons_of_pos (by simpa using h)]
      exact Paired.snoc ((off_mono (same_up hz)).wrs hR) (wr_off (same_up hz _ _ hacc) ⟨z, rfl, sqT_at upd_same⟩)
    · refine hnf _ (Same.refl _) ?_
      rw [take_snoc hu, List.filter_append, List.map_append, List.filter_cons_of_neg (by simpa using h)]
      simpa using hR
  · rw [iV_len, List.take_length] at hR
    have hR2 : WrsAt K H2 acc (raiseRow ts n p l) := off_same.wrs hR
    cases ab with
    | true => exact ⟨_, rfl, true, rfl, iteT ⟨_, rfl, q D H2 (e1.trans e) ⟨acc, sqL_at hacc, hR2⟩⟩⟩
    | false => exact ⟨_, rfl, false, rfl, iteF ⟨_, rfl, _, _, rfl, sqL_at hacc, fun r hr => q r _ ((e1.trans e).up ((e1.trans e).free hr)) ⟨_, sqL_at upd_same, (same_up hr).wrs (Paired.rev hR2)⟩⟩⟩
def spLowering (K : PySem.W.Frag) : Sp := fun vs H Q _ => ∃ a v l ab n c ts, vs = [.ref a, .int v, .int l, .bl ab] ∧ TreeAt K H a n c ts ∧ 1 ≤ v ∧ v < 2 * n ∧ 0 ≤ l ∧ l ≤ c ∧ ∀ r H', Same H H' → RowL K H' r (if ab then (lowRow ts v l).reverse else lowRow ts v l) → Q (.ref r) H'
theorem ok_lowering (T : Txt K mg) : CalK P w K mg base 8 "lowering" (spLowering K) 3 ["above"] := by
  refine mkcalK T.f_lowering sc_lowering (fun vs H Q E h => ?_) (fun _ _ _ _ _ _ us ws hl hw => match us, ws, hl, hw with | [_, _, _], [_], _, _ => rfl) (fun f cdv A outer s H vs Q E hr h => ?_)
  · obtain ⟨a, v, l, ab, n, c, ts, rfl, hT, v1, v2, l1, l2, q⟩ := h
    rfl
  obtain ⟨a, v, l, ab, n, c, ts, rfl, hT, v1, v2, l1, l2, q⟩ := h
  obtain ⟨dx, t, lv, ha, hf⟩ := id hT
  have hn := hf.tw.npos
  refine ⟨_, (pss_cons (ps_expr (C8.pe_c (ok_check_tree T) hr (by decide) rfl (pa_cons (pv 0) pa_nil)))
      (pss_cons (ps_if (pt_not (pt_val (C8.pe_c (ok_is_count T) hr (by decide) rfl (pa_cons (pv 1) (pa_cons pe_int (pa_cons (pe_op op_sub (pe_op op_mul pe_int (pe_callB (call_lenO (ok_Tree_len T) hr (by decide)) (by rfl) T.m_len (by decide +kernel) (pa_cons (pv 0) pa_nil))) pe_int) pa_nil)))))) (pss_one ps_never) pss_nil)
      (pss_cons (ps_expr (C8.pe_c (ok_check_class T) hr (by decide) rfl (pa_cons (pv 0) (pa_cons (pv 2) pa_nil))))
      (pss_cons (ps_expr (C8.pe_c (ok_check_above T) hr (by decide) rfl (pa_cons (pv 3) pa_nil)))
      (pss_cons (ps_if (pt_cmpR (op_ge) (pv 2) (pe_subO (ok_Tree_getitem T) hr (by decide) T.d_Tree_getitem (pv 0) (pv 1) (fun _ _ => rfl)) (nomark _)) (pss_one (ps_ret (pe_lst pa_nil))) pss_nil)
      (pss_cons (ps_set (i := 4) sc_lowering.nd rfl (Or.inl rfl) (pe_lst (pa_cons (pe_tup (pa_cons (pv 1) (pa_cons (pv 2) pa_nil))) pa_nil)))
      (pss_cons (ps_set (i := 5) sc_lowering.nd rfl (Or.inl rfl) (C8.pe_mt (ok_Tree_with_told T) hr (by decide) (pv 0) (pa_cons (pv 1) (pa_cons (pv 2) pa_nil))))
      (pss_cons (ps_set (i := 1) sc_lowering.nd rfl (Or.inl rfl) (pe_op op_fdiv (pv 1) pe_int))
      (pss_cons (ps_while PassesOwn.never (pt_cmpR (op_ge) (pv 1) pe_int (nomark _)) (pss_cons (ps_if (pt_cmpR (op_gt) (pe_subO (ok_Tree_getitem T) hr (by decide) T.d_Tree_getitem (pv 5) (pv 1) (fun _ _ => rfl)) (C8.pe_mt (ok_Tree_greater T) hr (by decide) (pv 5) (pa_cons (pv 1) pa_nil)) (nomark _)) (pss_cons (ps_expr (pe_bm PySem.F.plainAttrs_list PySem.F.slot_list_append PySem.F.type_list_append mt_append (pv 4) (pa_cons (pe_tup (pa_cons (pv 1) (pa_cons (C8.pe_mt (ok_Tree_greater T) hr (by decide) (pv 5) (pa_cons (pv 1) pa_nil)) pa_nil))) pa_nil)))
      (pss_one (ps_set (i := 5) sc_lowering.nd rfl (Or.inl rfl) (C8.pe_mt (ok_Tree_with_told T) hr (by decide) (pv 5) (pa_cons (pv 1) (pa_cons (C8.pe_mt (ok_Tree_greater T) hr (by decide) (pv 5) (pa_cons (pv 1) pa_nil)) pa_nil)))))) pss_nil)
      (pss_one (ps_set (i := 1) sc_lowering.nd rfl (Or.inl rfl) (pe_op op_fdiv (pv 1) pe_int)))))
      (pss_one (ps_ret (pe_ifExp (pt_val (pv 3)) (pe_revL (pv 4)) (pv 4))))))))))))), ?_⟩
  refine ⟨_, rfl, a, n, c, ts, rfl, hT, ?_⟩
  refine ⟨_, rfl, _, rfl, _, _, _, rfl, ha, a, n, c, ts, rfl, hT, n, rfl, by omega, by omega, _, _, rfl, rfl, .inl ⟨by decide, by decide⟩, _, _, rfl, rfl, _, _, _, rfl, v1, by omega, true, rfl, iteF ?_⟩
  refine ⟨_, rfl, _, rfl, a, l, n, c, ts, rfl, hT, l1, l2, ?_⟩
  refine ⟨_, rfl, ab, rfl, ?_⟩
  refine ⟨_, rfl, _, rfl, _, rfl, _, _, _, rfl, ha, a, v, n, c, ts, rfl, hT, v1, v2, _, _, rfl, rfl, _, rfl, iteD (fun h => ?_) fun h => ?_⟩
  · have e0 : lowRow ts v l = [] := if_pos h
    rw [e0] at q
    refine ⟨le_small (Nat.le_of_ble_eq_true rfl), fun r hr => q r _ (same_up hr) ⟨[], sqL_at upd_same, ?_⟩⟩
    cases ab <;> exact .nil
  have e0 : lowRow ts v l = (v, l) :: lowUp (put ts (v, l)) (v / 2) := if_neg h
  refine ⟨_, rfl, _, rfl, le_small (Nat.le_of_ble_eq_true rfl), fun p hp => ?_⟩
  have e1 := same_up (o := .tup [.int v, .int l]) hp
  refine ⟨le_small (Nat.le_of_ble_eq_true rfl), fun r hr => ?_⟩
  have hr0 := e1.free hr
  have e2 := e1.up (o := .lst [.ref p]) hr0
  refine ⟨_, rfl, _, _, _, rfl, e2 _ _ ha, rfl, _, rfl, _, rfl, a, v, l, n, c, ts, rfl, e2.tree hT, ⟨v1, v2, l1, l2⟩, fun x H3 e3 hx3 => ?_⟩
  have hp3 : WrAt K H3 (.ref p) (v, l) := ⟨p, rfl, (((same_up hr).trans e3).sqT (sqT_at upd_same))⟩
  have hr3 := e3 _ _ (upd_same (H := upd H p (.tup [.int v, .int l])) (a := r) (o := .lst [.ref p]))
  refine ⟨_, rfl, _, _, rfl, rfl, ⟨by decide, by decide⟩, ?_⟩
  refine whileS (fun m σ H' => ∃ v' x' cur xs done, σ = [some (.ref a), some (.int v'), some (.int l), some (.bl ab), some (.ref r), some (.ref x')] ∧ m = v'.toNat ∧ v' < n ∧ H' r = some (.lst xs) ∧ WrsAt K H' xs done ∧ TreeAt K H' x' n c cur ∧ done ++ lowUp cur v' = lowRow ts v l ∧ (xs.length : Int) + v' ≤ 64 ∧ 0 ≤ v' ∧ Same H H') (v / 2).toNat ?_ ?_
  · refine ⟨v / 2, x, put ts (v, l), [.ref p], [(v, l)], rfl, rfl, by omega, hr3, .cons hp3 .nil, hx3, e0.symm, ?_, by omega, e2.trans e3⟩
    show ((1 : Nat) : Int) + v / 2 ≤ 64
    omega
  · rintro m σ H4 ⟨v', x', cur, xs, done, rfl, rfl, w1, w2, w3, w4, w5, w6, w7, w8⟩ Kn kt kf
    refine ⟨_, rfl, _, _, rfl, rfl, _, rfl, ?_⟩
    obtain ⟨dx', t', lv', hx', hf'⟩ := id w4
    by_cases hv : 1 ≤ v'
    · rw [decide_eq_true hv]
      refine kt _ fun N hN => ?_
      refine ⟨_, rfl, _, rfl, _, _, _, rfl, hx', x', v', n, c, cur, rfl, w4, hv, by omega, _, rfl, _, _, _, rfl, hx', rfl, _, rfl, x', v', n, c, cur, rfl, w4, hv, w1, _, _, rfl, rfl, _, rfl, iteD (fun g => ?_) fun g => ?_⟩
      · refine ⟨_, rfl, .inl ⟨rfl, _, sqL_at w2⟩, _, rfl, _, rfl, _, _, _, rfl, hx', rfl, _, rfl, x', v', n, c, cur, rfl, w4, hv, w1, le_small (Nat.le_of_ble_eq_true rfl), fun p' hp' => ?_⟩
        have f1 := same_up (o := .tup [.int v', .int (gr cur v')]) hp'
        have w2' := f1 _ _ w2
        refine ⟨_, _, _, rfl, rfl, w2', small_of (by omega), ?_⟩
        have f2 : Same (off (upd H4 p' (.tup [.int v', .int (gr cur v')])) r) (upd (upd H4 p' (.tup [.int v', .int (gr cur v')])) r (.lst (xs ++ [.ref p']))) := Ex.off Ex.refl.upx
        have w4' := f2.tree (tree_off w2' (f1.tree w4))
        have w3' := f2.wrs (wrs_off w2' (f1.wrs w3))
        have wp := f2.wr (wr_off w2' (⟨p', rfl, sqT_at upd_same⟩ : WrAt K (upd H4 p' (.tup [.int v', .int (gr cur v')])) (.ref p') (v', gr cur v')))
        have hr4 := upd_same (H := upd H4 p' (.tup [.int v', .int (gr cur v')])) (a := r) (o := .lst (xs ++ [.ref p']))
        have w8' : Same H (upd (upd H4 p' (.tup [.int v', .int (gr cur v')])) r (.lst (xs ++ [.ref p']))) := (w8.trans f1).up (e1.free hr)
        generalize upd (upd H4 p' (.tup [.int v', .int (gr cur v')])) r (.lst (xs ++ [.ref p'])) = H5 at w4' w3' wp hr4 w8' ⊢
        obtain ⟨dx5, t5, lv5, hx5, hf5⟩ := id w4'
        obtain ⟨g1, g2⟩ := gr_bound hf'.tw hv w1
        refine ⟨_, rfl, _, _, _, rfl, hx5, rfl, _, rfl, _, rfl, _, _, _, rfl, hx5, rfl, _, rfl, x', v', n, c, cur, rfl, w4', hv, w1, x', v', gr cur v', n, c, cur, rfl, w4', ⟨hv, by show v' < 2 * n; omega, g1, g2⟩, fun x2 H6 e6 hx6 => ?_⟩
        refine ⟨_, rfl, _, _, rfl, rfl, ⟨by decide, by decide⟩, hN (v' / 2).toNat _ _ (by omega) ⟨v' / 2, x2, put cur (v', gr cur v'), xs ++ [.ref p'], done ++ [(v', gr cur v')], rfl, rfl, by omega, e6 _ _ hr4, Paired.snoc (e6.wrs w3') (e6.wr wp), hx6, ?_, ?_, by omega, w8'.trans e6⟩⟩
        · rw [← w5, lowUp_lt hv g, List.append_assoc] <;> rfl
        · rw [List.length_append]
          show ((xs.length + 1 : Nat) : Int) + v' / 2 ≤ 64
          omega
      · refine ⟨_, rfl, _, _, rfl, rfl, ⟨by decide, by decide⟩, hN (v' / 2).toNat _ _ (by omega) ⟨v' / 2, x', cur, xs, done, rfl, rfl, by omega, w2, w3, w4, ?_, by omega, by omega, w8⟩⟩
        rw [← w5, lowUp_ge hv g]
    · rw [decide_eq_false hv]
      rw [lowUp_neg (by omega), List.append_nil] at w5
      subst w5
      refine kf _ ?_
      cases ab with
      | true => exact ⟨_, rfl, true, rfl, iteT ⟨_, rfl, _, _, rfl, sqL_at w2, fun r' hr' => q r' _ (w8.up (w8.free hr')) ⟨_, sqL_at upd_same, (same_up hr').wrs (Paired.rev w3)⟩⟩⟩
      | false => exact ⟨_, rfl, false, rfl, iteF ⟨_, rfl, q r _ w8 ⟨_, sqL_at w2, w3⟩⟩⟩
def spIsRow (K : PySem.W.Frag) : Sp := fun vs H Q _ => ∃ a l n c ts ws, vs = [.ref a, .ref l] ∧ TreeAt K H a n c ts ∧ RowL K H l ws ∧ (∀ w ∈ ws, WOk n c w) ∧ ws.length ≤ 100000 ∧ ∀ H', Same H H' → Q (.bl true) H'
theorem ok_is_row (T : Txt K mg) : C8.Cal P w K mg base 3 "is_row" (spIsRow K) [] := by
  refine mkcal T.f_is_row sc_is_row (fun vs H Q E h => ?_) (fun _ _ _ _ _ _ us hl => match us, hl with | [_, _], _ => rfl) (fun f cdv A outer s H vs Q E hr h => ?_)
  · obtain ⟨a, l, n, c, ts, ws, rfl, hT, ⟨xs, hl, hw⟩, wok, hz, q⟩ := h
    rfl
  obtain ⟨a, l, n, c, ts, ws, rfl, hT, ⟨xs, hl, hw⟩, wok, hz, q⟩ := h
  obtain ⟨dx, t, lv, ha, hf⟩ := id hT
  have hn := hf.tw.npos
  have hlen : xs.length = ws.length := Paired.length hw
  refine ⟨_, (pss_cons (ps_if (PW.pt (pw_or (pt_not (pt_val (pe_callB (call_isiK K) (by rfl) T.m_isinstance (by decide +kernel) (pa_cons (pv 1) (pa_cons (pe_bltn (v := .ty "list") (by rfl) T.m_list (by decide +kernel) rfl) pa_nil))))) (pw_or1 (pt_not (pt_val (pe_callB (cr_all rfl) (by rfl) T.m_all (by decide +kernel) (pa_cons (pe_lc (own := [("one", 2)]) (by rfl) sc_is_row.nd (pi_listK K (pv 1)) (blkOk_by (own := [("one", 2)]) (N := n_is_row) (sc := defScope s_is_row) (by decide +kernel)) (fun _ _ _ _ _ => (pg_name (i := 2) sc_is_row.nd rfl (Or.inl rfl))) (fun _ _ _ _ _ => pts_nil) (fun _ _ _ _ _ => (pe_and (pe_callB (call_isiK K) (by rfl) T.m_isinstance (by decide +kernel) (pa_cons (pv 2) (pa_cons (pe_bltn (v := .ty "tuple") (by rfl) T.m_tuple (by decide +kernel) rfl) pa_nil))) (pe_one (pe_cmpR (op_eq) (pe_callB (call_lenK K) (by rfl) T.m_len (by decide +kernel) (pa_cons (pv 2) pa_nil)) pe_int (nomark _)))))) pa_nil))))))) (pss_one (ps_ret pe_bl)) pss_nil)
      (pss_one (ps_ret (pe_callB (cr_all rfl) (by rfl) T.m_all (by decide +kernel) (pa_cons (pe_lc (own := [("one", 2)]) (by rfl) sc_is_row.nd (pi_listK K (pv 1)) (blkOk_by (own := [("one", 2)]) (N := n_is_row) (sc := defScope s_is_row) (by decide +kernel)) (fun _ _ _ _ _ => (pg_name (i := 2) sc_is_row.nd rfl (Or.inl rfl))) (fun _ _ _ _ _ => pts_nil) (fun _ _ _ _ _ => (pe_and (C8.pe_c (ok_is_count T) hr (by decide) rfl (pa_cons (pe_ix (ix_tupK K) (pv 2) pe_int (fun _ _ => rfl)) (pa_cons pe_int (pa_cons (pe_op op_sub (pe_op op_mul pe_int (pe_callB (call_lenO (ok_Tree_len T) hr (by decide)) (by rfl) T.m_len (by decide +kernel) (pa_cons (pv 0) pa_nil))) pe_int) pa_nil)))) (pe_one (C8.pe_c (ok_is_count T) hr (by decide) rfl (pa_cons (pe_ix (ix_tupK K) (pv 2) pe_int (fun _ _ => rfl)) (pa_cons pe_int (pa_cons (pe_fldK K (pv 0) (by rfl)) pa_nil)))))))) pa_nil))))), ?_⟩
  refine ⟨_, rfl, _, _, _, _, true, rfl, .ty _, ty_list hl, kit_ty (by decide +kernel), true, rfl, iteF ?_⟩
  refine ⟨_, rfl, _, rfl, ⟨_, hl⟩, fun D hD => ?_⟩
  refine lcM hD (Wk.list hl) ws (fun _ => V.bl true) hlen (small_of (by omega)) (fun i u x H2 h1 e y Nt ht => ?_) (fun H2 e h1 => ?_)
  · obtain ⟨w, hw1, p, rfl, hp⟩ := Paired.at hw y
    have hp2 := e.sqT hp
    exact ⟨rfl, _, rfl, _, _, _, _, true, rfl, .ty _, ty_tup hp2, kit_ty (by decide +kernel), true, rfl, iteT ⟨_, rfl, _, _, rfl, .inr ⟨_, hp2, rfl⟩, rfl, ht _ (Same.refl _)⟩⟩
  rw [(all_true _).1] at h1
  refine ⟨_, _, rfl, sqL_at h1, ?_⟩
  rw [(all_true _).2]
  refine ⟨true, rfl, iteF ?_⟩
  refine ⟨_, rfl, _, rfl, ⟨_, e.sqL hl⟩, fun D' hD' => ?_⟩
  refine lcM hD' (Wk.list (e.sqL hl)) ws (fun _ => V.bl true) hlen (small_of (by omega)) (fun i u x H3 h2 e3 y Nt ht => ?_) (fun H3 e3 h2 => ?_)
  · obtain ⟨w, hw1, p, rfl, hp⟩ := Paired.at hw y
    have hp2 := (e.trans e3).sqT hp
    have ha2 := (e.trans e3) _ _ ha
    have hT2 := (e.trans e3).tree hT
    obtain ⟨k1, k2, k3, k4⟩ := wok w (List.mem_of_getElem? hw1)
    refine ⟨rfl, _, rfl, _, _, _, _, rfl, rfl, hp2, rfl, _, rfl, _, _, _, rfl, ha2, a, n, c, ts, rfl, hT2, n, rfl, by omega, by omega, _, _, rfl, rfl, .inl ⟨by decide, by decide⟩, _, _, rfl, rfl, _, _, _, rfl, k1, by omega, true, rfl, iteT ?_⟩
    exact ⟨_, rfl, _, _, _, _, rfl, rfl, hp2, rfl, _, rfl, _, _, _, _, _, rfl, ha2, T.i_Tree.cl, T.na_Tree_classes, rfl, _, _, _, rfl, k3, k4, ht _ (Same.refl _)⟩
  rw [(all_true _).1] at h2
  refine ⟨_, _, rfl, sqL_at h2, ?_⟩
  rw [(all_true _).2]
  exact q _ (e.trans e3)
def spCheckRow (K : PySem.W.Frag) : Sp := fun vs H Q _ => ∃ a l n c ts ws, vs = [.ref a, .ref l] ∧ TreeAt K H a n c ts ∧ RowL K H l ws ∧ (∀ w ∈ ws, WOk n c w) ∧ ws.length ≤ 100000 ∧ ∀ H', Same H H' → Q .non H'
theorem ok_check_row (T : Txt K mg) : C8.Cal P w K mg base 4 "check_row" (spCheckRow K) [] := by
  refine mkcal T.f_check_row sc_check_row (fun vs H Q E h => ?_) (fun _ _ _ _ _ _ us hl => match us, hl with | [_, _], _ => rfl) (fun f cdv A outer s H vs Q E hr h => ?_)
  · obtain ⟨a, l, n, c, ts, ws, rfl, hT, hl, wok, hz, q⟩ := h
    rfl
  obtain ⟨a, l, n, c, ts, ws, rfl, hT, hl, wok, hz, q⟩ := h
  refine ⟨_, (pss_cons (ps_expr (C8.pe_c (ok_check_tree T) hr (by decide) rfl (pa_cons (pv 0) pa_nil)))
      (pss_one (ps_if (pt_not (pt_val (C8.pe_c (ok_is_row T) hr (by decide) rfl (pa_cons (pv 0) (pa_cons (pv 1) pa_nil))))) (pss_one ps_never) pss_nil))), ?_⟩
  refine ⟨_, rfl, a, n, c, ts, rfl, hT, ?_⟩
  exact ⟨_, rfl, _, rfl, a, l, n, c, ts, ws, rfl, hT, hl, wok, hz, fun H1 e1 => ⟨true, rfl, iteF (q _ e1)⟩⟩
def spWritten (K : PySem.W.Frag) : Sp := fun vs H Q _ => ∃ a l n c ts ws, vs = [.ref a, .ref l] ∧ TreeAt K H a n c ts ∧ RowL K H l ws ∧ (∀ w ∈ ws, WOk n c w) ∧ ws.length ≤ 100000 ∧ ∀ x H', Same H H' → TreeAt K H' x n c (puts ts ws) → Q (.ref x) H'
theorem ok_written (T : Txt K mg) : C8.Cal P w K mg base 7 "written" (spWritten K) [] := by
  refine mkcal T.f_written sc_written (fun vs H Q E h => ?_) (fun _ _ _ _ _ _ us hl => match us, hl with | [_, _], _ => rfl) (fun f cdv A outer s H vs Q E hr h => ?_)
  · obtain ⟨a, l, n, c, ts, ws, rfl, hT, hl, wok, hz, q⟩ := h
    rfl
  obtain ⟨a, l, n, c, ts, ws, rfl, hT, hl, wok, hz, q⟩ := h
  obtain ⟨xs, hq, hw⟩ := id hl
  have hlen : xs.length = ws.length := Paired.length hw
  refine ⟨_, (pss_cons (ps_expr (C8.pe_c (ok_check_row T) hr (by decide) rfl (pa_cons (pv 0) (pa_cons (pv 1) pa_nil))))
      (pss_cons (ps_for PassesOwn.never rfl (pi_listK K (pv 1)) (pg_tupK K (n := 2) rfl (pgs_cons (pg_name (i := 2) sc_written.nd rfl (Or.inl rfl)) (pgs_cons (pg_name (i := 3) sc_written.nd rfl (Or.inl rfl)) pgs_nil))) (pss_one (ps_set (i := 0) sc_written.nd rfl (Or.inl rfl) (C8.pe_mt (ok_Tree_with_told T) hr (by decide) (pv 0) (pa_cons (pv 2) (pa_cons (pv 3) pa_nil))))))
      (pss_one (ps_ret (pv 0))))), ?_⟩
  refine ⟨_, rfl, _, rfl, a, l, n, c, ts, ws, rfl, hT, hl, wok, hz, fun H1 e1 => ?_⟩
  refine ⟨_, rfl, _, rfl, ⟨_, e1.sqL hq⟩, ?_⟩
  refine for_list (xs := xs) (fun i σ H' => ∃ x z2 z3, σ = [some (.ref x), some (.ref l), z2, z3] ∧ TreeAt K H' x n c (puts ts (ws.take i)) ∧ Same H H') ⟨a, none, none, rfl, e1.tree hT, e1⟩ ?_ ?_ ?_
  · rintro i σ H' hi ⟨x, z2, z3, rfl, h1, h2⟩
    exact h2.sqL hq
  · rintro i y σ H' hi ⟨x, z2, z3, rfl, h1, h2⟩
    obtain ⟨wr, hw1, p, rfl, hp⟩ := Paired.at hw hi
    obtain ⟨dx, t, lv, ha, hf⟩ := id h1
    refine ⟨_, _, rfl, h2.sqT hp, rfl, _, _, rfl, _, _, rfl, rfl, ?_⟩
    refine ⟨_, rfl, _, _, _, rfl, ha, rfl, _, rfl, _, rfl, x, _, _, n, c, _, rfl, h1, wok _ (List.mem_of_getElem? hw1), fun x2 H2 e2 hx2 => ⟨x2, _, _, rfl, ?_, h2.trans e2⟩⟩
    rw [take_snoc hw1, puts_snoc]
    exact hx2
  · rintro σ H' ⟨x, z2, z3, rfl, h1, h2⟩
    rw [hlen, List.take_length] at h1
    exact ⟨_, rfl, q x H' h2 h1⟩
end


end
/-! part P11 -/
section
/-! ### the walk: disks, settings -/
theorem puts_app {ts : List Int} {a b : List Wr} : puts ts (a ++ b) = puts (puts ts a) b := List.foldl_append ..
theorem Ex.tree {K : PySem.W.Frag} {x : Addr} {H H' : Hp} {C dx b' t' r' : Addr} (hx : H x = some (.ins C dx (diskFs b' t' r'))) (e : Ex x H H') {a : Addr} {n c : Int} {ts : List Int} (h : TreeAt K H a n c ts) : TreeAt K H' a n c ts := by
  obtain ⟨dx, t, l, h1, h2⟩ := h
  obtain ⟨xs, h3, h4⟩ := h2.leaves
  refine ⟨dx, t, l, e _ _ (ne_of h1 hx fun z => ?_) h1, e.sqT ⟨_, _, _, hx⟩ h2.told, ⟨xs, e.sqT ⟨_, _, _, hx⟩ h3, h4⟩, h2.tw⟩
  injection z with _ _ z
  have := congrArg List.length z
  exact nomatch (show (4 : Nat) = 3 from this)
theorem Ex.wrs {K : PySem.W.Frag} {x : Addr} {H H' : Hp} {C dx : Addr} {fs : List (Str × V)} (hx : H x = some (.ins C dx fs)) (e : Ex x H H') {xs : List V} {ws : List Wr} (h : WrsAt K H xs ws) : WrsAt K H' xs ws :=
  Paired.mapP h fun _ _ ⟨p, h1, h2⟩ => ⟨p, h1, e.sqT ⟨_, _, _, hx⟩ h2⟩
section
variable {P : Program} {w : World} {K : PySem.W.Frag} {mg : Str → Option Value} {base : Heap}
def spOneOf (K : PySem.W.Frag) : Sp := fun vs H Q _ => ∃ x a xs, vs = [.str x, .ref a] ∧ SqT K H a xs ∧ xs.all flatV = true ∧ inV (.str x) xs = true ∧ Q (.bl true) H
theorem ok_is_one_of (T : Txt K mg) : C8.Cal P w K mg base 1 "is_one_of" (spOneOf K) [] := by
  refine mkcal T.f_is_one_of sc_is_one_of (fun vs H Q E h => ?_) (fun _ _ _ _ _ _ us hl => match us, hl with | [_, _], _ => rfl) (fun f cdv A outer s H vs Q E hr h => ?_)
  · obtain ⟨x, a, xs, rfl, ha, h1, h2, q⟩ := h
    rfl
  obtain ⟨x, a, xs, rfl, ha, h1, h2, q⟩ := h
  refine ⟨_, (pss_one (ps_ret (pe_and (pe_callB (call_isiK K) (by rfl) T.m_isinstance (by decide +kernel) (pa_cons (pv 0) (pa_cons (pe_bltn (v := .ty "str") (by rfl) T.m_str (by decide +kernel) rfl) pa_nil))) (pe_one (pe_cmpR ((op_in_seqK K)) (pv 0) (pv 1) (by rfl)))))), ?_⟩
  refine ⟨_, rfl, _, _, _, _, true, rfl, .ty _, .base (.str _), kit_ty (by decide +kernel), true, rfl, iteT ?_⟩
  refine ⟨_, rfl, _, rfl, _, _, rfl, .inr ha, rfl, h1, ?_⟩
  rw [h2]
  exact q
def spCheckOrder : Sp := fun vs H Q _ => ∃ b, vs = [ordV b] ∧ Q .non H
theorem ok_check_order (T : Txt K mg) : C8.Cal P w K mg base 2 "check_order" spCheckOrder [] := by
  refine mkcal T.f_check_order sc_check_order (fun vs H Q E h => ?_) (fun _ _ _ _ _ _ us hl => match us, hl with | [_], _ => rfl) (fun f cdv A outer s H vs Q E hr h => ?_)
  · obtain ⟨b, rfl, q⟩ := h
    rfl
  obtain ⟨b, rfl, q⟩ := h
  refine ⟨_, (pss_one (ps_if (pt_not (pt_val (C8.pe_c (ok_is_one_of T) hr (by decide) rfl (pa_cons (pv 0) (pa_cons (pe_glob (v := .ref (He.ga K "ORDERS")) rfl T.g_ORDERS rfl) pa_nil))))) (pss_one ps_never) pss_nil)), ?_⟩
  cases b with
  | true => exact ⟨_, rfl, "in order", _, _, rfl, T.q_ORDERS _, rfl, by decide +kernel, true, rfl, iteF q⟩
  | false => exact ⟨_, rfl, "anyhow", _, _, rfl, T.q_ORDERS _, rfl, by decide +kernel, true, rfl, iteF q⟩
abbrev d1 (b : Addr) : List (Str × V) := [("base", .ref b)]
abbrev d2 (b t : Addr) : List (Str × V) := [("base", .ref b), ("top", .ref t)]
def spDiskInit (K : PySem.W.Frag) : Sp := fun vs H Q _ => ∃ x dx a n c ts, vs = [.ref x, .ref a] ∧ H x = some (.ins (cD K) dx []) ∧ TreeAt K H a n c ts ∧ a ≠ x ∧ ∀ r H', Ex x H H' → H' x = some (.ins (cD K) dx (diskFs a a r)) → SqT K H' r [] → Q .non H'
theorem ok_Disk_init (T : Txt K mg) : C8.Mak P w K mg base 3 "Disk" (cD K) (spDiskInit K) [] := by
  refine mkmak T.g_Disk T.f_Disk_init sc_Disk_init (fun vs H Q E h => ?_) (fun _ _ _ _ _ _ us hl => match us, hl with | [_, _], _ => rfl) (fun f cdv A outer s H vs Q E hr h => ?_)
  · obtain ⟨x, dx, a, n, c, ts, rfl, hx, hT, hne, q⟩ := h
    rfl
  obtain ⟨x, dx, a, n, c, ts, rfl, hx, hT, hne, q⟩ := h
  refine ⟨_, (pss_cons (ps_expr (C8.pe_c (ok_check_tree T) hr (by decide) rfl (pa_cons (pv 1) pa_nil)))
      (pss_cons (ps_fld (pv 0) (pv 1) rfl)
      (pss_cons (ps_fld (pv 0) (pv 1) rfl)
      (pss_one (ps_fld (pv 0) (pe_tup pa_nil) rfl))))), ?_⟩
  refine ⟨_, rfl, a, n, c, ts, rfl, hT, ?_⟩
  refine ⟨_, rfl, _, rfl, _, _, _, _, rfl, hx, T.i_Disk.cl, T.na_Disk_base, Nat.le_of_ble_eq_true rfl, ?_⟩
  show sFld K (tVar 0) (tVar 1) "top" _ (start n_Disk_init [.ref x, .ref a]) (upd H x (.ins (cD K) dx (d1 a)))
  have hx1 := upd_same (H := H) (a := x) (o := .ins (cD K) dx (d1 a))
  have e1 : Ex x H (upd H x (.ins (cD K) dx (d1 a))) := Ex.refl.upx
  generalize upd H x (.ins (cD K) dx (d1 a)) = H1 at hx1 e1 ⊢
  refine ⟨_, rfl, _, rfl, _, _, _, _, rfl, hx1, T.i_Disk.cl, T.na_Disk_top, Nat.le_of_ble_eq_true rfl, ?_⟩
  show sFld K (tVar 0) (tTup tNil) "row" _ (start n_Disk_init [.ref x, .ref a]) (upd H1 x (.ins (cD K) dx (d2 a a)))
  have hx2 := upd_same (H := H1) (a := x) (o := .ins (cD K) dx (d2 a a))
  have e2 : Ex x H (upd H1 x (.ins (cD K) dx (d2 a a))) := e1.upx
  generalize upd H1 x (.ins (cD K) dx (d2 a a)) = H2 at hx2 e2 ⊢
  refine ⟨le_small (Nat.le_of_ble_eq_true rfl), fun r hr => ?_⟩
  have hx3 := same_up (o := .tup []) hr _ _ hx2
  refine ⟨_, rfl, _, _, _, _, rfl, hx3, T.i_Disk.cl, T.na_Disk_row, Nat.le_of_ble_eq_true rfl, ?_⟩
  refine q r _ ((e2.upn hr).upx) upd_same (sqT_at ((upd_ne ?_).trans upd_same))
  exact (ne_of_none hx2 hr).symm
theorem use_mkD {H1 : Hp} {a : Addr} {n c : Int} {ts : List Int} {R : Addr → Hp → Prop} (hT : TreeAt K H1 a n c ts) (q : ∀ x dx r H', Same H1 H' → H1 x = none → H' x = some (.ins (cD K) dx (diskFs a a r)) → SqT K H' r [] → R x H') {E : XK} :
    ∀ x dx, H1 x = none → H1 dx = none → dx ≠ x → spDiskInit K (.ref x :: ([.ref a] ++ [])) (upd (upd H1 dx (.own x)) x (.ins (cD K) dx [])) (fun v H2 => v = .non ∧ R x H2) E := by
  intro x dx hx hdx hne
  have e : Same H1 (upd (upd H1 dx (.own x)) x (.ins (cD K) dx [])) := (same_up hdx).up hx
  have ha : a ≠ x := by
    obtain ⟨_, _, _, ha, _⟩ := hT
    exact ne_of_none ha hx
  exact ⟨x, dx, a, n, c, ts, rfl, upd_same, e.tree hT, ha, fun r H' e' h1 h2 => ⟨rfl, q x dx r H' (fun b o hb => e' b o (ne_of_none hb hx) (e b o hb)) hx h1 h2⟩⟩
theorem disk_mk {H : Hp} {x dx a r : Addr} {n c : Int} {ts : List Int} (h1 : H x = some (.ins (cD K) dx (diskFs a a r))) (h2 : SqT K H r []) (h3 : TreeAt K H a n c ts) : DiskAt K H x n c ⟨ts, []⟩ :=
  ⟨dx, a, a, r, h1, h3, h3, ⟨[], h2, .nil⟩, fun _ h => (by cases h), Nat.zero_le _⟩
def spNow (K : PySem.W.Frag) : Sp := fun vs H Q _ => ∃ d n c D, vs = [.ref d] ∧ DiskAt K H d n c D ∧ ∀ t, TreeAt K H t n c D.now → Q (.ref t) H
theorem ok_Disk_now (T : Txt K mg) : Prp P w K mg base 1 (cD K) "now" (spNow K) := by
  refine mkprp T.i_Disk.cl T.f_Disk_now sc_Disk_now (fun vs H Q E h => ?_) (fun _ _ _ _ _ _ us hl => match us, hl with | [_], _ => rfl) (fun f cdv A outer s H vs Q E hr h => ?_)
  · obtain ⟨d, n, c, D, rfl, ⟨dx, b, t, r, hd, hf⟩, q⟩ := h
    rfl
  obtain ⟨d, n, c, D, rfl, ⟨dx, b, t, r, hd, hf⟩, q⟩ := h
  refine ⟨_, (pss_one (ps_ret (pe_fldK K (pv 0) (by rfl)))), ?_⟩
  exact ⟨_, rfl, _, _, _, _, _, rfl, hd, T.i_Disk.cl, T.na_Disk_top, rfl, q t hf.top⟩
def spWithRow (K : PySem.W.Frag) : Sp := fun vs H Q _ => ∃ d l n c D ws, vs = [.ref d, .ref l] ∧ DiskAt K H d n c D ∧ RowL K H l ws ∧ (∀ w ∈ ws, WOk n c w) ∧ D.row.length + ws.length ≤ 100000 ∧ ∀ x H', Same H H' → DiskAt K H' x n c ⟨D.base, D.row ++ ws⟩ → Q (.ref x) H'
theorem ok_Disk_with_row (T : Txt K mg) : C8.Met P w K mg base 9 (cD K) "with_row" (spWithRow K) [] := by
  refine mkmet T.i_Disk.cl T.f_Disk_with_row sc_Disk_with_row (fun vs H Q E h => ?_) (fun _ _ _ _ _ _ us hl => match us, hl with | [_, _], _ => rfl) (fun f cdv A outer s H vs Q E hr h => ?_)
  · obtain ⟨d, l, n, c, D, ws, rfl, ⟨dx, b, t, r, hd, hf⟩, hl, wok, hz, q⟩ := h
    rfl
  obtain ⟨d, l, n, c, D, ws, rfl, ⟨dx, b, t, r, hd, hf⟩, hl, wok, hz, q⟩ := h
  obtain ⟨ys, hy1, hy2⟩ := hf.row
  obtain ⟨xs, hx1, hx2⟩ := id hl
  have ly : ys.length = D.row.length := Paired.length hy2
  have lx : xs.length = ws.length := Paired.length hx2
  refine ⟨_, (pss_cons (ps_if (pt_not (pt_val (C8.pe_c (ok_is_row T) hr (by decide) rfl (pa_cons (pe_fldK K (pv 0) (by rfl)) (pa_cons (pv 1) pa_nil))))) (pss_one ps_never) pss_nil)
      (pss_cons (ps_set (i := 2) sc_Disk_with_row.nd rfl (Or.inl rfl) (C8.pe_mk (ok_Disk_init T) hr (by decide) rfl (pa_cons (pe_fldK K (pv 0) (by rfl)) pa_nil)))
      (pss_cons (ps_fld (pv 2) (C8.pe_c (ok_written T) hr (by decide) rfl (pa_cons (pe_fldK K (pv 0) (by rfl)) (pa_cons (pv 1) pa_nil))) rfl)
      (pss_cons (ps_fld (pv 2) (pe_tup (StX.pa_star (pe_fldK K (pv 0) (by rfl)) (StX.pa_star (pv 1) pa_nil))) rfl)
      (pss_one (ps_ret (pv 2))))))), ?_⟩
  refine ⟨_, rfl, _, _, _, _, _, rfl, hd, T.i_Disk.cl, T.na_Disk_top, rfl, _, rfl, t, l, n, c, D.now, ws, rfl, hf.top, hl, wok, by omega, fun H1 e1 => ⟨true, rfl, iteF ?_⟩⟩
  have hd1 := e1 _ _ hd
  refine ⟨_, rfl, _, _, _, _, _, rfl, hd1, T.i_Disk.cl, T.na_Disk_base, rfl, use_mkD (e1.tree hf.base) fun x dx' r' H2 e2 hx hx2' hr' => ?_⟩
  have hd2 := e2 _ _ hd1
  have e12 := e1.trans e2
  refine ⟨_, rfl, _, _, _, _, _, rfl, hd2, T.i_Disk.cl, T.na_Disk_top, rfl, _, rfl, t, l, n, c, D.now, ws, rfl, e12.tree hf.top, e12.rowL hl, wok, by omega, fun t3 H3 e3 ht3 => ?_⟩
  have hx3 := e3 _ _ hx2'
  have e13 := e12.trans e3
  refine ⟨_, rfl, _, _, _, _, rfl, hx3, T.i_Disk.cl, T.na_Disk_top, Nat.le_of_ble_eq_true rfl, ?_⟩
  have eo : putF "top" (.ref t3) (diskFs b b r') = diskFs b t3 r' := rfl
  rw [eo]
  have hx4 := upd_same (H := H3) (a := x) (o := .ins (cD K) dx' (diskFs b t3 r'))
  have e4 : Ex x H3 (upd H3 x (.ins (cD K) dx' (diskFs b t3 r'))) := Ex.refl.upx
  have s4 : Same H (upd H3 x (.ins (cD K) dx' (diskFs b t3 r'))) := e13.up (e1.free hx)
  have ht4 := Ex.tree hx3 e4 ht3
  generalize upd H3 x (.ins (cD K) dx' (diskFs b t3 r')) = H4 at hx4 e4 s4 ht4 ⊢
  have hd4 := s4 _ _ hd
  refine ⟨_, rfl, _, _, _, _, _, rfl, hd4, T.i_Disk.cl, T.na_Disk_row, rfl, _, _, rfl, .inl (s4.sqT hy1), _, rfl, _, _, rfl, .inr (s4.sqL hx1), ?_⟩
  refine ⟨?_, fun r5 hr5 => ?_⟩
  · rw [List.append_nil, List.length_append, sizeLine_eq]
    omega
  have e5 := same_up (o := .tup (ys ++ (xs ++ []))) hr5
  have hx5 := e5 _ _ hx4
  refine ⟨_, rfl, _, _, _, _, rfl, hx5, T.i_Disk.cl, T.na_Disk_row, Nat.le_of_ble_eq_true rfl, ?_⟩
  have s5 := (s4.trans e5).up (o := .ins (cD K) dx' (diskFs b t3 r5)) (e1.free hx)
  refine ⟨_, rfl, q x _ s5 ⟨dx', b, t3, r5, upd_same, s5.tree hf.base, ?_, ⟨ys ++ xs, ?_, ?_⟩, fun w hw => ?_, ?_⟩⟩
  · have : TreeAt K (upd (upd H4 r5 (.tup (ys ++ (xs ++ [])))) x (.ins (cD K) dx' (diskFs b t3 r5))) t3 n c (puts D.now ws) := Ex.tree hx5 Ex.refl.upx (e5.tree ht4)
    rwa [Dk.now, ← puts_app] at this
  · refine sqT_at ((upd_ne (ne_of_none hx4 hr5).symm).trans ?_)
    rw [upd_same, List.append_nil]
  · exact Paired.app (s5.wrs hy2) (s5.wrs hx2)
  · rcases List.mem_append.mp hw with h | h
    · exact hf.wok w h
    · exact wok w h
  · show (D.row ++ ws).length ≤ 100000
    rw [List.length_append]
    exact hz
def spWithFlush (K : PySem.W.Frag) : Sp := fun vs H Q _ => ∃ d n c D, vs = [.ref d] ∧ DiskAt K H d n c D ∧ ∀ x H', Same H H' → DiskAt K H' x n c ⟨D.now, []⟩ → Q (.ref x) H'
theorem ok_Disk_with_flush (T : Txt K mg) : C8.Met P w K mg base 5 (cD K) "with_flush" (spWithFlush K) [] := by
  refine mkmet T.i_Disk.cl T.f_Disk_with_flush sc_Disk_with_flush (fun vs H Q E h => ?_) (fun _ _ _ _ _ _ us hl => match us, hl with | [_], _ => rfl) (fun f cdv A outer s H vs Q E hr h => ?_)
  · obtain ⟨d, n, c, D, rfl, ⟨dx, b, t, r, hd, hf⟩, q⟩ := h
    rfl
  obtain ⟨d, n, c, D, rfl, ⟨dx, b, t, r, hd, hf⟩, q⟩ := h
  refine ⟨_, (pss_one (ps_ret (C8.pe_mk (ok_Disk_init T) hr (by decide) rfl (pa_cons (pe_fldK K (pv 0) (by rfl)) pa_nil)))), ?_⟩
  refine ⟨_, rfl, _, _, _, _, _, rfl, hd, T.i_Disk.cl, T.na_Disk_top, rfl, use_mkD hf.top fun x dx' r' H2 e2 hx hx2 hr' => q x H2 e2 (disk_mk hx2 hr' (e2.tree hf.top))⟩
def spCheckDisk (K : PySem.W.Frag) : Sp := fun vs H Q _ => ∃ d n c D, vs = [.ref d] ∧ DiskAt K H d n c D ∧ Q .non H
theorem ok_check_disk (T : Txt K mg) : C8.Cal P w K mg base 1 "check_disk" (spCheckDisk K) [] := by
  refine mkcal T.f_check_disk sc_check_disk (fun vs H Q E h => ?_) (fun _ _ _ _ _ _ us hl => match us, hl with | [_], _ => rfl) (fun f cdv A outer s H vs Q E hr h => ?_)
  · obtain ⟨d, n, c, D, rfl, ⟨dx, b, t, r, hd, hf⟩, q⟩ := h
    rfl
  obtain ⟨d, n, c, D, rfl, ⟨dx, b, t, r, hd, hf⟩, q⟩ := h
  refine ⟨_, (pss_one (ps_if (pt_not (pt_val (pe_callB (C8.call_isC T.i_Disk) (by rfl) T.m_isinstance (by decide +kernel) (pa_cons (pv 0) (pa_cons (pe_glob (v := .ref (cD K)) rfl T.g_Disk rfl) pa_nil))))) (pss_one ps_never) pss_nil)), ?_⟩
  exact ⟨_, rfl, _, _, _, rfl, hd, true, rfl, iteF q⟩
def spCheckSetting (K : PySem.W.Frag) : Sp := fun vs H Q _ => ∃ a p, vs = [.ref a] ∧ SetAt K H a p ∧ Q .non H
theorem ok_check_setting (T : Txt K mg) : C8.Cal P w K mg base 1 "check_setting" (spCheckSetting K) [] := by
  refine mkcal T.f_check_setting sc_check_setting (fun vs H Q E h => ?_) (fun _ _ _ _ _ _ us hl => match us, hl with | [_], _ => rfl) (fun f cdv A outer s H vs Q E hr h => ?_)
  · obtain ⟨a, p, rfl, ⟨dx, ha⟩, q⟩ := h
    rfl
  obtain ⟨a, p, rfl, ⟨dx, ha⟩, q⟩ := h
  refine ⟨_, (pss_one (ps_if (pt_not (pt_val (pe_callB (C8.call_isC T.i_Setting) (by rfl) T.m_isinstance (by decide +kernel) (pa_cons (pv 0) (pa_cons (pe_glob (v := .ref (cS K)) rfl T.g_Setting rfl) pa_nil))))) (pss_one ps_never) pss_nil)), ?_⟩
  exact ⟨_, rfl, _, _, _, rfl, ha, true, rfl, iteF q⟩
def spFlushes (K : PySem.W.Frag) : Sp := fun vs H Q _ => ∃ a p u, vs = [.ref a, wordV u] ∧ SetAt K H a p ∧ Q (.bl (if u then p.fr else p.fl)) H
theorem ok_Setting_flushes (T : Txt K mg) : C8.Met P w K mg base 1 (cS K) "flushes" (spFlushes K) [] := by
  refine mkmet T.i_Setting.cl T.f_Setting_flushes sc_Setting_flushes (fun vs H Q E h => ?_) (fun _ _ _ _ _ _ us hl => match us, hl with | [_, _], _ => rfl) (fun f cdv A outer s H vs Q E hr h => ?_)
  · obtain ⟨a, p, u, rfl, ⟨dx, ha⟩, q⟩ := h
    rfl
  obtain ⟨a, p, u, rfl, ⟨dx, ha⟩, q⟩ := h
  refine ⟨_, (pss_one (ps_ret (pe_ifExp (pt_cmpR (op_eq) (pv 1) pe_str (nomark _)) (pe_fldK K (pv 0) (by rfl)) (pe_fldK K (pv 0) (by rfl))))), ?_⟩
  cases u with
  | true => exact ⟨_, rfl, rfl, true, rfl, iteT ⟨_, rfl, _, _, _, _, _, rfl, ha, T.i_Setting.cl, T.na_Setting_flush_raises, rfl, q⟩⟩
  | false => exact ⟨_, rfl, rfl, false, rfl, iteF ⟨_, rfl, _, _, _, _, _, rfl, ha, T.i_Setting.cl, T.na_Setting_flush_lowers, rfl, q⟩⟩
def GoodP (p : Par) : Prop := p.me = false → p.ra = true ∧ p.la = false ∧ (p.io = false → p.fr = true ∧ p.fl = true)
def spMisses (K : PySem.W.Frag) : Sp := fun vs H Q _ => ∃ a p, vs = [.ref a] ∧ SetAt K H a p ∧ GoodP p ∧ Q (.bl false) H
theorem ok_Setting_misses (T : Txt K mg) : Prp P w K mg base 1 (cS K) "misses" (spMisses K) := by
  refine mkprp T.i_Setting.cl T.f_Setting_misses sc_Setting_misses (fun vs H Q E h => ?_) (fun _ _ _ _ _ _ us hl => match us, hl with | [_], _ => rfl) (fun f cdv A outer s H vs Q E hr h => ?_)
  · obtain ⟨a, ⟨ra, la, fr, fl, io, me⟩, rfl, ⟨dx, ha⟩, hg, q⟩ := h
    rfl
  obtain ⟨a, ⟨ra, la, fr, fl, io, me⟩, rfl, ⟨dx, ha⟩, hg, q⟩ := h
  refine ⟨_, (pss_cons (ps_if (pt_val (pe_fldK K (pv 0) (by rfl))) (pss_one (ps_ret pe_bl)) pss_nil)
      (pss_cons (ps_if (PW.pt (pw_or (pt_cmpR (op_eq) (pe_fldK K (pv 0) (by rfl)) pe_str (nomark _)) (pw_or1 (pt_cmpR (op_eq) (pe_fldK K (pv 0) (by rfl)) pe_str (nomark _))))) (pss_one (ps_ret pe_bl)) pss_nil)
      (pss_one (ps_ret (pe_and (pe_cmpR (op_eq) (pe_fldK K (pv 0) (by rfl)) pe_str (nomark _)) (pe_one (pe_not (pe_and (pe_fldK K (pv 0) (by rfl)) (pe_one (pe_fldK K (pv 0) (by rfl))))))))))), ?_⟩
  refine ⟨_, rfl, _, _, _, _, _, rfl, ha, T.i_Setting.cl, T.na_Setting_mends, rfl, me, rfl, ?_⟩
  cases me with
  | true => exact iteT q
  | false =>
    refine iteF ?_
    obtain ⟨h1, h2, h3⟩ := hg rfl
    dsimp only at h1 h2 h3
    subst h1 h2
    refine ⟨_, rfl, _, _, _, _, _, rfl, ha, T.i_Setting.cl, T.na_Setting_raises, rfl, rfl, false, rfl, iteF ?_⟩
    refine ⟨_, rfl, _, _, _, _, _, rfl, ha, T.i_Setting.cl, T.na_Setting_lowers, rfl, rfl, false, rfl, iteF ?_⟩
    refine ⟨_, rfl, _, _, _, _, _, rfl, ha, T.i_Setting.cl, T.na_Setting_order, rfl, ?_⟩
    cases io with
    | true => exact ⟨rfl, false, rfl, iteF q⟩
    | false =>
      obtain ⟨h4, h5⟩ := h3 rfl
      subst h4 h5
      refine ⟨rfl, true, rfl, iteT ?_⟩
      exact ⟨_, rfl, _, _, _, _, _, rfl, ha, T.i_Setting.cl, T.na_Setting_flush_raises, rfl, true, rfl, iteT ⟨_, rfl, _, _, _, _, _, rfl, ha, T.i_Setting.cl, T.na_Setting_flush_lowers, rfl, true, rfl, q⟩⟩
end


end
/-! part P12 -/
section
/-! ### the walk: settings made; what a node can be told -/
theorem mem_putK {κ : Type} [DecidableEq κ] {kvs : List (κ × V)} {k j : κ} {v : V} : j ∈ (putK kvs k v).map (·.1) ↔ j = k ∨ j ∈ kvs.map (·.1) := by
  unfold putK
  split
  · rename_i h
    have e : (kvs.map fun kv => if kv.1 = k then (kv.1, v) else kv).map (·.1) = kvs.map (·.1) := by
      rw [List.map_map]
      refine List.map_congr_left fun kv _ => ?_
      show (if kv.1 = k then (kv.1, v) else kv).1 = kv.1
      split <;> rfl
    rw [e]
    refine ⟨.inr, fun z => z.elim (fun z => ?_) id⟩
    obtain ⟨p, hp, hk⟩ := List.any_eq_true.mp h
    rw [z, ← of_decide_eq_true hk]
    exact List.mem_map_of_mem hp
  · rw [List.map_append, List.mem_append]
    refine ⟨fun z => z.elim .inr fun z => .inl (by simpa using z), fun z => z.elim (fun z => .inr (by simpa using z)) .inl⟩
theorem mem_mergeK {j : L2.Key} : ∀ {more kvs : List (L2.Key × V)}, j ∈ (mergeK kvs more).map (·.1) ↔ j ∈ kvs.map (·.1) ∨ j ∈ more.map (·.1)
  | [], kvs => by simp [mergeK]
  | q :: r, kvs => by
    have : mergeK kvs (q :: r) = mergeK (putK kvs q.1 q.2) r := rfl
    rw [this, mem_mergeK, mem_putK, List.map_cons, List.mem_cons]
    constructor
    · rintro ((h | h) | h)
      · exact .inr (.inl h)
      · exact .inl h
      · exact .inr (.inr h)
    · rintro (h | h | h)
      · exact .inl (.inr h)
      · exact .inl (.inl h)
      · exact .inr h
def keyI : L2.Key → Int
  | .inl i => i
  | .inr _ => 0
theorem Wk.keys {H1 : Hp} {d : Addr} {o : Obj} {kvs : List (L2.Key × V)} (h : H1 d = some (.frz o (.dK kvs))) : Wk (Itk d o kvs) H1 kvs.length fun i x _ => ∃ k v, kvs[i]? = some (k, v) ∧ x = kV k := by
  refine ⟨fun i H hi e => ⟨⟨e _ _ h, hi⟩, fun x H' y => ?_⟩, fun H e => ⟨e _ _ h, Nat.le_refl _⟩⟩
  obtain ⟨rfl, k, v, y1, y2⟩ := y
  exact ⟨Same.refl _, k, v, y1, y2⟩
section
variable {P : Program} {w : World} {K : PySem.W.Frag} {mg : Str → Option Value} {base : Heap}
theorem side_ok (b : Bool) : ∃ x, side b = .str x ∧ inV (.str x) [.str "above", .str "below"] = true := by
  cases b
  · exact ⟨"below", rfl, by decide +kernel⟩
  · exact ⟨"above", rfl, by decide +kernel⟩
theorem ord_ok (b : Bool) : ∃ x, ordV b = .str x ∧ inV (.str x) [.str "in order", .str "anyhow"] = true := by
  cases b
  · exact ⟨"anyhow", rfl, by decide +kernel⟩
  · exact ⟨"in order", rfl, by decide +kernel⟩
def spSetInit (K : PySem.W.Frag) : Sp := fun vs H Q _ => ∃ x dx p, vs = [.ref x, side p.ra, side p.la, .bl p.fr, .bl p.fl, ordV p.io, .bl p.me] ∧ H x = some (.ins (cS K) dx []) ∧ ∀ H', Ex x H H' → SetAt K H' x p → Q .non H'
theorem ok_Setting_init (T : Txt K mg) : MakK P w K mg base 3 "Setting" (cS K) (spSetInit K) ["raises", "lowers", "flush_raises", "flush_lowers", "order", "mends"] := by
  refine mkmakK T.g_Setting T.f_Setting_init sc_Setting_init (fun vs H Q E h => ?_) (fun _ _ _ _ _ _ us ws hl hw => match us, ws, hl, hw with | [_], [_, _, _, _, _, _], _, _ => rfl) (fun f cdv A outer s H vs Q E hr h => ?_)
  · obtain ⟨x, dx, p, rfl, hx, q⟩ := h
    rfl
  obtain ⟨x, dx, p, rfl, hx, q⟩ := h
  obtain ⟨s1, h1, i1⟩ := side_ok p.ra
  obtain ⟨s2, h2, i2⟩ := side_ok p.la
  obtain ⟨s3, h3, i3⟩ := ord_ok p.io
  refine ⟨_, (pss_cons (ps_if (pt_not (pt_val (C8.pe_c (ok_is_one_of T) hr (by decide) rfl (pa_cons (pv 1) (pa_cons (pe_glob (v := .ref (He.ga K "SIDES")) rfl T.g_SIDES rfl) pa_nil))))) (pss_one ps_never) pss_nil)
      (pss_cons (ps_if (pt_not (pt_val (C8.pe_c (ok_is_one_of T) hr (by decide) rfl (pa_cons (pv 2) (pa_cons (pe_glob (v := .ref (He.ga K "SIDES")) rfl T.g_SIDES rfl) pa_nil))))) (pss_one ps_never) pss_nil)
      (pss_cons (ps_if (pt_not (pt_val (pe_callB (call_isiK K) (by rfl) T.m_isinstance (by decide +kernel) (pa_cons (pv 3) (pa_cons (pe_bltn (v := .ty "bool") (by rfl) T.m_bool (by decide +kernel) rfl) pa_nil))))) (pss_one ps_never) pss_nil)
      (pss_cons (ps_if (pt_not (pt_val (pe_callB (call_isiK K) (by rfl) T.m_isinstance (by decide +kernel) (pa_cons (pv 4) (pa_cons (pe_bltn (v := .ty "bool") (by rfl) T.m_bool (by decide +kernel) rfl) pa_nil))))) (pss_one ps_never) pss_nil)
      (pss_cons (ps_if (pt_not (pt_val (C8.pe_c (ok_is_one_of T) hr (by decide) rfl (pa_cons (pv 5) (pa_cons (pe_glob (v := .ref (He.ga K "ORDERS")) rfl T.g_ORDERS rfl) pa_nil))))) (pss_one ps_never) pss_nil)
      (pss_cons (ps_if (pt_not (pt_val (pe_callB (call_isiK K) (by rfl) T.m_isinstance (by decide +kernel) (pa_cons (pv 6) (pa_cons (pe_bltn (v := .ty "bool") (by rfl) T.m_bool (by decide +kernel) rfl) pa_nil))))) (pss_one ps_never) pss_nil)
      (pss_cons (ps_fld (pv 0) (pv 1) rfl)
      (pss_cons (ps_fld (pv 0) (pv 2) rfl)
      (pss_cons (ps_fld (pv 0) (pv 3) rfl)
      (pss_cons (ps_fld (pv 0) (pv 4) rfl)
      (pss_cons (ps_fld (pv 0) (pv 5) rfl)
      (pss_one (ps_fld (pv 0) (pv 6) rfl))))))))))))), ?_⟩
  refine ⟨_, rfl, s1, _, _, congrArg (fun z => [z, V.ref (He.ga K "SIDES")]) h1, T.q_SIDES _, rfl, i1, true, rfl, iteF ?_⟩
  refine ⟨_, rfl, s2, _, _, congrArg (fun z => [z, V.ref (He.ga K "SIDES")]) h2, T.q_SIDES _, rfl, i2, true, rfl, iteF ?_⟩
  refine ⟨_, rfl, _, _, _, _, true, rfl, .ty _, .base (.bl _), kit_ty (by decide +kernel), true, rfl, iteF ?_⟩
  refine ⟨_, rfl, _, _, _, _, true, rfl, .ty _, .base (.bl _), kit_ty (by decide +kernel), true, rfl, iteF ?_⟩
  refine ⟨_, rfl, s3, _, _, congrArg (fun z => [z, V.ref (He.ga K "ORDERS")]) h3, T.q_ORDERS _, rfl, i3, true, rfl, iteF ?_⟩
  refine ⟨_, rfl, _, _, _, _, true, rfl, .ty _, .base (.bl _), kit_ty (by decide +kernel), true, rfl, iteF ?_⟩
  refine ⟨_, rfl, _, rfl, _, _, _, _, rfl, hx, T.i_Setting.cl, T.na_Setting_raises, Nat.le_of_ble_eq_true rfl, ?_⟩
  refine ⟨_, rfl, _, rfl, _, _, _, _, rfl, upd_same, T.i_Setting.cl, T.na_Setting_lowers, Nat.le_of_ble_eq_true rfl, ?_⟩
  refine ⟨_, rfl, _, rfl, _, _, _, _, rfl, upd_same, T.i_Setting.cl, T.na_Setting_flush_raises, Nat.le_of_ble_eq_true rfl, ?_⟩
  refine ⟨_, rfl, _, rfl, _, _, _, _, rfl, upd_same, T.i_Setting.cl, T.na_Setting_flush_lowers, Nat.le_of_ble_eq_true rfl, ?_⟩
  refine ⟨_, rfl, _, rfl, _, _, _, _, rfl, upd_same, T.i_Setting.cl, T.na_Setting_order, Nat.le_of_ble_eq_true rfl, ?_⟩
  refine ⟨_, rfl, _, rfl, _, _, _, _, rfl, upd_same, T.i_Setting.cl, T.na_Setting_mends, Nat.le_of_ble_eq_true rfl, ?_⟩
  exact q _ (Ex.refl.upx.upx.upx.upx.upx.upx) ⟨dx, upd_same⟩
def WrittenIn (D : Dk) (v x : Int) : Prop := x = lvl D.base v ∨ ∃ u ∈ D.row, u.1 = v ∧ x = u.2
structure Menu (D : Dk) (v : Int) (M : List Int) : Prop where
  ne : M ≠ []
  mem : ∀ x, x ∈ M ↔ WrittenIn D v x
def spCanTell (K : PySem.W.Frag) : Sp := fun vs H Q _ => ∃ d v n c D, vs = [.ref d, .int v] ∧ DiskAt K H d n c D ∧ 1 ≤ v ∧ v < 2 * n ∧ ∀ M l H', Same H H' → H l = none → H' l = some (.lst (iV M)) → Menu D v M → Q (.ref l) H'
theorem ok_Disk_can_tell (T : Txt K mg) : C8.Met P w K mg base 4 (cD K) "can_tell" (spCanTell K) [] := by
  refine mkmet T.i_Disk.cl T.f_Disk_can_tell sc_Disk_can_tell (fun vs H Q E h => ?_) (fun _ _ _ _ _ _ us hl => match us, hl with | [_, _], _ => rfl) (fun f cdv A outer s H vs Q E hr h => ?_)
  · obtain ⟨d, v, n, c, D, rfl, ⟨dx, b, t, r, hd, hf⟩, v1, v2, q⟩ := h
    rfl
  obtain ⟨d, v, n, c, D, rfl, ⟨dx, b, t, r, hd, hf⟩, v1, v2, q⟩ := h
  obtain ⟨ys, hy1, hy2⟩ := hf.row
  have ly : ys.length = D.row.length := Paired.length hy2
  have hsm := hf.small
  obtain ⟨dxb, tb, lb, hb, hbf⟩ := id hf.base
  refine ⟨_, (pss_cons (ps_set (i := 2) sc_Disk_can_tell.nd rfl (Or.inl rfl) (pe_disp (pps_cons (pe_subO (ok_Tree_getitem T) hr (by decide) T.d_Tree_getitem (pe_fldK K (pv 0) (by rfl)) (pv 1) (fun _ _ => rfl)) pe_int pps_nil) (by rfl) (by rfl) (fun z => by cases z) (by decide)))
      (pss_cons (ps_expr (pe_bm PySem.F.plainAttrs_dict PySem.F.slot_dict_update PySem.F.type_dict_update mt_updK (pv 2) (pa_cons (pe_dc (own := [("one", 3), ("told", 4)]) (by rfl) sc_Disk_can_tell.nd (pi_tup (pe_fldK K (pv 0) (by rfl))) (blkOk_by (own := [("one", 3), ("told", 4)]) (N := n_Disk_can_tell) (sc := defScope s_Disk_can_tell) (by decide +kernel)) (fun _ _ _ _ _ => (pg_tupK K (n := 2) rfl (pgs_cons (pg_name (i := 3) sc_Disk_can_tell.nd rfl (Or.inl rfl)) (pgs_cons (pg_name (i := 4) sc_Disk_can_tell.nd rfl (Or.inl rfl)) pgs_nil)))) (fun _ _ _ _ _ => pts_one (pt_cmpR (op_eq) (pv 3) (pv 1) (nomark _))) (fun _ _ _ _ _ => (pv 4)) (fun _ _ _ _ _ => pe_int)) pa_nil)))
      (pss_one (ps_ret (pe_callB cr_sortedI (by rfl) T.m_sorted (by decide +kernel) (pa_cons (pe_lock (pe_lc (own := [("told", 4)]) (by rfl) sc_Disk_can_tell.nd (pi_keys (pv 2)) (blkOk_by (own := [("told", 4)]) (N := n_Disk_can_tell) (sc := defScope s_Disk_can_tell) (by decide +kernel)) (fun _ _ _ _ _ => (pg_name (i := 4) sc_Disk_can_tell.nd rfl (Or.inl rfl))) (fun _ _ _ _ _ => pts_nil) (fun _ _ _ _ _ => (pe_callTy call_int1 (by rfl) T.m_int (by decide +kernel) (pa_cons (pv 4) pa_nil))))) pa_nil)))))), ?_⟩
  show ∀ p, H p = none → _
  intro p hp
  have e1 := same_up (o := .dK []) hp
  have hd1 := e1 _ _ hd
  have hb1 := e1 _ _ hb
  refine ⟨_, rfl, _, _, _, _, _, rfl, hd1, T.i_Disk.cl, T.na_Disk_base, rfl, _, rfl, _, _, _, rfl, hb1, b, v, n, c, D.base, rfl, e1.tree hf.base, v1, v2, upd_same, [(.inl (lvl D.base v), .int 1)], rfl, Nat.le_of_ble_eq_true rfl, ?_⟩
  have hp2 := upd_same (H := upd H p (.dK [])) (a := p) (o := .dK (mergeK [] [(.inl (lvl D.base v), .int 1)]))
  have e2 : Same H (upd (upd H p (.dK [])) p (.dK (mergeK [] [(.inl (lvl D.base v), .int 1)]))) := e1.up hp
  generalize upd (upd H p (.dK [])) p (.dK (mergeK [] [(.inl (lvl D.base v), .int 1)])) = H2 at hp2 e2 ⊢
  have hd2 := e2 _ _ hd
  refine ⟨_, rfl, .inr (.inr (.inl ⟨rfl, .inl ⟨_, hp2⟩⟩)), _, rfl, _, _, _, _, _, rfl, hd2, T.i_Disk.cl, T.na_Disk_row, rfl, _, rfl, ⟨_, e2.sqT hy1⟩, fun C hC => ?_⟩
  refine dc_tup (xs := ys) (fun i H' => Same H2 H' ∧ ∃ kvs : List (L2.Key × V), H' C = some (.dK kvs) ∧ kvs.length ≤ i ∧ ∀ j, j ∈ kvs.map (·.1) ↔ ∃ u ∈ D.row.take i, u.1 = v ∧ j = .inl u.2) ⟨same_up hC, [], upd_same, Nat.le_refl _, fun j => by simp⟩ (fun i H' _ h => (e2.trans h.1).sqT hy1) (fun i y H3 hi h => ?_) (fun H3 h => ?_)
  · obtain ⟨e3, kvs, hk, hl, hm⟩ := h
    obtain ⟨u, hu, z, rfl, hz⟩ := Paired.at hy2 hi
    have hi2 : i < ys.length := (List.getElem?_eq_some_iff.mp hi).1
    refine ⟨_, _, rfl, (e2.trans e3).sqT hz, rfl, _, _, rfl, _, _, rfl, rfl, rfl, ?_⟩
    refine ⟨_, rfl, _, rfl, rfl, ?_⟩
    by_cases huv : u.1 = v
    · subst huv
      refine ⟨true, ?_, iteT ⟨_, rfl, kvs, .inl u.2, rfl, hk, small_of (by omega), e3.up hC, _, upd_same, Nat.le_trans (length_putK _ _ _) (Nat.succ_le_succ hl), fun j => ?_⟩⟩
      · exact congrArg V.bl (decide_eq_true rfl)
      · rw [mem_putK, hm, take_snoc hu]
        constructor
        · rintro (h | ⟨u', h1, h2⟩)
          · exact ⟨u, List.mem_append_right _ (List.mem_cons_self ..), rfl, h⟩
          · exact ⟨u', List.mem_append_left _ h1, h2⟩
        · rintro ⟨u', h1, h2⟩
          rcases List.mem_append.mp h1 with h | h
          · exact .inr ⟨u', h, h2⟩
          · rw [List.mem_singleton.mp h] at h2
            exact .inl h2.2
    · refine ⟨false, ?_, iteF ⟨e3, kvs, hk, by omega, fun j => ?_⟩⟩
      · refine congrArg V.bl (decide_eq_false fun z => huv ?_)
        injection z
      · rw [hm, take_snoc hu]
        constructor
        · rintro ⟨u', h1, h2⟩
          exact ⟨u', List.mem_append_left _ h1, h2⟩
        · rintro ⟨u', h1, h2⟩
          rcases List.mem_append.mp h1 with h | h
          · exact ⟨u', h, h2⟩
          · rw [List.mem_singleton.mp h] at h2
            exact absurd h2.1 huv
  obtain ⟨e3, kvs, hk, hl, hm⟩ := h
  rw [ly, List.take_length] at hm
  have hp3 := e3 _ _ hp2
  refine ⟨p, C, _, kvs, rfl, rfl, ne_of_none hp2 hC, hp3, hk, ?_, ?_⟩
  · show 1 + kvs.length ≤ sizeLine
    rw [sizeLine_eq]
    omega
  have hM : ∀ j, j ∈ (mergeK (mergeK [] [(.inl (lvl D.base v), .int 1)]) kvs).map (·.1) ↔ ∃ x, WrittenIn D v x ∧ j = .inl x := fun j => by
    rw [mem_mergeK, hm]
    constructor
    · rintro (h | ⟨u, h1, h2, h3⟩)
      · exact ⟨_, .inl rfl, List.mem_singleton.mp h⟩
      · exact ⟨_, .inr ⟨u, h1, h2, rfl⟩, h3⟩
    · rintro ⟨x, h | ⟨u, h1, h2, h3⟩, rfl⟩
      · subst h
        exact .inl (List.mem_singleton.mpr rfl)
      · subst h3
        exact .inr ⟨u, h1, h2, rfl⟩
  have hml : (mergeK (mergeK [] [(.inl (lvl D.base v), .int 1)]) kvs).length ≤ 1 + kvs.length := length_mergeK kvs _
  generalize mergeK (mergeK [] [(.inl (lvl D.base v), .int 1)]) kvs = ks at hM hml ⊢
  have hp4 := upd_same (H := H3) (a := p) (o := .dK ks)
  have e4 : Same H (upd H3 p (.dK ks)) := (e2.trans e3).up hp
  generalize upd H3 p (.dK ks) = H4 at hp4 e4 ⊢
  refine ⟨p, _, hp4, True.intro, fun od => ⟨_, rfl, p, od, rfl, .inl ⟨ks, upd_same, fun L hL => ?_⟩⟩⟩
  have hne : L ≠ p := by
    intro z
    rw [z, upd_same] at hL
    cases hL
  have hkey : ∀ (i : Nat) (k : L2.Key) (x : V), ks[i]? = some (k, x) → kV k = .int (keyI k) := fun i k x h => by
    obtain ⟨z, _, hz⟩ := (hM k).mp (List.mem_map_of_mem (f := (·.1)) (List.mem_of_getElem? h))
    rw [hz] <;> rfl
  refine lcM hL (Wk.keys upd_same) ks (fun kv => V.int (keyI kv.1)) rfl (small_of (by omega)) (fun i u x H5 h1 e y Nt ht => ?_) (fun H5 e h1 => ?_)
  · obtain ⟨k, z, y1, rfl⟩ := y
    rw [h1] at y1
    cases y1
    rw [hkey i k z h1]
    exact ⟨rfl, _, rfl, .inl ⟨_, rfl, ht _ (Same.refl _)⟩⟩
  have hfz := e _ _ (upd_same (H := H4) (a := p) (o := .frz od (.dK ks)))
  refine ⟨hfz, L, ks.map fun kv => keyI kv.1, rfl, sqL_at ?_, fun M l hperm _ hl2 => ?_⟩
  · rw [upd_ne hne, h1, List.map_map] <;> rfl
  have e6 : Same H (upd H5 p (.dK ks)) := fun a o ha => by
    rw [upd_ne (ne_of_none ha hp)]
    refine e a o ?_
    rw [upd_ne (ne_of_none ha hp)]
    exact e4 a o ha
  have hmem : ∀ x, x ∈ M ↔ WrittenIn D v x := fun x => by
    rw [hperm.mem_iff, List.mem_map]
    constructor
    · rintro ⟨kv, hkv, rfl⟩
      obtain ⟨z, hz, hz2⟩ := (hM kv.1).mp (List.mem_map_of_mem hkv)
      rw [hz2]
      exact hz
    · intro hx
      obtain ⟨kv, h1, h2⟩ := List.mem_map.mp ((hM (.inl x)).mpr ⟨x, hx, rfl⟩)
      exact ⟨kv, h1, by rw [h2] <;> rfl⟩
  exact q M l _ (e6.up (e6.free hl2)) (e6.free hl2) upd_same ⟨List.ne_nil_of_mem ((hmem _).mpr (.inl rfl)), hmem⟩
end


end
/-! part P13 -/
section
/-! ### expressions that leave the generators as they are -/
section
variable {X : Cx}
def PEg (X : Cx) (e : Expr) (t : TE) : Prop := ∀ (pins : List (Addr × Obj)) (s : Shared) (σ : L2.St) (H : Hp) (Q : VK), Inv X pins σ H s → t σ H Q →
  wpAny (model X.prog X.w) X.A (eval e X.env) (fun v s' => s'.gens = s.gens ∧ EP X pins σ Q v s') X.xe s
theorem pvg (i : Nat) {x : Str} {pos : Pos} (hN : X.N[i]? = some x := by rfl) (hv : X.env.scope.names.lookup x = some .local := by rfl) (hd : (x == ("__debug__" : Str)) = false := by decide) : PEg X (.Name x pos) (tVar i) := by
  intro pins s σ H Q I h
  obtain ⟨v, e, h⟩ := h
  obtain ⟨m, hn, hl⟩ := I.loc
  obtain ⟨u, r, l⟩ := hl i x v hN e (.inl hv)
  rcases l with ⟨hk, hm⟩ | ⟨hk, c, hc, hcell⟩
  · exact wpAny_Name (wpAny_loadName_local I.ok.kind hk hn hm ⟨rfl, v, H, I, r, h⟩) hd
  · rcases hk with hk | hk
    · have : some NameKind.local = some NameKind.cell := hv.symm.trans hk
      cases this
    · have : some NameKind.local = some NameKind.free := hv.symm.trans hk
      cases this
theorem peg_fld {e : Expr} {te : TE} {f : Str} {pos : Pos} (he : PEg X e te) (hb : attributeBase e f X.env (eval e X.env) = eval e X.env) : PEg X (.Attribute e f pos) (tFld X.K te f) := by
  intro pins s σ H Q I h
  refine attr_of hb (thn (he pins s σ H _ I h) fun u s1 ⟨g1, x, H1, I1, rx, a, C, dx, fs, v, ex, ea, c, n, l, q⟩ => ?_)
  subst ex
  obtain rfl : u = Value.ref a := rx
  obtain ⟨mA, O, r, _, _, _⟩ := ins_get I1.hok ea
  obtain ⟨w', hu, ru⟩ := RelO.some_of (v := v) (o := mA f) (by rw [← l]; exact r f)
  exact get_map I1.kIn O (c.get f) c.hd n hu (handed_of ru) ⟨g1, v, H1, I1.tok _, ru, q⟩
theorem one_g {e : Expr} {te : TE} (he : PEg X e te) {pos : Pos} {pins : List (Addr × Obj)} {s : Shared} {σ : L2.St} {H : Hp} {R : V → Hp → Prop} (I : Inv X pins σ H s) (h : te σ H R) {Q : List Value → Shared → Prop}
    (hf : ∀ v s2 x H2, s2.gens = s.gens → Inv X pins σ H2 s2 → RelV x v → R x H2 → Q [v] s2) (na : starEach [e] X.env = (false, eval e X.env) :: starEach [] X.env) :
    wpAny (model X.prog X.w) X.A (spliced (backTo pos (starEach [e] X.env))) Q X.xe s :=
  args_cons (thn (he pins s σ H _ I h) fun v s1 ⟨g1, x, H1, I1, r1, q1⟩ => args_nil (hf v s1 x H1 g1 I1 r1 q1)) na
theorem peg_list {e : Expr} {te : TE} {p pos : Pos} (hg : Gl X "list") (hm : X.mg "list" = none) (he : PEg X e te) (na : starEach [e] X.env = (false, eval e X.env) :: starEach [] X.env := by rfl) :
    PEg X (.Call (.Name "list" p) [e] [] pos) (fun σ H Q => te σ H fun x H1 => ∃ a ys, x = .ref a ∧ SqT X.K H1 a ys ∧ ∀ l, H1 l = none → Q (.ref l) (upd H1 l (.lst ys))) := by
  intro pins s σ H Q I h
  refine Call_ (ld_blt I hg hm boot_list (PyProof.Rows.callWith_type1 (one_g he I h (fun v s2 x H2 g2 I2 r q => ?_) na) na))
  obtain ⟨a, ys, rfl, hq, q⟩ := q
  obtain rfl : v = .ref a := r
  obtain ⟨its, r', pl, hz⟩ := I2.tuple hq
  have hlen := r'.length
  obtain ⟨o, ho, hc, n, hd⟩ := pl
  refine call_list_seq a (.inr rfl) ho hc hd (fun h' c' kp e => ⟨g2, ?_⟩) (by simp only [List.size_toArray] <;> omega)
  exact ⟨.ref _, _, I2.laid (t' := s2.toks) kp (Nat.le_refl _) (show ObjOk X.prog X.w _ h' _ (.lst ys) from ⟨hz, its, c', r', e⟩), rfl, q _ (I2.hok.fresh (Nat.le_refl _))⟩
theorem peg_tuple {e : Expr} {te : TE} {p pos : Pos} (hg : Gl X "tuple") (hm : X.mg "tuple" = none) (he : PEg X e te) (na : starEach [e] X.env = (false, eval e X.env) :: starEach [] X.env := by rfl) :
    PEg X (.Call (.Name "tuple" p) [e] [] pos) (fun σ H Q => te σ H fun x H1 => ∃ a xs, x = .ref a ∧ SqL X.K H1 a xs ∧ ∀ q, H1 q = none → Q (.ref q) (upd H1 q (.tup xs))) := by
  intro pins s σ H Q I h
  refine Call_ (ld_blt I hg hm boot_tuple (PyProof.Rows.callWith_type1 (one_g he I h (fun v s2 x H2 g2 I2 r q => ?_) na) na))
  obtain ⟨a, xs, rfl, hs, q⟩ := q
  obtain rfl : v = .ref a := r
  obtain ⟨its, rv, pl, hz⟩ := I2.list hs
  refine call_tuple_list pl.isList (fun h' hk => ⟨g2, ?_⟩) (by rw [List.size_toArray, ← rv.length]; exact hz)
  have I3 : Inv X pins σ H2 { s2 with heap := h' } := I2.kept (t' := s2.toks) hk
  have I4 : Inv X pins σ (upd H2 h'.objs.size (.tup xs)) { s2 with heap := h'.push { cls := .type "tuple", data := .seq its.toArray } } :=
    I3.laid (t' := s2.toks) (fun b o e => Heap.get?_push_of_some _ e) (Nat.le_refl _) (show ObjOk X.prog X.w _ _ _ (.tup xs) from ⟨hz, its, rv, IsTup.new _ _⟩)
  exact ⟨.ref h'.objs.size, upd H2 h'.objs.size (.tup xs), I4, rfl, q _ (I3.hok.fresh (Nat.le_refl _))⟩
/-- d.setdefault(k, x) of a dict with tuple keys -/
theorem peg_setdefault {o e1 e2 : Expr} {to t1 t2 : TE} {apos cpos : Pos} (hu : X.A.units + 1 < cLine) (ho : PEg X o to) (h1 : PEg X e1 t1) (h2 : PEg X e2 t2)
    (hbase : attributeBase o "setdefault" X.env (eval o X.env) = eval o X.env := by rfl)
    (hfew : ((backTo cpos (starEach [e1, e2] X.env)).all (fun x => !x.1) && (backToKw cpos (keywordEach [] X.env)).all (fun x => x.1.isSome)
      && decide (([e1, e2] : List Expr).length + ([] : List Keyword).length + (if ([] : List Keyword).isEmpty then 0 else 1) < 30)) = true := by rfl)
    (hline : (apos.endLine == cpos.line) = true := by rfl) (hs : starEach [e1, e2] X.env = (false, eval e1 X.env) :: starEach [e2] X.env := by rfl) (hs2 : starEach [e2] X.env = (false, eval e2 X.env) :: starEach [] X.env := by rfl)
    (hplain : (backTo cpos (starEach [e2] X.env)).any (·.1) = false := by rfl) :
    PEg X (.Call (.Attribute o "setdefault" apos) [e1, e2] [] cpos) (fun σ H Q => to σ H fun x H1 => ∃ a, x = .ref a ∧ (∃ kvs, H1 a = some (.dT kvs)) ∧ t1 σ H1 fun y H2 => t2 σ H2 fun z H3 =>
      ∃ kvs k b, H3 a = some (.dT kvs) ∧ y = .ref b ∧ H3 b = some (.tup (k.map kV)) ∧ kvs.length < sizeLine ∧ (∀ v, valV kvs k = some v → Q v H3) ∧ (valV kvs k = none → Q z (upd H3 a (.dT (putK kvs k z))))) := by
  intro pins s σ H Q I h
  refine wpAny_Call_method_late hbase hfew hline rfl (thn (ho pins s σ H _ I h) fun v s1 ⟨g1, x, H1, I1, r1, a, ex, ⟨kvs0, ha0⟩, q1⟩ => ?_)
  subst ex
  have ty : tyV X.K "dict" (.ref a) H1 := .inr (.inr (.inl ⟨rfl, .inr ⟨_, ha0⟩⟩))
  obtain ⟨k1, k2⟩ := tyV_is I1 r1 ty
  cases r1
  refine ⟨"dict", "dict.setdefault", PySem.F.plainAttrs_dict, PySem.F.slot_dict_setdefault, PySem.F.type_dict_setdefault, k1, k2, ?_⟩
  have hA : wpAny (model X.prog X.w) X.A (spliced (backTo cpos (starEach [e1, e2] X.env))) (fun us s2 => wpAny (model X.prog X.w) X.A (call (.builtin "dict.setdefault") (.ref a :: us)) (fun v s' => s'.gens = s.gens ∧ EP X pins σ Q v s') X.xe s2) X.xe s1 := by
    refine args_cons (thn (h1 pins s1 σ H1 _ I1 q1) fun y s2 ⟨g2, yv, H2, I2, r2, q2⟩ => args_cons (thn (h2 pins s2 σ H2 _ I2 q2) fun z s3 ⟨g3, zv, H3, I3, r3, q3⟩ => args_nil ?_) hs2) hs
    obtain ⟨kvs, k, b, ha, rfl, hb, hl, qh, qm⟩ := q3
    cases r2
    obtain ⟨zz, hd, xs', rel, dd⟩ := dt_of I3.hok ha
    have hz : xs'.length ≤ sizeLine := by rw [← Paired.length rel]; exact zz
    have gg : s3.gens = s.gens := g3.trans (g2.trans g1)
    refine call_setdefault_heap (hsz := hz) (tupleKind_room_in1 hu) (key_of I3.hok hb) hd dd (fun p hp => ⟨gg, ?_⟩) (fun hn h' dd' hs => ⟨gg, ?_⟩)
    · have r := rel.val k
      rw [hp] at r
      cases ev : valV kvs k with
      | none =>
        rw [ev] at r
        exact (show False from r).elim
      | some v0 =>
        rw [ev] at r
        exact ⟨v0, H3, I3.tok _, r, qh v0 ev⟩
    · have r := rel.val k
      rw [hn] at r
      have ev : valV kvs k = none := by
        cases ev : valV kvs k with
        | none => rfl
        | some v0 =>
          rw [ev] at r
          exact (show False from r).elim
      have hl2 : (putK kvs k zv).length ≤ sizeLine := by have := length_putK kvs k zv; omega
      obtain ⟨o, es, ep, hq, j2, j3, j4, _, j5⟩ := dd'
      exact ⟨zv, upd H3 a (.dT (putK kvs k zv)), d_write (ob := .dT (putK kvs k zv)) I3 (by rw [ha]; exact True.intro) hs ⟨o, hq⟩ ⟨hl2, hd, _, (rel.put k hb r3).keeps (fun c ys ec => (by rw [upd_ne (ne_of ec ha (fun z => nomatch z))]; exact ec)), o, es, ep, hq, j2, j3, j4, j5⟩, r3, qm ev⟩
  rw [hs] at hA ⊢
  exact Calls.callWith_builtin (by show (false || (backTo cpos (starEach [e2] X.env)).any (·.1)) = false; rw [hplain] <;> rfl) (Calls.evalArgs_plain hA)
/-- a local name is stored -/
theorem store_g {M : Model} {A : Around} {E : Value → Shared → Prop} {pins : List (Addr × Obj)} {s : Shared} {σ : L2.St} {H : Hp} {i : Nat} {x : Str} {v : V} {u : Value} {Q : Unit → Shared → Prop} (I : Inv X pins σ H s) (hN : X.N.Nodup) (hi : X.N[i]? = some x) (hx : X.env.scope.names.lookup x = some .local) (r : RelV v u)
    (h : ∀ s', s'.gens = s.gens → Inv X pins (σ.set i (some v)) H s' → Q () s') : wpAny M A (storeName X.env x u) Q E s := by
  obtain ⟨m, hn, hl⟩ := id I.loc
  have hcls : (X.env.scope.kind == .class || (X.env.scope.kind == .module && X.env.locals != X.env.globals)) = false := by rw [I.ok.kind]; rfl
  have hiσ : i < σ.length := by rw [I.len]; exact (List.getElem?_eq_some_iff.mp hi).1
  have cne := I.cne
  refine wpAny_storeName_local hx hn (fun h' hn' hs => ?_) hcls
  obtain ⟨oL, _, _, hoL, _⟩ := id hn
  have old : ∀ b o, X.s_0.heap.get? b = some o → b ≠ X.env.locals := fun b o e => Nat.ne_of_lt (Nat.lt_of_lt_of_le (Heap.lt_size e) I.ok.above)
  refine h _ rfl { ok := I.ok, os := I.os, bare := I.bare, base := ?_, loc := ⟨_, hn', fun j y v' e1 e2 e3 => ?_⟩, cell := fun y c e => ?_, free := I.free, freeC := I.freeC, pin := fun p hp => ?_, hok := fun b ob e => ?_, len := by simpa using I.len }
  · refine ⟨fun b o e n hb hx => (hs.2 b (old b o e)).trans (I.base.keep b o e n hb hx), fun b o e n hb hx => ?_, I.base.free, fun b o e hx => ?_, I.base.tups, I.base.frzs, I.base.tbls⟩
    · obtain ⟨sl, e1⟩ := I.base.slot b o e n hb hx
      exact ⟨sl, (hs.2 b (old b o e)).trans e1⟩
    · obtain ⟨o', e1⟩ := I.base.there b o e hx
      exact ⟨o', (hs.2 b (old b o e)).trans e1⟩
  · by_cases hj : j = i
    · subst hj
      rw [hi] at e1
      cases e1
      rw [List.getElem?_set_self hiσ] at e2
      cases e2
      exact ⟨u, r, .inl ⟨hx, by simp⟩⟩
    · rw [List.getElem?_set_ne (Ne.symm hj)] at e2
      obtain ⟨u', r', q⟩ := hl j y v' e1 e2 e3
      refine ⟨u', r', ?_⟩
      rcases q with ⟨k, e⟩ | ⟨k, c, e, z⟩
      · refine .inl ⟨k, ?_⟩
        have : y ≠ x := fun e => hj (nodup_ix hN e1 (e ▸ hi))
        simp [this, e]
      · exact .inr ⟨k, c, e, z.sameBut hs (cne y c e)⟩
  · obtain ⟨w', z⟩ := I.cell y c e
    exact ⟨w', z.sameBut hs (cne y c e)⟩
  · obtain ⟨e, n, ne, nf, d⟩ := I.pin p hp
    exact ⟨(hs.2 p.1 ne).trans e, n, ne, nf, d⟩
  · refine (I.hok b ob e).stay (fun c w' hc q => (hs.2 c ?_).trans q) (fun _ q => q) fun _ _ q => q
    rintro rfl
    rcases hc with hc | hc
    · rw [← hc, I.free] at e
      cases e
    · rw [I.free] at hc
      cases hc
end
/-! ### tree.told, the generators as they are -/
section
variable {X : Cx}
theorem ret_g {e : Expr} {te : TE} {pos : Pos} (he : PEg X e te) {pins : List (Addr × Obj)} {s : Shared} {σ : L2.St} {H : Hp} {Q : VK} (I : Inv X pins σ H s) (h : te σ H Q) :
    wpAny (model X.prog X.w) X.A (execs [.Return (some e) pos] X.env) (fun f s' => ∃ u, f = .ret u ∧ s'.gens = s.gens ∧ EP X pins σ Q u s') X.xe s := by
  refine wpAny_execs_cons (thn (wpAny_Return_some (Q := fun f s' => ∃ u, f = .ret u ∧ s'.gens = s.gens ∧ EP X pins σ Q u s') (thn (he pins s σ H _ I h) fun v s1 ⟨g1, q⟩ => ⟨v, rfl, g1, q⟩)) fun f s1 q => ?_)
  obtain ⟨u, rfl, q⟩ := q
  exact ⟨u, rfl, q⟩
end
section
variable {P : Program} {w : World} {K : PySem.W.Frag} {mg : Str → Option Value} {base : Heap}
theorem told_g (T : Txt K mg) : ∃ (p f : Addr) (fd : FuncData), PropOf K (cT K) "told" p f ∧ Binds K fd ["self"] [] ∧
    ∀ (A : Around) (outer : List Env) (s : Shared) (H : Hp) (args : Args) (us : List Value) (vs : List V) (Q : VK), Room 2 A → Env0 P w K mg base A outer s H → BindsTo s fd args ((["self"] : List Str).zip us) → Vals vs us → spTold K vs H Q E0 →
      codeAny (model P w) A (.call (.ref f) args) (fun r s' => ∃ u, r = .ok (.ret u) ∧ s'.gens = s.gens ∧ CE outer P w H s Q u s') s := by
  obtain ⟨p, f, fd, F, hp⟩ := T.f_Tree_told
  have hbn : Binds K fd ["self"] [] := F.bindsN fun _ _ _ _ _ _ us hl => match us, hl with | [_], _ => rfl
  obtain ⟨oc, od, dV, kV, doc, pm, an, cdv, ct, osl, rfl, lk, hcd, _, _⟩ := F.ex
  refine ⟨p, f, _, hp, hbn, fun A outer s H args us vs Q hr e0 hb r hsp => ?_⟩
  obtain ⟨a, n, c, ts, rfl, ⟨dx, t, l, ha, hf⟩, q⟩ := hsp
  have S := sc_Tree_told
  have KX : K.In s.heap := e0.mod.kin.keeps fun b o e => (e0.bs b o e).1
  have lim : s.heap.NoLimit := e0.mod.nolimit.keeps fun b o e => (e0.bs b o e).1
  have hl : ([V.ref a] : List V).length = (["self"] : List Str).length := rfl
  have hkind : ∀ y ∈ (["self"] : List Str).zip us, (defScope s_Tree_told).names.lookup y.1 = some .local ∨ ((defScope s_Tree_told).names.lookup y.1 = some .cell ∧ ((cellsFrom (s.heap.objs.size + 1) (defScope s_Tree_told).names []).lookup y.1).isSome = true) := fun ⟨n, v⟩ hy => by
    rcases S.par n (List.of_mem_zip hy).1 with q | q
    · exact .inl q
    · exact .inr ⟨q, PySem.W.cellsFrom_some _ _ _ (.inl q)⟩
  refine codeAny_call_function hr.depth (KX _ _ lk) rfl S.co S.gen rfl (PySem.W.codeRec_of KX hcd) (hb _ _ _ _ ?_)
  refine wpAny_newFunctionEnv_cells S.kind hkind fun env he s1 x => ?_
  subst he
  refine ⟨lim.keeps x.toInCall.keep, codeAny_func ?_⟩
  have I : Inv (cxOf CX0 P w K mg base n_Tree_told "Tree.told" (defScope s_Tree_told) f cdv A outer s H E0) [] (start n_Tree_told [.ref a]) H s1 := inv_start S hr.hd e0 hl r x
  obtain ⟨h1, tk, es1, hk1⟩ := x.done
  have gen1 : s1.gens = s.gens := by rw [es1]
  refine wpAny_mono (ret_g (X := cxOf CX0 P w K mg base n_Tree_told "Tree.told" (defScope s_Tree_told) f cdv A outer s H E0) (peg_list rfl T.m_list (peg_fld (pvg 0) (by rfl))) (Q := Q) I ⟨_, rfl, _, _, _, _, _, rfl, ha, T.i_Tree.cl, T.na_Tree_told_row, rfl, _, _, rfl, hf.told, q⟩) (fun fl s' hs => ?_) fun e s' hs => wpAny_mono hs (fun _ _ h => (show False from h).elim) (fun _ _ h => (show False from h).elim)
  obtain ⟨u, rfl, g2, v, H', J, rv, qq⟩ := hs
  exact ⟨u, rfl, g2.trans gen1, v, H', J.os, J.bare, J.base, J.hok, rv, qq⟩
/-- tree.told -/
theorem peg_told {X : Cx} (T : Txt X.K X.mg) {e : Expr} {te : TE} {pos : Pos} (hr : Room 3 X.A) (he : PEg X e te) (hab : attributeBase e "told" X.env (eval e X.env) = eval e X.env) :
    PEg X (.Attribute e "told" pos) (fun σ H Q => te σ H fun x H1 => ∃ a n c ts, x = .ref a ∧ TreeAt X.K H1 a n c ts ∧ ∀ l, H1 l = none → Q (.ref l) (upd H1 l (.lst (iV ts)))) := by
  intro pins s σ H Q I h
  obtain ⟨p, g, fd, hp, hb, F⟩ := told_g (P := X.prog) (w := X.w) (base := X.base) T
  refine attr_of hab (thn (he pins s σ H _ I h) fun u s1 ⟨g1, x, H1, I1, rx, a, n, c, ts, ex, hT, q⟩ => ?_)
  subst ex
  obtain rfl : u = Value.ref a := rx
  obtain ⟨dx, t, l, ea, hf⟩ := id hT
  obtain ⟨mA, O, _, _, _, _⟩ := ins_get I1.hok ea
  obtain ⟨od, J, _⟩ := O.look
  obtain ⟨rest, hrec⟩ := hp.rec_
  have I2 := I1.tok (s1.toks + 1)
  have c0 := T.i_Tree.cl
  have hc : (PySem.W.clsIn X.K (cT X.K)).isSome = true := by
    obtain ⟨cd, hc, _⟩ := PySem.W.any_some c0.hd
    rw [hc]
    rfl
  refine PySem.W.get_bind I1.kIn J (PySem.W.plainGet_of (c0.get "told")).1 (PySem.W.findObj_data hc hp.at_ hp.get hp.tak) (PySem.W.plainGet_of (c0.get "told")).2 (wpAny_call (PySem.W.prop_get (s := { s1 with toks := s1.toks + 1 }) I1.kIn hrec ?_))
  refine codeAny_mono (F X.A.in1 X.stack { s1 with toks := s1.toks + 1 } H1 ⟨[.ref a], []⟩ [.ref a] [.ref a] Q hr.in1 I2.env0.in1 (hb _ [.ref a] I2.kIn rfl) (.cons rfl .nil) ⟨a, n, c, ts, rfl, hT, q⟩) fun r s' hq => ?_
  obtain ⟨v, rfl, g3, hce⟩ := hq
  obtain ⟨v', H', I3, rv, q3⟩ := I2.after hce
  show wpAny _ _ (handedOut v) _ _ _
  rw [PySem.W.handedOut_of (handed_of rv)]
  exact wpAny_pure ⟨g3.trans g1, v', H', I3, rv, q3⟩
end
/-! ### a generator's piece: its invariant from its consumer's, and back -/
def trunc (h : Heap) (L : Nat) : Heap := { h with objs := h.objs.extract 0 L }
theorem trunc_lt {h : Heap} {L b : Nat} (hb : b < L) : (trunc h L).get? b = h.get? b := by
  have e : (h.objs.extract 0 L)[b]? = h.objs[b]? := by
    rw [Array.getElem?_extract]
    by_cases hz : b < h.objs.size
    · simp <;> omega
    · have : h.objs[b]? = none := Array.getElem?_eq_none (by omega)
      rw [this]
      simp <;> omega
  unfold trunc Heap.get?
  simp only [e]
theorem trunc_size {h : Heap} {L : Nat} (hL : L ≤ h.objs.size) : (trunc h L).objs.size = L := by
  unfold trunc
  simp <;> omega
theorem trunc_get {h : Heap} {L b : Nat} {o : Obj} (hL : L ≤ h.objs.size) (e : (trunc h L).get? b = some o) : b < L ∧ h.get? b = some o := by
  have : b < L := by
    have := Heap.lt_size e
    rw [trunc_size hL] at this
    exact this
  exact ⟨this, by rw [← trunc_lt this]; exact e⟩
def below (L : Nat) (H : Hp) : Hp := fun b => if b < L then H b else none
theorem below_lt {L : Nat} {H : Hp} {b : Nat} (hb : b < L) : below L H b = H b := if_pos hb
theorem below_some {L : Nat} {H : Hp} {b : Nat} {u : HO} (e : below L H b = some u) : H b = some u := by
  unfold below at e
  split at e
  · exact e
  · cases e
theorem funFrames_trunc {h base : Heap} {L : Nat} : ∀ (l : List Env), h.FunFrames base l → (∀ b ∈ frs l, b < L) → (trunc h L).FunFrames base l := by
  intro l
  induction l with
  | nil => intro _ _; trivial
  | cons env r ih =>
    intro ⟨hk, ⟨L', o, hf, hn, ho, hd⟩, hr⟩ hs
    have hL : L' ∈ frs (env :: r) := by unfold frs; rw [List.filterMap_cons, hf]; exact List.mem_cons_self
    refine ⟨hk, ⟨L', o, hf, hn, ?_, hd⟩, ih hr fun b hb => hs b ?_⟩
    · rw [trunc_lt (hs L' hL)]; exact ho
    · unfold frs; rw [List.filterMap_cons, hf]; exact List.mem_cons_of_mem _ hb
abbrev stEnv (L : Addr) (f : Addr) (cdv : Value) : Env := envOfC "stages" (defScope s_stages) L f cdv
def gX (X : Cx) (L f : Addr) (cdv : Value) (a : Addr) (go : Obj) (s : Shared) (H : Hp) : Cx where
  prog := X.prog
  w := X.w
  K := X.K
  mg := X.mg
  base := X.base
  A := X.A.in1.deeper (stEnv L f cdv)
  N := n_stages
  s_0 := { s with heap := trunc s.heap L }
  H_0 := below L H
  env := stEnv L f cdv
  outer := X.stack
  stack := stEnv L f cdv :: X.stack
  ex := []
  fn := fun _ => true
  calm := true
  pn := [(a, go)]
  xe := fun _ _ => False
structure GFix (X : Cx) (pins : List (Addr × Obj)) (L a : Addr) (go : Obj) : Prop where
  lL : X.env.locals < L
  cL : ∀ x c, X.env.cells.lookup x = some c → c < L
  sL : X.s_0.heap.objs.size ≤ L
  fL : ∀ b ∈ frs X.stack, b < L
  pL : ∀ p ∈ X.pn ++ pins, p.1 < L
  La : L < a
  god : ∀ v, go.data ≠ .cell v
  hd : X.A.handled = none
section
variable {X : Cx} {pins p0 gp : List (Addr × Obj)} {L f a : Addr} {cdv : Value} {go : Obj} {σ σg : L2.St} {H H1 : Hp} {s s1 : Shared}
theorem gen_in (F : GFix X pins L a go) (I : Inv X p0 σ H s) (hpa : s.heap.get? a = some go) (hHa : H a = none) {m : Str → Option Value} (hn : s.heap.Ns L m) (hHL : H L = none)
    (hσ : ∀ (i : Nat) (x : Str) (v : V), n_stages[i]? = some x → σg[i]? = some (some v) → ∃ u, RelV v u ∧ m x = some u) (hlen : σg.length = n_stages.length) : Inv (gX X L f cdv a go s H) [] σg H s := by
  have hLs : L ≤ s.heap.objs.size := Nat.le_of_lt hn.lt
  have hbL : X.base.objs.size ≤ L := Nat.le_trans I.ok.bsz F.sL
  have hc : ∀ (x : Str) (c : Addr), (stEnv L f cdv).cells.lookup x = some c → False := fun x c h => by
    have h' : (([] : List (Str × Addr)).lookup x) = some c := h
    cases h'
  have hk : ∀ x, (stEnv L f cdv).kindOf x = some .cell ∨ (stEnv L f cdv).kindOf x = some .free → False := fun x h => by
    rcases h with h | h
    · have h1 := PySem.mem_of_lookup (show (defScope s_stages).names.lookup x = some .cell from h)
      exact (show ∀ y ∈ (defScope s_stages).names, y.2 ≠ NameKind.cell by decide) _ h1 rfl
    · have h1 := PySem.mem_of_lookup (show (defScope s_stages).names.lookup x = some .free from h)
      exact (show ∀ y ∈ (defScope s_stages).names, y.2 ≠ NameKind.free by decide) _ h1 rfl
  have hloc : ∀ (i : Nat) (x : Str), n_stages[i]? = some x → (defScope s_stages).names.lookup x = some .local := fun i x h => by
    have := List.mem_of_getElem? h
    exact (show ∀ x ∈ n_stages, (defScope s_stages).names.lookup x = some NameKind.local by decide) x this
  refine ⟨⟨I.ok.mod, rfl, rfl, rfl, ?_, fun x y c h _ => (hc x c h).elim, fun x h => (hk x h).elim, fun x c _ h => (hc x c h).elim, fun _ => F.hd, Around.frames_deeper I.ok.frames, .inr ⟨rfl, rfl⟩, fun b z => (List.not_mem_nil z).elim, fun b o e => ?_, ?_, fun b o _ z => (List.not_mem_nil z).elim, fun b z => (List.not_mem_nil z).elim, ?_, fun b hb => ?_⟩, rfl, I.bare, ?_, ⟨m, hn, fun i x v h1 h2 _ => ?_⟩, fun x c h => (hc x c h).elim, hHL, fun x c h => (hc x c h).elim, fun p hp => ?_, I.hok, hlen⟩
  · show (trunc s.heap L).objs.size ≤ L
    rw [trunc_size hLs]; exact Nat.le_refl _
  · have hb : b < L := Nat.lt_of_lt_of_le (Heap.lt_size e) hbL
    obtain ⟨e1, e2⟩ := I.bs b o e
    exact ⟨(trunc_lt hb).trans e1, (below_lt hb).trans e2⟩
  · show X.base.objs.size ≤ (trunc s.heap L).objs.size
    rw [trunc_size hLs]; exact hbL
  · exact funFrames_trunc _ I.stack F.fL
  · exact (below_lt (F.fL b hb)).trans (I.stkFree b hb)
  · refine ⟨fun b o e _ _ _ => (trunc_get hLs e).2, fun b o e _ _ _ => ⟨o.slots, (trunc_get hLs e).2⟩, fun b o e n _ => by have n' : below L H b = none := n; rw [below_lt (trunc_get hLs e).1] at n'; exact n', fun b o e _ => ⟨o, (trunc_get hLs e).2⟩, fun b xs e => below_some e, fun b o u e => below_some e, fun b ps e => ⟨#[], by rw [below_some e]; simp⟩⟩
  · obtain ⟨u, r, e⟩ := hσ i x v h1 h2
    exact ⟨u, r, .inl ⟨hloc i x h1, e⟩⟩
  · have hp' : p = (a, go) := by
      rcases List.mem_append.mp hp with z | z
      · exact List.mem_singleton.mp z
      · exact (List.not_mem_nil z).elim
    subst hp'
    exact ⟨hpa, hHa, Nat.ne_of_gt F.La, fun z => Nat.lt_asymm F.La (F.fL _ z), F.god⟩
theorem gen_out (F : GFix X pins L a go) (I : Inv X (pins ++ p0) σ H s) (hL : L ≤ s.heap.objs.size) (J : Inv (gX X L f cdv a go s H) gp σg H1 s1) (hs : Same H H1) : Inv X (pins ++ [(a, go)]) σ H1 s1 := by
  have hLs := hL
  have hlt : ∀ {b o}, s.heap.get? b = some o → b ∉ (List.range s.heap.objs.size).filter (fun b => decide (L ≤ b)) → b < L := fun {b o} e n => by
    by_cases hb : b < L
    · exact hb
    · exact (n (List.mem_filter.mpr ⟨List.mem_range.mpr (Heap.lt_size e), by simpa using hb⟩)).elim
  have B := J.base
  have I1 : Inv X pins σ H1 s1 := by
    refine I.unpinned.call' (ch := (List.range s.heap.objs.size).filter (fun b => decide (L ≤ b))) J.os ⟨fun b o e n hf hx => ?_, fun b o e n hf hx => ?_, fun b o e n hx => ?_, fun b o e hx => ?_, fun b xs e => hs _ _ e, fun b o u e => hs _ _ e, fun b ps e => ⟨#[], by rw [hs _ _ e]; simp⟩⟩ J.hok J.bare (fun b hb => ?_)
    · have h := hlt e hx
      exact B.keep b o ((trunc_lt h).trans e) ((below_lt h).trans n) hf (fun z => List.not_mem_nil z)
    · have h := hlt e hx
      exact B.slot b o ((trunc_lt h).trans e) ((below_lt h).trans n) hf (fun z => List.not_mem_nil z)
    · have h := hlt e hx
      exact B.free b o ((trunc_lt h).trans e) ((below_lt h).trans n) (fun z => List.not_mem_nil z)
    · have h := hlt e hx
      exact B.there b o ((trunc_lt h).trans e) (fun z => List.not_mem_nil z)
    · have h : L ≤ b := by simpa using (List.mem_filter.mp hb).2
      refine ⟨.inr (Nat.le_trans F.sL h), fun z => ?_, fun x c e z => ?_, fun p hp z => ?_⟩
      · have := F.lL
        rw [z] at h
        exact absurd (Nat.lt_of_lt_of_le this h) (Nat.lt_irrefl _)
      · have := F.cL x c e
        rw [z] at this
        exact absurd (Nat.lt_of_lt_of_le this h) (Nat.lt_irrefl _)
      · have := F.pL p hp
        rw [z] at this
        exact absurd (Nat.lt_of_lt_of_le this h) (Nat.lt_irrefl _)
  refine I1.pins_of fun p hp => ?_
  rcases List.mem_append.mp hp with z | z
  · exact I1.pin p (List.mem_append_right _ z)
  · obtain rfl := List.mem_singleton.mp z
    obtain ⟨e1, e2, _, _, e5⟩ := J.pin (a, go) (List.mem_append_left _ (List.mem_singleton.mpr rfl))
    have hLa := F.La
    have hlL := F.lL
    exact ⟨e1, e2, Nat.ne_of_gt (Nat.lt_trans hlL hLa), fun z => Nat.lt_asymm hLa (F.fL _ (by
      rcases I.ok.stk with e | ⟨e, _⟩
      · rw [e]; exact z
      · rw [e]; unfold frs; rw [List.filterMap_cons]; split
        · exact z
        · exact List.mem_cons_of_mem _ z)), e5⟩
end
/-! ### for, within a generator -/
section
variable {prog : Program} {w : World} {A : Around} {R : GenEnd} {Y : Protocol} {n : Nat} {s₀ : Shared} {fs : List Frame} {s : Shared} {env : Env}
theorem seg_forLoop {tgt : Expr} {it : Value} {body : List Stmt} {A1 : Around} (hA : A.over (.forLoop tgt it body [] env) fs = A1)
    (h : wpAny (model prog w) A1 (pyNext it) (fun r s' => match r with
      | none => Seg (model prog w) A R Y n s₀ (.forLoop tgt it body [] env) (.pure (.again (.block [] env))) fs s'
      | some v => wpAny (model prog w) A1 (letOwnedTupleGo tgt it v) (fun _ s2 => wpAny (model prog w) A1 (assign tgt env v) (fun _ s3 =>
          Seg (model prog w) A R Y n s₀ (.forLoop tgt it body [] env) ((execs body env).wrap (fun f => match f with
            | .next | .cont => .pure (.again (.forLoop tgt it body [] env))
            | .brk => .pure (.done .next)
            | .ret v => .pure (.done (.ret v))) (fun e => (do noteFrame e env; theTreesLotGoes e : Sem Unit).wrap (fun _ => .raise e) .raise id id) id id) fs s3) (fun _ _ => False) s2) (fun _ _ => False) s') (fun _ _ => False) s) :
    Seg (model prog w) A R Y n s₀ (.forLoop tgt it body [] env) ((model prog w).den (.forLoop tgt it body [] env)) fs s := by
  subst hA
  show Seg _ A R Y n s₀ _ ((forTurn tgt it body [] env).onRaise (fun x => do noteFrame x env; theTreesLotGoes x)) fs s
  unfold forTurn
  rw [Sem.onRaise_eq_wrap, Sem.bind_eq_wrap', Sem.wrap_wrap]
  refine seg_wrap (wpAny_standAt ?_)
  rw [Sem.bind_eq_wrap', Sem.wrap_wrap]
  refine seg_wrap (wpAny_onRaise (wpAny_mono h (fun r s' hr => ?_) fun _ _ x => x.elim))
  cases r with
  | none => exact hr
  | some v =>
    show Seg _ A R Y n s₀ _ (Sem.wrap _ _ _ _ (letOwnedTupleGo tgt it v >>= _)) fs s'
    rw [Sem.bind_eq_wrap', Sem.wrap_wrap]
    refine seg_wrap (wpAny_mono hr (fun _ s2 h2 => ?_) fun _ _ x => x.elim)
    rw [Sem.bind_eq_wrap', Sem.wrap_wrap]
    refine seg_wrap (wpAny_mono h2 (fun _ s3 h3 => ?_) fun _ _ x => x.elim)
    rw [Sem.bind_eq_wrap', Sem.wrap_wrap]
    rw [Sem.wrap_congr (execs body env) _ _ (K' := fun f => match f with
            | .next | .cont => .pure (.again (.forLoop tgt it body [] env))
            | .brk => .pure (.done .next)
            | .ret v => .pure (.done (.ret v))) (H' := (fun e => (do noteFrame e env; theTreesLotGoes e : Sem Unit).wrap (fun _ => .raise e) .raise id id))
        (fun f => by cases f <;> rfl)
        (fun e => by first | exact Sem.bind_eq_wrap _ _ | (show (do noteFrame e env; theTreesLotGoes e : Sem Unit).bind (fun _ => .raise e) = _; rw [Sem.bind_eq_wrap]))]
    exact h3
theorem seg_For {tgt iter : Expr} {body : List Stmt} {pos : Pos} {c : Code} {K : Flow → Sem PySem.Fin} {H : Value → Sem PySem.Fin} {gd : Bool → Bool} {lv : List Value → List Value} {A1 : Around} (hA : A.over c fs = A1)
    (h : wpAny (model prog w) A1 (eval iter env) (fun x s1 => wpAny (model prog w) A1 (pyIter x) (fun itv s2 => ∀ p lv',
      Seg (model prog w) A R Y n s₀ (.forLoop tgt itv body [] env) ((model prog w).den (.forLoop tgt itv body [] env))
      (.ret (fun r => ((match r with | .ok f => (.pure f : Sem Flow) | .error e => .raise e).onRaise fun (x : Value) => do
        if (← field x 1) == Value.none then unsupported "frame.own-activation:exception-without-traceback"
        setFlight x env.frame).wrap K H gd lv) none (gd false) lv' c p [] :: fs) s2) (fun _ _ => False) s1) (fun _ _ => False) s)
    (hs : ∀ x, foldedSetIterable iter env x = pure x := by intro _; rfl) :
    Seg (model prog w) A R Y n s₀ c ((exec (.For tgt iter body [] pos) env).wrap K H gd lv) fs s := by
  subst hA
  rw [exec_For]
  rw [Sem.bind_eq_wrap', Sem.wrap_wrap]
  refine seg_wrap (wpAny_standAt ?_)
  rw [Sem.bind_eq_wrap', Sem.wrap_wrap]
  refine seg_wrap (wpAny_mono h (fun x s1 h1 => ?_) fun _ _ x => x.elim)
  rw [Sem.bind_eq_wrap', Sem.wrap_wrap]
  refine seg_wrap (wpAny_of_eq (hs x) ?_)
  rw [Sem.bind_eq_wrap', Sem.wrap_wrap]
  refine seg_wrap (wpAny_standAt ?_)
  rw [Sem.bind_eq_wrap', Sem.wrap_wrap]
  refine seg_wrap (wpAny_holding (wpAny_mono h1 (fun itv s2 h2 => ?_) fun _ _ x => x.elim))
  exact seg_call fun p => h2 p _
end
/-! ### the generator's pieces -/
section
variable {K : PySem.W.Frag} {H H' : Hp} {D : Addr} {l : List (List L2.Key × V)}
theorem sqT_offD {a : Addr} {xs : List V} (hD : H D = some (.dT l)) (h : SqT K H a xs) : SqT K (off H D) a xs := by
  rcases h with (h | ⟨o, h⟩) | h
  · exact .inl (.inl ((off_ne (ne_of h hD fun z => nomatch z)).trans h))
  · by_cases e : a = D
    · subst e
      rw [hD] at h
      cases h
    · exact .inl (.inr ⟨o, (off_ne e).trans h⟩)
  · exact .inr h
theorem wrs_offD {xs : List V} {ws : List Wr} (hD : H D = some (.dT l)) (h : WrsAt K H xs ws) : WrsAt K (off H D) xs ws := Paired.mapP h fun _ _ h => by
  obtain ⟨p, h1, h2⟩ := h
  exact ⟨p, h1, sqT_offD hD h2⟩
theorem tree_offD {a : Addr} {n c : Int} {ts : List Int} (hD : H D = some (.dT l)) (h : TreeAt K H a n c ts) : TreeAt K (off H D) a n c ts := by
  obtain ⟨dx, t, lv, h1, h2⟩ := h
  obtain ⟨xs, h3, h4⟩ := h2.leaves
  exact ⟨dx, t, lv, (off_ne (ne_of h1 hD fun z => nomatch z)).trans h1, sqT_offD hD h2.told, ⟨xs, sqT_offD hD h3, h4⟩, h2.tw⟩
end
def forTgt : Stmt → Expr
  | .For t _ _ _ _ => t
  | _ => .Name "x" ⟨0, 0, 0, 0⟩
def forBody : Stmt → List Stmt
  | .For _ _ b _ _ => b
  | _ => []
abbrev stFor : Stmt := ((C8.fnBody s_stages)[3]?).getD (.Pass ⟨0, 0, 0, 0⟩)
abbrev stTgt : Expr := forTgt stFor
abbrev stLp : List Stmt := forBody stFor
abbrev stAsg : Stmt := (stLp[0]?).getD (.Pass ⟨0, 0, 0, 0⟩)
theorem nd_st : n_stages.Nodup := by decide
theorem sg1 {m : Str → Option Value} {tr : Addr} (h : m "tree" = some (.ref tr)) : ∀ (i : Nat) (x : Str) (v : V), n_stages[i]? = some x → ([some (.ref tr), none, none, none] : L2.St)[i]? = some (some v) → ∃ u, RelV v u ∧ m x = some u
  | 0, _, _, h1, h2 => by cases h1; cases h2; exact ⟨_, rfl, h⟩
  | 1, _, _, _, h2 => by cases h2
  | 2, _, _, _, h2 => by cases h2
  | 3, _, _, _, h2 => by cases h2
  | _ + 4, _, _, _, h2 => by cases h2
section
variable (X : Cx) (pins : List (Addr × Obj)) (a kn : Addr) (go : Obj) (n c : Int) (D : Dk) (C : Nat → L2.St → Hp → Prop)
def gOut (j : Nat) (gp : List (Addr × Obj)) (H : Hp) (v : Value) (s : Shared) : Prop :=
  ∃ σ tr, Inv X (pins ++ gp) σ H s ∧ C j σ H ∧ v = .ref tr ∧ TreeAt X.K H tr n c (puts D.base (D.row.take j)) ∧ (a, go) ∈ gp ∧ j ≤ D.row.length
def gY : Protocol := fun m _ v s kap => ∃ j gp H, m + j = D.row.length ∧ gOut X pins a go n c D C j gp H v s ∧
  ∀ s', (∃ σ' H', Inv X (pins ++ gp) σ' H' s' ∧ Same (off H kn) H' ∧ C (j + 1) σ' H') → kap (.send .none) s'
def gF : Nat → Shared → Shared → Prop := fun _ _ s => ∃ σ H, Inv X pins σ H s ∧ C (D.row.length + 1) σ H
abbrev gR : GenEnd := fun n s₀ r s₁ => ((r = .ok (.ret .none) ∨ r = .ok .next) ∧ gF X pins D C n s₀ s₁) ∨ ∃ e, r = .error e ∧ (fun (_ : Value) (_ : Shared) => False) e s₁
end
theorem ns_pin {h h' : Heap} {L : Addr} {m : Str → Option Value} (hn : h.Ns L m) {o : Obj} (e : h.get? L = some o) (e' : h'.get? L = some o) : h'.Ns L m := by
  obtain ⟨ob, es, ep, ho, r⟩ := hn
  rw [e] at ho
  cases ho
  exact ⟨o, es, ep, e', r⟩
section
variable {X : Cx} {pins : List (Addr × Obj)} {L f a kn : Addr} {cdv : Value} {go : Obj} {n c : Int} {D : Dk} {C : Nat → L2.St → Hp → Prop}
theorem gx_local {i : Nat} {x : Str} {v : V} {σg : L2.St} {H H1 : Hp} {s s1 : Shared} {gp : List (Addr × Obj)} (J : Inv (gX X L f cdv a go s H) gp σg H1 s1) :
    ∃ m, s1.heap.Ns L m ∧ ∀ (i : Nat) (x : Str) (v : V), n_stages[i]? = some x → σg[i]? = some (some v) → ∃ u, RelV v u ∧ m x = some u := by
  obtain ⟨m, hn, h⟩ := J.loc
  refine ⟨m, hn, fun i x v h1 h2 => ?_⟩
  have hx : (defScope s_stages).names.lookup x = some .local := (show ∀ x ∈ n_stages, (defScope s_stages).names.lookup x = some NameKind.local by decide) x (List.mem_of_getElem? h1)
  obtain ⟨u, r, l⟩ := h i x v h1 h2 (.inl hx)
  rcases l with ⟨_, hm⟩ | ⟨hk, cc, hc, _⟩
  · exact ⟨u, r, hm⟩
  · have hc' : (([] : List (Str × Addr)).lookup x) = some cc := hc
    cases hc'
/-- the consumer's invariant at a yield: the generator's frame and its iterator are pinned -/
theorem gx_out (F : GFix X pins L a go) {p0 ip : List (Addr × Obj)} {σ σg : L2.St} {H H1 : Hp} {s s1 : Shared} {oL : Obj} (I : Inv X (pins ++ p0) σ H s) (hL : L ≤ s.heap.objs.size) (J : Inv (gX X L f cdv a go s H) ip σg H1 s1) (hs : Same H H1) (eL : s1.heap.get? L = some oL) (hip : ∀ p ∈ ip, L ≤ p.1) :
    Inv X (pins ++ ((a, go) :: (L, oL) :: ip)) σ H1 s1 := by
  have I1 := gen_out F I hL J hs
  refine I1.pins_of fun p hp => ?_
  rcases List.mem_append.mp hp with z | z
  · exact I1.pin p (List.mem_append_right _ (List.mem_append_left _ z))
  · rcases List.mem_cons.mp z with z | z
    · subst z
      exact I1.pin (a, go) (List.mem_append_right _ (List.mem_append_right _ (List.mem_singleton.mpr rfl)))
    · have key : s1.heap.get? p.1 = some p.2 ∧ H1 p.1 = none ∧ L ≤ p.1 ∧ ∀ v, p.2.data ≠ .cell v := by
        rcases List.mem_cons.mp z with z | z
        · subst z
          obtain ⟨m, ⟨ob, es, ep, ho, hd, _⟩, _⟩ := J.loc
          have ho' : s1.heap.get? L = some ob := ho
          rw [eL] at ho'
          cases ho'
          exact ⟨eL, J.free, Nat.le_refl _, fun v q => by rw [hd] at q; cases q⟩
        · obtain ⟨e1, e2, _, _, e5⟩ := J.pin p (List.mem_append_right _ z)
          exact ⟨e1, e2, hip p z, e5⟩
      obtain ⟨e1, e2, e3, e4⟩ := key
      have h1 : X.env.locals < p.1 := Nat.lt_of_lt_of_le F.lL e3
      refine ⟨e1, e2, Nat.ne_of_gt h1, fun z => ?_, e4⟩
      have z' : p.1 ∈ frs X.stack := by
        rcases I.ok.stk with e | ⟨e, _⟩
        · rw [e]; exact z
        · rw [e]; unfold frs; rw [List.filterMap_cons]; split
          · exact z
          · exact List.mem_cons_of_mem _ z
      exact absurd (Nat.lt_of_lt_of_le (F.fL _ z') e3) (Nat.lt_irrefl _)
theorem seg_loop (T : Txt X.K X.mg) (F : GFix X pins L a go) (hr : Room 6 (X.A.in1.deeper (stEnv L f cdv))) (hC : ∀ j σ H H', Same H H' → C j σ H → C j σ H') (hkn : ∀ j σ H, C j σ H → ∃ kvs, H kn = some (.dT kvs))
    {tp it : Addr} {xs : List V} (hit : L < it) (hia : it ≠ a) (wok : ∀ w ∈ D.row, WOk n c w) {kk : Result → Sem PySem.Fin} {lvv : List Value} {c0 : Code} {q0 : Pos} (hov : X.A.in1.over c0 [] = X.A.in1.deeper (stEnv L f cdv))
    (hend : ∀ m s₀ s', gF X pins D C m s₀ s' → Seg (model X.prog X.w) X.A.in1 (gR X pins D C) (gY X pins a kn go n c D C) m s₀ c0 (kk (.ok .next)) [] s') :
    ∀ (m j : Nat) (s₀ s : Shared) (σ : L2.St) (H : Hp) (gp : List (Addr × Obj)) (mm : Str → Option Value) (tr : Addr), m + j = D.row.length → Inv X (pins ++ gp) σ H s → C (j + 1) σ H → (a, go) ∈ gp → s.heap.Ns L mm → H L = none → mm "tree" = some (.ref tr) →
      TreeAt X.K H tr n c (puts D.base (D.row.take j)) → SqT X.K H tp xs → WrsAt X.K H xs D.row → s.heap.IsTupleIter it tp j → H it = none →
      Seg (model X.prog X.w) X.A.in1 (gR X pins D C) (gY X pins a kn go n c D C) m s₀ (.forLoop stTgt (.ref it) stLp [] (stEnv L f cdv)) ((model X.prog X.w).den (.forLoop stTgt (.ref it) stLp [] (stEnv L f cdv))) [.ret kk none false lvv c0 q0 []] s := by
  intro m
  induction m with
  | zero =>
    intro j s₀ s σ H gp mm tr hm I hCj hgp hn hHL htr hT hq hw hti hHit
    refine seg_forLoop ((GenW.over_loop rfl rfl).trans hov) ?_
    have hLs : L ≤ s.heap.objs.size := Nat.le_of_lt hn.lt
    have J : Inv (gX X L f cdv a go s H) [] [some (.ref tr), none, none, none] H s := gen_in F I (I.pin _ (List.mem_append_right _ (List.mem_append_right _ hgp))).1 (I.pin _ (List.mem_append_right _ (List.mem_append_right _ hgp))).2.1 hn hHL (sg1 htr) rfl
    have hfp : ∀ b ∈ [it], FpOk (gX X L f cdv a go s H) [] H b := fun b hb => by
      obtain rfl := List.mem_singleton.mp hb
      refine ⟨hHit, Nat.ne_of_gt hit, fun z => Nat.lt_asymm hit (F.fL _ z), .inr ?_, fun x c h => ?_, fun p hp => ?_⟩
      · show (trunc s.heap L).objs.size ≤ b
        rw [trunc_size hLs]; exact Nat.le_of_lt hit
      · have h' : (([] : List (Str × Addr)).lookup x) = some c := h
        cases h'
      · rcases List.mem_append.mp hp with z | z
        · rw [List.mem_singleton.mp z]; exact Ne.symm hia
        · exact (List.not_mem_nil z).elim
    have hlen : xs.length = D.row.length := Paired.length hw
    refine thn ((turn_tuple (P := X.prog) (w := X.w) (K := X.K) (tg := stTgt) tp it).done (gX X L f cdv a go s H) rfl rfl rfl rfl j [] s _ H (fun _ _ => False) J hfp hti ⟨xs, hq, by omega⟩) fun r s1 ⟨hr1, J1⟩ => ?_
    subst hr1
    have I1 := (gen_out F I hLs J1 (Same.refl _)).unpinned
    refine seg_again rfl ?_
    refine seg_leaf (.ok .next) (hend _ _ _ ⟨σ, H, I1, ?_⟩)
    have : j + 1 = D.row.length + 1 := by omega
    rw [← this]; exact hCj
  | succ m ih =>
    intro j s₀ s σ H gp mm tr hm I hCj hgp hn hHL htr hT hq hw hti hHit
    refine seg_forLoop ((GenW.over_loop rfl rfl).trans hov) ?_
    have hLs : L ≤ s.heap.objs.size := Nat.le_of_lt hn.lt
    have J : Inv (gX X L f cdv a go s H) [] [some (.ref tr), none, none, none] H s := gen_in F I (I.pin _ (List.mem_append_right _ (List.mem_append_right _ hgp))).1 (I.pin _ (List.mem_append_right _ (List.mem_append_right _ hgp))).2.1 hn hHL (sg1 htr) rfl
    have fp : ∀ {H1 : Hp}, H1 it = none → ∀ b ∈ [it], FpOk (gX X L f cdv a go s H) [] H1 b := fun {H1} hh b hb => by
      obtain rfl := List.mem_singleton.mp hb
      refine ⟨hh, Nat.ne_of_gt hit, fun z => Nat.lt_asymm hit (F.fL _ z), .inr ?_, fun x c h => ?_, fun p hp => ?_⟩
      · show (trunc s.heap L).objs.size ≤ b
        rw [trunc_size hLs]; exact Nat.le_of_lt hit
      · have h' : (([] : List (Str × Addr)).lookup x) = some c := h
        cases h'
      · rcases List.mem_append.mp hp with z | z
        · rw [List.mem_singleton.mp z]; exact Ne.symm hia
        · exact (List.not_mem_nil z).elim
    have hlen : xs.length = D.row.length := Paired.length hw
    obtain ⟨y, hy⟩ : ∃ y, xs[j]? = some y := ⟨_, List.getElem?_eq_getElem (by omega)⟩
    obtain ⟨wr, hw1, p, hyp, hp⟩ := Paired.at hw hy
    subst hyp
    have TT := turn_tuple (P := X.prog) (w := X.w) (K := X.K) (tg := stTgt) tp it
    refine thn (TT.item (gX X L f cdv a go s H) rfl rfl rfl rfl j [] s _ H (fun _ _ => False) J (fp hHit) hti ⟨xs, _, hq, hy⟩) fun r s1 ⟨u, hr1, h1⟩ => ?_
    subst hr1
    refine thn h1 fun _ s2 ⟨x, H', J2, rx, ⟨hH', hx⟩, hti2, hfr⟩ => ?_
    subst hH'
    have ex := hx xs hq
    rw [hy] at ex
    cases ex
    obtain ⟨oit, eit, dit⟩ := TT.obj _ _ hti2 it (List.mem_singleton.mpr rfl)
    have J3 : Inv (gX X L f cdv a go s H') [(it, oit)] [some (.ref tr), none, none, none] H' s2 := J2.pins_of fun q hq => by
      rw [List.mem_singleton.mp hq]
      obtain ⟨f0, f1, f2, _⟩ := fp hHit it (List.mem_singleton.mpr rfl)
      exact ⟨eit, f0, f1, f2, dit⟩
    obtain ⟨dx, t, lv, ha, hf⟩ := id hT
    have G : PG (gX X L f cdv a go s H') stTgt _ := pg_tupK X.K (n := 2) rfl (pgs_cons (pg_name (i := 2) nd_st rfl (Or.inl rfl)) (pgs_cons (pg_name (i := 3) nd_st rfl (Or.inl rfl)) pgs_nil))
    refine thn (G.run _ s2 _ H' _ u (fun σ4 H4 => σ4 = [some (.ref tr), none, some (.int wr.1), some (.int wr.2)] ∧ H4 = H') J3 rx ⟨_, _, rfl, hp, rfl, _, _, rfl, _, _, rfl, rfl, rfl, rfl⟩) fun _ s4 ⟨σ4, H4, J4, e4, e5⟩ => ?_
    subst e4 e5
    refine seg_execs_cons (seg_wrap ?_)
    rw [(GenW.over_loop rfl rfl).trans hov]
    have S1 : PS (gX X L f cdv a go s H4) stAsg _ := ps_set (i := 0) nd_st rfl (Or.inl rfl) (C8.pe_mt (ok_Tree_with_told T) hr (by decide) (pv 0) (pa_cons (pv 2) (pa_cons (pv 3) pa_nil)))
    refine wpAny_mono (S1.run _ s4 _ H4 { nx := fun σ5 H5 => ∃ x2, σ5 = [some (.ref x2), none, some (.int wr.1), some (.int wr.2)] ∧ Same H4 H5 ∧ TreeAt X.K H5 x2 n c (puts D.base (D.row.take (j + 1))), rt := fun _ _ => False } J4 ?_) (fun fl s5 h5 => ?_) fun _ _ x => x.elim
    · exact ⟨_, rfl, _, _, _, rfl, ha, rfl, _, rfl, _, rfl, tr, _, _, n, c, _, rfl, hT, wok _ (List.mem_of_getElem? hw1), fun x2 H2 e2 hx2 => ⟨x2, rfl, e2, by rw [take_snoc hw1, puts_snoc]; exact hx2⟩⟩
    cases fl with
    | brk => obtain ⟨_, _, _, q⟩ := h5; exact q.elim
    | cont => obtain ⟨_, _, _, q⟩ := h5; exact q.elim
    | ret u => obtain ⟨_, _, _, _, _, q⟩ := h5; exact q.elim
    | next =>
      obtain ⟨σ5, H5, J5, x2, hσ5, e5, hx2⟩ := h5
      subst hσ5
      refine seg_execs_cons (seg_Expr_Yield rfl rfl rfl ?_)
      rw [(GenW.over_loop rfl rfl).trans hov]
      have E1 : ∀ pos : Pos, PE (gX X L f cdv a go s H4) (.Name "tree" pos) _ := fun pos => pv 0
      refine wpAny_mono ((E1 _).run _ s5 _ H5 (fun v H6 => v = .ref x2 ∧ H6 = H5) J5 ⟨_, rfl, rfl, rfl⟩) (fun v s6 h6 => ?_) fun _ _ x => x.elim
      obtain ⟨xv, H6, J6, rv, rfl, rfl⟩ := h6
      obtain rfl : v = Value.ref x2 := rv
      intro kap hk
      obtain ⟨m6, hn6, hm6⟩ := gx_local (i := 0) (x := "tree") (v := .non) J6
      obtain ⟨u6, r6, hu6⟩ := hm6 0 "tree" (.ref x2) rfl rfl
      obtain rfl : u6 = Value.ref x2 := r6
      obtain ⟨oL, es, ep, eL, _⟩ := id hn6
      have IO := gx_out F I hLs J6 e5 eL (fun q hq => by rw [List.mem_singleton.mp hq]; exact Nat.le_of_lt hit)
      obtain ⟨ei6, hi6, _, _, _⟩ := J6.pin (it, oit) (List.mem_append_right _ (List.mem_singleton.mpr rfl))
      have hti6 : s6.heap.IsTupleIter it tp (j + 1) := TT.keep _ _ _ hti2 fun b hb o e => by
        obtain rfl := List.mem_singleton.mp hb
        rw [eit] at e
        cases e
        exact ei6
      have hC6 := hC _ _ _ _ e5 hCj
      obtain ⟨kvs, hkv⟩ := hkn _ _ _ hC6
      refine ⟨j + 1, _, H6, by omega, ⟨σ, x2, IO, hC6, rfl, hx2, List.mem_cons_self, by omega⟩, fun s' hs' => hk .none s' ?_⟩
      obtain ⟨σ', H', I', e', hC'⟩ := hs'
      refine seg_execs_nil (seg_again rfl ?_)
      have pL := I'.pin (L, oL) (List.mem_append_right _ (List.mem_append_right _ (List.mem_cons_of_mem _ List.mem_cons_self)))
      have pI := I'.pin (it, oit) (List.mem_append_right _ (List.mem_append_right _ (List.mem_cons_of_mem _ (List.mem_cons_of_mem _ List.mem_cons_self))))
      refine ih (j + 1) s' s' σ' H' _ m6 x2 (by omega) I' hC' List.mem_cons_self (ns_pin hn6 eL pL.1) pL.2.1 hu6 (e'.tree (tree_offD hkv hx2)) (e'.sqT (sqT_offD hkv (e5.sqT hq))) (e'.wrs (wrs_offD hkv (e5.wrs hw))) (hti6.at fun o e => ?_) pI.2.1
      rw [ei6] at e
      cases e
      exact pI.1
end
/-! ### the generator's first piece -/
theorem sg2 {m : Str → Option Value} {tr l : Addr} (h : m "tree" = some (.ref tr)) (h' : m "row" = some (.ref l)) : ∀ (i : Nat) (x : Str) (v : V), n_stages[i]? = some x → ([some (.ref tr), some (.ref l), none, none] : L2.St)[i]? = some (some v) → ∃ u, RelV v u ∧ m x = some u
  | 0, _, _, h1, h2 => by cases h1; cases h2; exact ⟨_, rfl, h⟩
  | 1, _, _, h1, h2 => by cases h1; cases h2; exact ⟨_, rfl, h'⟩
  | 2, _, _, _, h2 => by cases h2
  | 3, _, _, _, h2 => by cases h2
  | _ + 4, _, _, _, h2 => by cases h2
section
variable {X : Cx} {pins : List (Addr × Obj)} {L f a kn : Addr} {cdv : Value} {go : Obj} {n c : Int} {D : Dk} {C : Nat → L2.St → Hp → Prop}
theorem seg_first (T : Txt X.K X.mg) (F : GFix X pins L a go) (hr : Room 6 (X.A.in1.deeper (stEnv L f cdv))) (hC : ∀ j σ H H', Same H H' → C j σ H → C j σ H') (hkn : ∀ j σ H, C j σ H → ∃ kvs, H kn = some (.dT kvs))
    (wok : ∀ w ∈ D.row, WOk n c w) (hsz : D.row.length ≤ 100000) {s₀ s : Shared} {σ : L2.St} {H : Hp} {gp : List (Addr × Obj)} {mm : Str → Option Value} {b l : Addr} (I : Inv X (pins ++ gp) σ H s) (hC0 : C 0 σ H) (hgp : (a, go) ∈ gp) (hn : s.heap.Ns L mm) (hHL : H L = none)
    (htr : mm "tree" = some (.ref b)) (hrw : mm "row" = some (.ref l)) (hT : TreeAt X.K H b n c D.base) (hl : RowL X.K H l D.row) :
    Seg (model X.prog X.w) X.A.in1 (gR X pins D C) (gY X pins a kn go n c D C) (D.row.length + 1) s₀ (.func (defBody s_stages) (stEnv L f cdv)) ((model X.prog X.w).den (.func (defBody s_stages) (stEnv L f cdv))) [] s := by
  refine seg_func ?_
  have hLs : L ≤ s.heap.objs.size := Nat.le_of_lt hn.lt
  have J : Inv (gX X L f cdv a go s H) [] [some (.ref b), some (.ref l), none, none] H s := gen_in F I (I.pin _ (List.mem_append_right _ (List.mem_append_right _ hgp))).1 (I.pin _ (List.mem_append_right _ (List.mem_append_right _ hgp))).2.1 hn hHL (sg2 htr hrw) rfl
  obtain ⟨xs, hlx, hws⟩ := id hl
  -- check_row(tree, row)
  refine seg_execs_cons (seg_wrap ?_)
  rw [GenW.over_func]
  have S1 : PS (gX X L f cdv a go s H) (((defBody s_stages)[0]?).getD (.Pass ⟨0, 0, 0, 0⟩)) _ := ps_expr (C8.pe_c (ok_check_row T) hr (by decide) rfl (pa_cons (pv 0) (pa_cons (pv 1) pa_nil)))
  refine wpAny_mono (S1.run _ s _ H { nx := fun σ1 H1 => σ1 = [some (.ref b), some (.ref l), none, none] ∧ Same H H1, rt := fun _ _ => False } J ⟨_, rfl, _, rfl, b, l, n, c, D.base, D.row, rfl, hT, hl, wok, hsz, fun H1 e1 => ⟨rfl, e1⟩⟩) (fun fl s1 h1 => ?_) fun _ _ x => x.elim
  cases fl with
  | brk => obtain ⟨_, _, _, q⟩ := h1; exact q.elim
  | cont => obtain ⟨_, _, _, q⟩ := h1; exact q.elim
  | ret u => obtain ⟨_, _, _, _, _, q⟩ := h1; exact q.elim
  | next =>
  obtain ⟨σ1, H1, J1, rfl, e1⟩ := h1
  -- row = tuple(row)
  refine seg_execs_cons (seg_wrap ?_)
  rw [GenW.over_func]
  have S2 : PS (gX X L f cdv a go s H) (((defBody s_stages)[1]?).getD (.Pass ⟨0, 0, 0, 0⟩)) _ := ps_set (i := 1) nd_st rfl (Or.inl rfl) (pe_tupleOf rfl T.m_tuple (pv 1))
  refine wpAny_mono (S2.run _ s1 _ H1 { nx := fun σ2 H2 => ∃ q, σ2 = [some (.ref b), some (.ref q), none, none] ∧ Same H1 H2 ∧ SqT X.K H2 q xs, rt := fun _ _ => False } J1 ⟨_, rfl, .inl ⟨_, _, rfl, e1.sqL hlx, fun q hq => ⟨q, rfl, same_up hq, sqT_at upd_same⟩⟩⟩) (fun fl s2 h2 => ?_) fun _ _ x => x.elim
  cases fl with
  | brk => obtain ⟨_, _, _, q⟩ := h2; exact q.elim
  | cont => obtain ⟨_, _, _, q⟩ := h2; exact q.elim
  | ret u => obtain ⟨_, _, _, _, _, q⟩ := h2; exact q.elim
  | next =>
  obtain ⟨σ2, H2, J2, tp, rfl, e2, hq⟩ := h2
  have e02 := e1.trans e2
  -- yield tree
  refine seg_execs_cons (seg_Expr_Yield rfl rfl rfl ?_)
  rw [GenW.over_func]
  have E1 : ∀ pos : Pos, PE (gX X L f cdv a go s H) (.Name "tree" pos) _ := fun pos => pv 0
  refine wpAny_mono ((E1 _).run _ s2 _ H2 (fun v H6 => v = .ref b ∧ H6 = H2) J2 ⟨_, rfl, rfl, rfl⟩) (fun v s6 h6 => ?_) fun _ _ x => x.elim
  obtain ⟨xv, H6, J6, rv, rfl, rfl⟩ := h6
  obtain rfl : v = Value.ref b := rv
  intro kap hk
  obtain ⟨m6, hn6, hm6⟩ := gx_local (i := 0) (x := "tree") (v := .non) J6
  obtain ⟨u6, r6, hu6⟩ := hm6 0 "tree" (.ref b) rfl rfl
  obtain rfl : u6 = Value.ref b := r6
  obtain ⟨u7, r7, hu7⟩ := hm6 1 "row" (.ref tp) rfl rfl
  obtain rfl : u7 = Value.ref tp := r7
  obtain ⟨oL, es, ep, eL, _⟩ := id hn6
  have IO := gx_out F I hLs J6 e02 eL (fun q hq => (List.not_mem_nil hq).elim)
  have hC6 := hC _ _ _ _ e02 hC0
  obtain ⟨kvs, hkv⟩ := hkn _ _ _ hC6
  refine ⟨0, _, H6, Nat.add_zero _, ⟨σ, b, IO, hC6, rfl, e02.tree hT, List.mem_cons_self, Nat.zero_le _⟩, fun s' hs' => hk .none s' ?_⟩
  obtain ⟨σ', H', I', e', hC'⟩ := hs'
  -- for node, told in row
  have pL := I'.pin (L, oL) (List.mem_append_right _ (List.mem_append_right _ (List.mem_cons_of_mem _ List.mem_cons_self)))
  have pG := I'.pin (a, go) (List.mem_append_right _ (List.mem_append_right _ List.mem_cons_self))
  have hn7 := ns_pin hn6 eL pL.1
  have hLs' : L ≤ s'.heap.objs.size := Nat.le_of_lt hn7.lt
  have J7 : Inv (gX X L f cdv a go s' H') [] [some (.ref b), some (.ref tp), none, none] H' s' := gen_in F I' pG.1 pG.2.1 hn7 pL.2.1 (sg2 hu6 hu7) rfl
  have hq7 := e'.sqT (sqT_offD hkv hq)
  refine seg_execs_cons (seg_For GenW.over_func ?_)
  have E2 : ∀ pos : Pos, PE (gX X L f cdv a go s' H') (.Name "row" pos) _ := fun pos => pv 1
  refine wpAny_mono ((E2 _).run _ s' _ H' (fun v H6 => v = .ref tp ∧ H6 = H') J7 ⟨_, rfl, rfl, rfl⟩) (fun v s8 h8 => ?_) fun _ _ x => x.elim
  obtain ⟨xv, H8, J8, rv, rfl, rfl⟩ := h8
  obtain rfl : v = Value.ref tp := rv
  obtain ⟨its, rvs, pt, hz⟩ := J8.tuple hq7
  refine wpAny_pyIter_tuple (show s8.heap.IsTuple tp its.toArray from pt) (fun p lv' => ?_)
  obtain ⟨m8, hn8, hm8⟩ := gx_local (i := 0) (x := "tree") (v := .non) J8
  obtain ⟨u8, r8, hu8⟩ := hm8 0 "tree" (.ref b) rfl rfl
  obtain rfl : u8 = Value.ref b := r8
  obtain ⟨oL8, es8, ep8, eL8, eR8⟩ := id hn8
  have I8 := gx_out F I' hLs' J8 (Same.refl _) eL8 (fun q hq => (List.not_mem_nil hq).elim)
  have hLs8 : L < s8.heap.objs.size := hn8.lt
  have h8a : a < s8.heap.objs.size := Heap.lt_size (I8.pin (a, go) (List.mem_append_right _ (List.mem_append_right _ List.mem_cons_self))).1
  have pL8 := I8.pin (L, oL8) (List.mem_append_right _ (List.mem_append_right _ (List.mem_cons_of_mem _ List.mem_cons_self)))
  refine seg_loop T F hr hC hkn (tp := tp) (it := s8.heap.objs.size) (xs := xs) hLs8 (Nat.ne_of_gt h8a) wok GenW.over_func (fun m s₀ s9 h9 => ?_) D.row.length 0 _ _ σ' H8 _ m8 b (Nat.add_zero _) (I8.kept (t' := s8.toks) fun b o e => Heap.get?_push_of_some _ e) hC' List.mem_cons_self ⟨oL8, es8, ep8, Heap.get?_push_of_some _ eL8, eR8⟩ pL8.2.1 hu8 (e'.tree (tree_offD hkv (e02.tree hT))) hq7 (e'.wrs (wrs_offD hkv (e02.wrs hws))) ⟨_, Heap.get?_push_size _ rfl, rfl, rfl⟩ (I8.hok.fresh (Nat.le_refl _))
  exact seg_end (.ok (.ret .none)) (.inl ⟨.inl rfl, h9⟩)
end
/-! ### the generator is made -/
section
variable {X : Cx} {pins : List (Addr × Obj)} {σ : L2.St} {H : Hp} {s : Shared}
theorem gensTo (I : Inv X pins σ H s) {s' : Shared} (ho : s'.os = s.os) (hk : ∀ b o, s.heap.get? b = some o → s'.heap.get? b = some o) (hb : AllBare s'.gens) : Inv X pins σ H s' :=
  I.call' (ch := []) ho (Un.kept hk) (I.hok.kept hk) hb fun b z => (List.not_mem_nil z).elim
theorem stages_made {k : Nat} (hr : Room k X.A) (I : Inv X pins σ H s) {f : Addr} {fd : FuncData} (FD : FunD X.K "stages" "stages" (defArgs s_stages) (defBody s_stages) (defScope s_stages) [] [] f fd) {u1 u2 : Value} {Q : Value → Shared → Prop} {E : Value → Shared → Prop}
    (h : ∀ (L : Addr) (cdv : Value) (a : Addr) (go : Obj) (g : Nat) (s' : Shared) (mm : Str → Option Value) (vs : Array Value), GFix X pins L a go → (∀ h : Heap, h.get? a = some go → h.IsGen a g) → Inv X (pins ++ [(a, go)]) σ H s' → s'.heap.Ns L mm → mm "tree" = some u1 → mm "row" = some u2 → H L = none →
      s'.gens[g]? = some (.fresh (.func (defBody s_stages) (stEnv L f cdv))) → go.cls = .type "generator" → go.data = .fields vs → Q (.ref a) s') :
    wpAny (model X.prog X.w) X.A (call (.ref f) [u1, u2]) Q E s := by
  have hbn : Binds X.K fd ["tree", "row"] [] := FD.bindsN fun _ _ _ _ _ _ us hl => match us, hl with | [_, _], _ => rfl
  obtain ⟨oc, od, dV, kV, doc, pm, an, cdv, ct, osl, rfl, lk, hcd, _, _⟩ := FD.ex
  have hkind : ∀ y ∈ (["tree", "row"] : List Str).zip [u1, u2], (defScope s_stages).names.lookup y.1 = some .local ∨ ((defScope s_stages).names.lookup y.1 = some .cell ∧ ((cellsFrom (s.heap.objs.size + 1) (defScope s_stages).names []).lookup y.1).isSome = true) := fun ⟨n, v⟩ hy =>
    .inl ((show ∀ x ∈ (["tree", "row"] : List Str), (defScope s_stages).names.lookup x = some NameKind.local by decide) n (List.of_mem_zip hy).1)
  refine wpAny_call (codeAny_call_generator hr.depth (I.kIn _ _ lk) rfl rfl rfl rfl (PySem.W.codeRec_of I.kIn hcd) (hbn s [u1, u2] I.kIn rfl _ _ _ _ ?_))
  refine wpAny_newFunctionEnv_cells rfl hkind fun env he s1 x => ?_
  subst he
  refine ⟨I.nolimit.keeps x.toInCall.keep, ?_⟩
  obtain ⟨h1, tk, es1, hk1⟩ := id x.done
  have os1 : s1.os = s.os := by rw [es1]
  have gen1 : s1.gens = s.gens := by rw [es1]
  have lt1 : s.heap.objs.size < s1.heap.objs.size := x.toInCall.ns.lt
  have kp1 : ∀ b o, s.heap.get? b = some o → s1.heap.get? b = some o := x.toInCall.keep
  have main : ∀ (go : Obj) (nm qn : Value) (tk2 : Nat), go.cls = .type "generator" → go.data = .fields #[.int s1.gens.size 0, nm, qn] → go.slots = #[] → (∀ h : Heap, (h.push go).get? h.objs.size = some go) →
      Q (.ref s1.heap.objs.size) { s1 with gens := s1.gens.push (.fresh (.func (defBody s_stages) (stEnv s.heap.objs.size f cdv))), toks := tk2, heap := s1.heap.push go } := by
    intro go nm qn tk2 hgc hgd hgs hgp
    have god : ∀ v, go.data ≠ .cell v := fun v q => by rw [hgd] at q; cases q
    refine h s.heap.objs.size cdv s1.heap.objs.size go s1.gens.size _ _ _ ⟨I.lt, fun x c e => ?_, I.sz, fun b hb => ?_, fun p hp => Heap.lt_size (I.pin p hp).1, lt1, god, hr.hd⟩ (fun h e => ⟨go, nm, qn, e, hgc, hgd, hgs⟩) ?_ (x.toInCall.ns.keeps fun b o e => Heap.get?_push_of_some _ e) rfl rfl (I.hok.fresh (Nat.le_refl _)) (Array.getElem?_push_size ..) hgc hgd
    · obtain ⟨v, q⟩ := I.cell x c e
      exact q.lt
    · obtain ⟨_, o, ho, _⟩ := I.stack.mem hb
      exact Heap.lt_size ho
    · refine ((gensTo I (s' := { s1 with gens := s1.gens.push (.fresh (.func (defBody s_stages) (stEnv s.heap.objs.size f cdv))), toks := tk2, heap := s1.heap.push go }) os1 (fun b o e => Heap.get?_push_of_some _ (kp1 b o e)) (AllBare.push (by rw [gen1]; exact I.bare) rfl))).pins_of fun p hp => ?_
      rcases List.mem_append.mp hp with z | z
      · obtain ⟨e1, e2, e3, e4, e5⟩ := I.pin p (List.mem_append_right _ z)
        exact ⟨Heap.get?_push_of_some _ (kp1 _ _ e1), e2, e3, e4, e5⟩
      · rw [List.mem_singleton.mp z]
        exact ⟨hgp _, I.hok.fresh (Nat.le_of_lt lt1), Nat.ne_of_gt (Nat.lt_trans I.lt lt1), I.nofs (Nat.le_of_lt lt1), god⟩
  exact main _ _ _ _ rfl rfl rfl fun h => Heap.get?_push_size _ rfl
end
/-! ### the consumer's loop -/
abbrev keyT (ts : List Int) : List L2.Key := ts.map Sum.inl
theorem keyT_inj {a b : List Int} (h : keyT a = keyT b) : a = b := by
  have := congrArg (List.map fun k : L2.Key => match k with | .inl i => i | .inr _ => 0) h
  simpa [keyT, List.map_map, Function.comp_def] using this
theorem keyT_kV (ts : List Int) : (keyT ts).map kV = iV ts := by
  simp [keyT, iV, List.map_map, Function.comp_def, kV]
abbrev stg (D : Dk) (i : Nat) : List Int := puts D.base (D.row.take i)
/-- what the consumer knows ahead of the tree j -/
def PfC (K : PySem.W.Frag) (d kn : Addr) (n c : Int) (D : Dk) (H0 : Hp) (j : Nat) (σ : L2.St) (H : Hp) : Prop :=
  ∃ z kvs, σ = [some (.ref d), some (.ref kn), z] ∧ H kn = some (.dT kvs) ∧ Same (off H0 kn) H ∧ kvs.length ≤ j ∧ (∀ i, i < j → valV kvs (keyT (stg D i)) ≠ none) ∧
    ∀ kv ∈ kvs, ∃ i b, i ≤ D.row.length ∧ kv.1 = keyT (stg D i) ∧ kv.2 = .ref b ∧ TreeAt K H b n c (stg D i)
theorem PfC.same {K : PySem.W.Frag} {d kn : Addr} {n c : Int} {D : Dk} {H0 : Hp} (j : Nat) (σ : L2.St) (H H' : Hp) (e : Same H H') (h : PfC K d kn n c D H0 j σ H) : PfC K d kn n c D H0 j σ H' := by
  obtain ⟨z, kvs, h1, h2, h3, h4, h5, h6⟩ := h
  exact ⟨z, kvs, h1, e _ _ h2, h3.trans e, h4, h5, fun kv hkv => let ⟨i, b, q1, q2, q3, q4⟩ := h6 kv hkv; ⟨i, b, q1, q2, q3, e.tree q4⟩⟩
theorem PfC.kn {K : PySem.W.Frag} {d kn : Addr} {n c : Int} {D : Dk} {H0 : Hp} (j : Nat) (σ : L2.St) (H : Hp) (h : PfC K d kn n c D H0 j σ H) : ∃ kvs, H kn = some (.dT kvs) := by
  obtain ⟨z, kvs, h1, h2, _⟩ := h
  exact ⟨kvs, h2⟩
/-- behind setdefault -/
theorem PfC.step {K : PySem.W.Frag} {d kn tr : Addr} {n c : Int} {D : Dk} {H0 H H3 : Hp} {j : Nat} {z : Option V} {kvs : List (List L2.Key × V)} (hj : j ≤ D.row.length) (e : Same H H3) (h2 : H3 kn = some (.dT kvs)) (h3 : Same (off H0 kn) H3) (h4 : kvs.length ≤ j) (h5 : ∀ i, i < j → valV kvs (keyT (stg D i)) ≠ none)
    (h6 : ∀ kv ∈ kvs, ∃ i b, i ≤ D.row.length ∧ kv.1 = keyT (stg D i) ∧ kv.2 = .ref b ∧ TreeAt K H3 b n c (stg D i)) (hT : TreeAt K H3 tr n c (stg D j)) :
    (valV kvs (keyT (stg D j)) ≠ none → PfC K d kn n c D H0 (j + 1) [some (.ref d), some (.ref kn), z] H3 ∧ Same (off H kn) H3) ∧
    (valV kvs (keyT (stg D j)) = none → PfC K d kn n c D H0 (j + 1) [some (.ref d), some (.ref kn), z] (upd H3 kn (.dT (putK kvs (keyT (stg D j)) (.ref tr)))) ∧ Same (off H kn) (upd H3 kn (.dT (putK kvs (keyT (stg D j)) (.ref tr))))) := by
  refine ⟨fun hv => ⟨⟨z, kvs, rfl, h2, h3, by omega, fun i hi => ?_, h6⟩, off_same.trans e⟩, fun hv => ?_⟩
  · rcases Nat.lt_or_ge i j with h | h
    · exact h5 i h
    · have : i = j := by omega
      rw [this]; exact hv
  · have hoff : ∀ {G : Hp}, Same (off G kn) H3 → Same (off G kn) (upd H3 kn (.dT (putK kvs (keyT (stg D j)) (.ref tr)))) := fun {G} e b o hb => by
      by_cases hk : b = kn
      · rw [hk, off_self] at hb; cases hb
      · rw [upd_ne hk]; exact e b o hb
    have e4 : Same (off H3 kn) (upd H3 kn (.dT (putK kvs (keyT (stg D j)) (.ref tr)))) := hoff off_same
    refine ⟨⟨z, _, rfl, upd_same, hoff h3, ?_, fun i hi => ?_, fun kv hkv => ?_⟩, hoff (off_same.trans e)⟩
    · have := length_putK kvs (keyT (stg D j)) (.ref tr)
      omega
    · rw [valV_put]
      split
      · simp
      · rename_i hne
        rcases Nat.lt_or_ge i j with h | h
        · exact h5 i h
        · have : i = j := by omega
          rw [this] at hne
          exact absurd rfl hne
    · rw [putK_new _ hv] at hkv
      rcases List.mem_append.mp hkv with q | q
      · obtain ⟨i, b, q1, q2, q3, q4⟩ := h6 kv q
        exact ⟨i, b, q1, q2, q3, e4.tree (tree_offD h2 q4)⟩
      · rw [List.mem_singleton.mp q]
        exact ⟨j, tr, hj, rfl, rfl, e4.tree (tree_offD h2 hT)⟩
def pfBody : List Stmt → List Stmt
  | [_, .For _ _ b _ _, _] => b
  | _ => []
def pfExpr : List Stmt → Expr
  | [.Expr e _] => e
  | _ => .Name "x" ⟨0, 0, 0, 0⟩
def pfIter : List Stmt → Expr
  | [_, .For _ it _ _ _, _] => it
  | _ => .Name "x" ⟨0, 0, 0, 0⟩
section
variable {P : Program} {w : World} {K : PySem.W.Frag} {mg : Str → Option Value} {base : Heap}
abbrev pfX (P : Program) (w : World) (K : PySem.W.Frag) (mg : Str → Option Value) (base : Heap) (f : Addr) (cdv : Value) (A : Around) (outer : List Env) (s : Shared) (H : Hp) (E : XK) : Cx :=
  (cxOf CX0 P w K mg base n_Disk_prefixes "Disk.prefixes" (defScope s_Disk_prefixes) f cdv A outer s H E).nox
variable {f : Addr} {cdv : Value} {A : Around} {outer : List Env} {s_0 : Shared} {H_0 : Hp} {E : XK}
/-- the body: known.setdefault(tuple(tree.told), tree) -/
theorem pf_body (T : Txt K mg) {k : Nat} (hr : Room (k + 4) (pfX P w K mg base f cdv A outer s_0 H_0 E).A) {pins : List (Addr × Obj)} {s : Shared} {H H0 : Hp} {d kn tr : Addr} {n c : Int} {D : Dk} {j : Nat} {σ : L2.St}
    (hz : D.row.length ≤ 100000) (hj : j ≤ D.row.length) (I : Inv (pfX P w K mg base f cdv A outer s_0 H_0 E) pins σ H s) (hσ : σ = [some (.ref d), some (.ref kn), some (.ref tr)]) (hC : PfC K d kn n c D H0 j σ H) (hT : TreeAt K H tr n c (stg D j)) :
    wpAny (model P w) (pfX P w K mg base f cdv A outer s_0 H_0 E).A (execs (pfBody (defBody s_Disk_prefixes)) (pfX P w K mg base f cdv A outer s_0 H_0 E).env) (fun fl s' => fl = .next ∧ s'.gens = s.gens ∧ ∃ H', Inv (pfX P w K mg base f cdv A outer s_0 H_0 E) pins σ H' s' ∧ PfC K d kn n c D H0 (j + 1) σ H' ∧ Same (off H kn) H')
      (pfX P w K mg base f cdv A outer s_0 H_0 E).xe s := by
  subst hσ
  obtain ⟨z, kvs, hσ, h2, h3, h4, h5, h6⟩ := hC
  have he : PEg (pfX P w K mg base f cdv A outer s_0 H_0 E) (pfExpr (pfBody (defBody s_Disk_prefixes))) _ := peg_setdefault (hu_of hr) (pvg 1) (peg_tuple rfl T.m_tuple (peg_told T (hr.mono (by omega)) (pvg 2) (by rfl))) (pvg 2)
  refine wpAny_execs_cons (wpAny_Expr_any (thn (he pins s _ H (fun _ H' => PfC K d kn n c D H0 (j + 1) [some (.ref d), some (.ref kn), some (.ref tr)] H' ∧ Same (off H kn) H') I ?_) fun v s1 ⟨g1, x, H1, I1, r1, q1⟩ => ?_) I.quiet rfl)
  · refine ⟨_, rfl, kn, rfl, ⟨kvs, h2⟩, ⟨_, rfl, tr, n, c, _, rfl, hT, fun l hl => ⟨l, _, rfl, sqL_at upd_same, fun q hq => ⟨_, rfl, ?_⟩⟩⟩⟩
    have e : Same H (upd (upd H l (.lst (iV (stg D j)))) q (.tup (iV (stg D j)))) := (same_up hl).up ((same_up hl).free hq)
    obtain ⟨S1, S2⟩ := PfC.step (K := K) (d := d) (kn := kn) (tr := tr) (n := n) (c := c) (z := some (.ref tr)) hj e (e _ _ h2) (h3.trans e) h4 h5 (fun kv hkv => let ⟨i, b, q1, q2, q3, q4⟩ := h6 kv hkv; ⟨i, b, q1, q2, q3, e.tree q4⟩) (e.tree hT)
    refine ⟨kvs, keyT (stg D j), q, e _ _ h2, rfl, ?_, by rw [sizeLine_eq]; omega, fun v hv => S1 (by rw [hv]; simp), fun hv => S2 hv⟩
    rw [keyT_kV]
    exact upd_same
  · exact wpAny_execs_nil ⟨rfl, g1, H1, I1, q1⟩
end
/-! ### for tree in stages(..) -/
section
variable {P : Program} {w : World} {K : PySem.W.Frag} {mg : Str → Option Value} {base : Heap} {f : Addr} {cdv : Value} {A : Around} {outer : List Env} {s_0 : Shared} {H_0 : Hp} {E : XK}
/-- the state at the head of the loop: k of the generator's pieces are left -/
def PfI (X : Cx) (pins : List (Addr × Obj)) (a kn : Addr) (go : Obj) (g : Nat) (n c : Int) (D : Dk) (C : Nat → L2.St → Hp → Prop) (k : Nat) (s : Shared) : Prop :=
  ∃ gs σ H gp, s.gens[g]? = some gs ∧ Inv X (pins ++ gp) σ H s ∧ (a, go) ∈ gp ∧ gs.Goes (model X.prog X.w) X.A.in1 (gR X pins D C) (gY X pins a kn go n c D C) k (.send .none) (s.setGen g .running)
theorem pf_loop (T : Txt K mg) {k : Nat} (hr : Room (k + 4) (pfX P w K mg base f cdv A outer s_0 H_0 E).A) {pins : List (Addr × Obj)} {s : Shared} {H0 : Hp} {d kn a : Addr} {go : Obj} {g : Nat} {n c : Int} {D : Dk} {vs : Array Value} {pt : Pos} {Q : Flow → Shared → Prop}
    (hz : D.row.length ≤ 100000) (hgo : ∀ h : Heap, h.get? a = some go → h.IsGen a g) (hgc : go.cls = .type "generator") (hgd : go.data = .fields vs)
    (hP : PfI (pfX P w K mg base f cdv A outer s_0 H_0 E) pins a kn go g n c D (PfC K d kn n c D H0) (D.row.length + 1) s)
    (hQ : ∀ σ H s', Inv (pfX P w K mg base f cdv A outer s_0 H_0 E) pins σ H s' → PfC K d kn n c D H0 (D.row.length + 1) σ H → Q .next s') :
    codeAny (model P w) (pfX P w K mg base f cdv A outer s_0 H_0 E).A (.forLoop (.Name "tree" pt) (.ref a) (pfBody (defBody s_Disk_prefixes)) [] (pfX P w K mg base f cdv A outer s_0 H_0 E).env) (fun r s' => match r with | .ok f' => Q f' s' | .error e => cameBackBy (model P w) (pfX P w K mg base f cdv A outer s_0 H_0 E).A (pfX P w K mg base f cdv A outer s_0 H_0 E).env (pfX P w K mg base f cdv A outer s_0 H_0 E).xe e s') s := by
  have hp : PassesOwn (model P w) (pfX P w K mg base f cdv A outer s_0 H_0 E).A (pfX P w K mg base f cdv A outer s_0 H_0 E).env (pfX P w K mg base f cdv A outer s_0 H_0 E).xe := PassesOwn.never
  refine codeAny_forLoop_any (fun k s => PfI (pfX P w K mg base f cdv A outer s_0 H_0 E) pins a kn go g n c D (PfC K d kn n c D H0) k s) ?_ _ hP
  rintro k s1 ⟨gs, σ, H, gp, hgs, I, hgp, hG⟩
  have pa := I.pin (a, go) (List.mem_append_right _ (List.mem_append_right _ hgp))
  have hgsz : g + 1 ≤ s1.gens.size := (Array.getElem?_eq_some_iff.mp hgs).1
  refine wpAny_passesOwn hp ?_
  refine GenW.wpAny_gsz hgsz (next_genG (Er := fun _ _ => False) (F := gF (pfX P w K mg base f cdv A outer s_0 H_0 E) pins D (PfC K d kn n c D H0)) hr.hd I.nolimit hr.depth (hgo _ pa.1) hgs hG (fun v s₁ gs' hb hy hsz => ?_) (fun s₁ h1 h' hk hsz => ?_) fun e s₁ he => he.elim)
  · -- a tree
    obtain ⟨j, gp', H2, hj, ⟨σ2, tr, I2, hC2, hv, hT, hgp', hjr⟩, hkap⟩ := hy
    subst hv
    have I3 : Inv (pfX P w K mg base f cdv A outer s_0 H_0 E) (pins ++ gp') σ2 H2 (s₁.setGen g gs') := gensTo I2 rfl (fun _ _ e => e) (allBare_setGen I2.bare hb)
    have pa3 := I3.pin (a, go) (List.mem_append_right _ (List.mem_append_right _ hgp'))
    refine go_of pa3.1 hgc hgd (by decide) ?_
    refine wpAny_passesOwn hp (wpAny_assign_Name (store_g I3 (i := 2) (v := .ref tr) sc_Disk_prefixes.nd rfl rfl rfl fun s4 g4 I4 => ?_))
    obtain ⟨z, kvs, hσ, hC2'⟩ := id hC2
    have hC4 : PfC K d kn n c D H0 j (σ2.set 2 (some (.ref tr))) H2 := by
      subst hσ
      exact ⟨_, kvs, rfl, hC2'⟩
    refine wpAny_passesOwn hp (thn (pf_body T hr hz hjr I4 (by rw [hσ]; rfl) hC4 hT) fun fl s5 ⟨hfl, g5, H5, I5, hC5, e5⟩ => ?_)
    subst hfl
    have hg5 : s5.gens[g]? = some gs' := by
      rw [g5, g4]
      exact setGen_at (by rw [GenW.setGen_size] at hsz; exact hsz)
    have I6 : Inv (pfX P w K mg base f cdv A outer s_0 H_0 E) (pins ++ gp') (σ2.set 2 (some (.ref tr))) H5 (s5.setGen g .running) := gensTo I5 rfl (fun _ _ e => e) (allBare_setGen I5.bare rfl)
    have hk6 := hkap (s5.setGen g .running) ⟨_, H5, I6, e5, hC5⟩
    cases k with
    | zero => exact hk6.elim
    | succ m => exact ⟨m, Nat.lt_succ_self _, gs', _, H5, gp', hg5, I5, hgp', hk6⟩
  · -- the end
    obtain ⟨σ2, H2, I2, hC2⟩ := h1
    exact wpAny_execs_nil (hQ σ2 H2 _ (gensTo I2 rfl hk (allBare_setGen I2.bare rfl)) hC2)
end
/-! ### the walk: prefixes -/
theorem known_out {K : PySem.W.Frag} {H : Hp} {n c : Int} {D : Dk} : ∀ kvs : List (List L2.Key × V), (∀ kv ∈ kvs, ∃ i b, i ≤ D.row.length ∧ kv.1 = keyT (stg D i) ∧ kv.2 = .ref b ∧ TreeAt K H b n c (stg D i)) →
    ∃ as tss, kvs.map (·.2) = as.map V.ref ∧ Paired (fun a ts => TreeAt K H a n c ts) as tss ∧ (∀ ts ∈ tss, ∃ i, i ≤ D.row.length ∧ ts = stg D i) ∧ ∀ kv ∈ kvs, ∃ ts ∈ tss, kv.1 = keyT ts
  | [], _ => ⟨[], [], rfl, .nil, fun _ h => (List.not_mem_nil h).elim, fun _ h => (List.not_mem_nil h).elim⟩
  | kv :: r, h => by
    obtain ⟨as, tss, e1, e2, e3, e4⟩ := known_out r fun kv hkv => h kv (List.mem_cons_of_mem _ hkv)
    obtain ⟨i, b, q1, q2, q3, q4⟩ := h kv List.mem_cons_self
    refine ⟨b :: as, stg D i :: tss, by rw [List.map_cons, List.map_cons, e1, q3], .cons q4 e2, fun ts hts => ?_, fun kv' hkv => ?_⟩
    · rcases List.mem_cons.mp hts with z | z
      · exact ⟨i, q1, z⟩
      · exact e3 ts z
    · rcases List.mem_cons.mp hkv with z | z
      · exact ⟨_, List.mem_cons_self, by rw [z]; exact q2⟩
      · obtain ⟨ts, h1, h2⟩ := e4 kv' z
        exact ⟨ts, List.mem_cons_of_mem _ h1, h2⟩
section
variable {P : Program} {w : World} {K : PySem.W.Frag} {mg : Str → Option Value} {base : Heap}
def pfArgs : List Stmt → List Expr
  | [_, .For _ (.Call _ as _ _) _ _ _, _] => as
  | _ => []
structure Pres (n c : Int) (D : Dk) (tss : List (List Int)) : Prop where
  all : ∀ i, i ≤ D.row.length → puts D.base (D.row.take i) ∈ tss
  only : ∀ ts ∈ tss, ∃ i, i ≤ D.row.length ∧ ts = puts D.base (D.row.take i)
def spPrefixes (K : PySem.W.Frag) : Sp := fun vs H Q _ => ∃ d n c D, vs = [.ref d] ∧ DiskAt K H d n c D ∧ ∀ l as tss H', Same H H' → H' l = some (.lst (as.map V.ref)) → Paired (fun a ts => TreeAt K H' a n c ts) as tss → Pres n c D tss → as.length ≤ 100001 → Q (.ref l) H'
theorem ps_stages (T : Txt K mg) {f : Addr} {cdv : Value} {A : Around} {outer : List Env} {s_0 : Shared} {H_0 : Hp} {E : XK} (hr : Room 8 (pfX P w K mg base f cdv A outer s_0 H_0 E).A) :
    PS (pfX P w K mg base f cdv A outer s_0 H_0 E) (((defBody s_Disk_prefixes)[1]?).getD (.Pass ⟨0, 0, 0, 0⟩)) (fun D σ H => ∃ d kn n c Dd dx b t r z, σ = [some (.ref d), some (.ref kn), z] ∧ H kn = some (.dT []) ∧ H d = some (.ins (cD K) dx (diskFs b t r)) ∧ DiskF K H n c Dd b t r ∧
      ∀ σ' H', PfC K d kn n c Dd H (Dd.row.length + 1) σ' H' → D.nx σ' H') := by
  refine ⟨fun pins s σ H D I h => ?_⟩
  obtain ⟨d, kn, n, c, Dd, dx, b, t, r, z, hσ, hkn, hd, hf, hq⟩ := h
  subst hσ
  obtain ⟨fs, fd, FD, gm⟩ := T.f_stages
  obtain ⟨xs, hxs, hws⟩ := hf.row
  have ha : PA (pfX P w K mg base f cdv A outer s_0 H_0 E) (pfArgs (defBody s_Disk_prefixes)) _ := pa_cons (pe_fldK K (pv 0) (by rfl)) (pa_cons (pe_callTy call_list_of (by rfl) T.m_list (by decide +kernel) (pa_cons (pe_fldK K (pv 0) (by rfl)) pa_nil)) pa_nil)
  refine wpAny_For (wpAny_Call_Name_kw (ld_glob I (by rfl) gm ?_ (by decide))) (by intro _; rfl)
  refine PySem.W.callWith_K (h₀ := base) I.ok.mod.kin FD.kp (thn (ha.run _ pins s _ H (fun vs H1 => ∃ l, vs = [.ref b, .ref l] ∧ Same H H1 ∧ H1 l = some (.lst xs)) I ?_) fun us s1 ⟨vs, H1, I1, rv, q⟩ => ⟨I1.kIn, ?_⟩) rfl rfl
  · exact ⟨_, rfl, _, _, _, _, _, rfl, hd, T.i_Disk.cl, T.na_Disk_base, rfl, _, rfl, _, _, _, _, _, rfl, hd, T.i_Disk.cl, T.na_Disk_row, rfl, _, _, rfl, .inr hxs, fun l hl => ⟨l, rfl, same_up hl, upd_same⟩⟩
  obtain ⟨l, hvs, e1, hl⟩ := q
  subst hvs
  cases rv with
  | cons r1 rv =>
  cases rv with
  | cons r2 rv =>
  cases rv
  obtain rfl := r1
  obtain rfl := r2
  show wpAny _ _ (call (.ref fs) [.ref b, .ref l]) _ _ s1
  refine stages_made hr I1 FD fun L cdv' a go g s2 mm vs F hgo I2 hn htr hrw hHL hgs hgc hgd => ?_
  have pa2 := I2.pin (a, go) (List.mem_append_right _ (List.mem_append_right _ (List.mem_singleton.mpr rfl)))
  refine wpAny_pyIter_gen (hgo _ pa2.1) ?_
  have I3 : Inv (pfX P w K mg base f cdv A outer s_0 H_0 E) (pins ++ [(a, go)]) _ H1 (s2.setGen g .running) := gensTo I2 rfl (fun _ _ e => e) (allBare_setGen I2.bare rfl)
  have hC0 : PfC K d kn n c Dd H 0 [some (.ref d), some (.ref kn), z] H1 := ⟨z, [], rfl, e1 _ _ hkn, off_same.trans e1, Nat.le_refl _, fun i hi => absurd hi (Nat.not_lt_zero _), fun kv hkv => (List.not_mem_nil hkv).elim⟩
  refine pf_loop (H0 := H) (d := d) (kn := kn) (n := n) (c := c) (D := Dd) (k := 4) T hr hf.small hgo hgc hgd ⟨_, _, H1, [(a, go)], hgs, I2, List.mem_singleton.mpr rfl, rfl, ?_⟩ fun σ' H' s' J hC => ⟨σ', H', J, hq σ' H' hC⟩
  exact seg_first T F (hr.in1.deeper _) PfC.same PfC.kn hf.wok hf.small I3 hC0 (List.mem_singleton.mpr rfl) hn hHL htr hrw (e1.tree hf.base) ⟨xs, sqL_at hl, e1.wrs hws⟩
theorem ok_Disk_prefixes (T : Txt K mg) : C8.Met P w K mg base 9 (cD K) "prefixes" (spPrefixes K) [] := by
  refine mkmet T.i_Disk.cl T.f_Disk_prefixes sc_Disk_prefixes (fun vs H Q E h => ?_) (fun _ _ _ _ _ _ us hl => match us, hl with | [_], _ => rfl) (fun f cdv A outer s H vs Q E hr h => ?_)
  · obtain ⟨d, n, c, D, rfl, ⟨dx, b, t, r, hd, hf⟩, q⟩ := h
    rfl
  obtain ⟨d, n, c, D, rfl, ⟨dx, b, t, r, hd, hf⟩, q⟩ := h
  refine ⟨_, (pss_cons (ps_set (i := 1) sc_Disk_prefixes.nd rfl (Or.inl rfl) pe_dnewT) (pss_cons (ps_stages T hr) (pss_one (ps_ret (pe_listValsT rfl (pv 1) rfl T.m_list (by decide +kernel)))))), ?_⟩
  refine fun p hp => ⟨d, p, n, c, D, dx, b, t, r, none, rfl, upd_same, same_up hp _ _ hd, (same_up hp).diskF hf, fun σ' H' hC => ?_⟩
  obtain ⟨z, kvs, rfl, h2, h3, h4, h5, h6⟩ := hC
  obtain ⟨as, tss, e1, e2, e3, e4⟩ := known_out kvs h6
  have hsm := hf.small
  have hS : Same H H' := fun b o e => by
    refine h3 b o ?_
    have hb : b ≠ p := ne_of_none e hp
    rw [off_ne hb, upd_ne hb]
    exact e
  have hlen : as.length = kvs.length := by
    have := congrArg List.length e1
    simpa using this.symm
  refine ⟨_, rfl, _, _, rfl, h2, fun l hl => q l as tss _ (hS.up (hS.free hl)) (by rw [← e1]; exact upd_same) (Paired.mapP e2 fun a ts ht => (same_up hl).tree ht) ⟨fun i hi => ?_, e3⟩ (by omega)⟩
  have hv := h5 i (by omega)
  cases hx : valV kvs (keyT (stg D i)) with
  | none => exact absurd hx hv
  | some v =>
    unfold valV at hx
    cases hf2 : kvs.find? (fun kv => decide (kv.1 = keyT (stg D i))) with
    | none => rw [hf2] at hx; cases hx
    | some kv =>
      have hk : kv.1 = keyT (stg D i) := by simpa using List.find?_some hf2
      obtain ⟨ts, ht1, ht2⟩ := e4 kv (List.mem_of_find?_eq_some hf2)
      have := keyT_inj (ht2.symm.trans hk)
      have h' : stg D i ∈ tss := by
        rw [← this]
        exact ht1
      exact h'
end


end
/-! part P14 -/
section
/-! ### the walk: what a disk can have, what it can miss -/
section
variable {J : It} {H1 : Hp} {n : Nat} {Y : Nat → V → Hp → Prop} {g : TG} {wi1 : TI} {vs : List Nat} {σ : L2.St} {D : Addr} {Qd : Hp → Prop}
theorem dc2W (hD : H1 D = none) (w : Wk J H1 n Y)
    (hs : ∀ i x H, i < n → Same H1 H → Y i x H → ∀ Nx : Hp → Prop, (∀ H3, Same H H3 → Nx H3) → g x (wipe σ vs) H fun σ2 H2 => wipe σ2 vs = wipe σ vs ∧ wi1 σ2 H2 fun J1 H3 => J1.stop 0 H3 ∧ Nx H3)
    (hd : ∀ H, Same H1 H → H D = some (.dK []) → Qd H) :
    ∃ W : Nat → Nat → Hp → Prop, (∃ m, W 0 m (upd H1 D (.dK []))) ∧ ∀ i m H, W i m H →
      (J.stop i H ∧ Qd H) ∨ (J.go i H ∧ ∀ x H', J.yld i H x H' → g x (wipe σ vs) H' fun σ2 H2 => wipe σ2 vs = wipe σ vs ∧ wi1 σ2 H2 fun J1 H3 => J1.stop 0 H3 ∧ ∃ m', m' < m ∧ W (i + 1) m' H3) := by
  refine ⟨fun i m H => m = n - i ∧ i ≤ n ∧ Same H1 H ∧ H D = some (.dK []), ⟨n, by simp, Nat.zero_le _, same_up hD, upd_same⟩, ?_⟩
  rintro i m H ⟨rfl, hi, e, hk⟩
  by_cases hlt : i < n
  · obtain ⟨w1, w2⟩ := w.step i H hlt e
    refine .inr ⟨w1, fun x H' y => ?_⟩
    obtain ⟨e1, hy⟩ := w2 x H' y
    exact hs i x H' hlt (e.trans e1) hy _ fun H3 e3 => ⟨n - (i + 1), by omega, rfl, hlt, e.trans (e1.trans e3), e3 _ _ (e1 _ _ hk)⟩
  · have e0 : i = n := by omega
    subst e0
    exact .inl ⟨w.stop H e, hd H e hk⟩
end
theorem inV_mem {x : Int} {M : List Int} (h : x ∈ M) : inV (.int x) (iV M) = true := by
  unfold inV
  rw [List.any_eq_true]
  exact ⟨.int x, List.mem_map_of_mem h, by show eqV (.int x) (.int x) = true; simp [eqV]⟩
theorem flat_iV (M : List Int) : (iV M).all flatV = true := by
  rw [List.all_eq_true]
  intro x hx
  obtain ⟨y, _, rfl⟩ := List.mem_map.mp hx
  rfl
def MenusAt (K : PySem.W.Frag) (H : Hp) (D : Dk) (k : Nat) (xs : List V) : Prop := xs.length = k ∧ ∀ (j : Nat) (x : V), xs[j]? = some x → ∃ a M, x = .ref a ∧ SqL K H a (iV M) ∧ Menu D ((j : Int) + 1) M
theorem MenusAt.same {K : PySem.W.Frag} {H H' : Hp} {D : Dk} {k : Nat} {xs : List V} (e : Same H H') (h : MenusAt K H D k xs) : MenusAt K H' D k xs :=
  ⟨h.1, fun j x hx => by
    obtain ⟨a, M, h1, h2, h3⟩ := h.2 j x hx
    exact ⟨a, M, h1, e.sqL h2, h3⟩⟩
theorem MenusAt.at {K : PySem.W.Frag} {H : Hp} {D : Dk} {k : Nat} {xs : List V} (h : MenusAt K H D k xs) {v : Int} (h1 : 1 ≤ v) (h2 : v ≤ k) : ∃ a M, atI xs (v - 1) = some (.ref a) ∧ SqL K H a (iV M) ∧ Menu D v M := by
  have hlt : (v - 1).toNat < xs.length := by rw [h.1]; omega
  obtain ⟨a, M, h3, h4, h5⟩ := h.2 _ _ (List.getElem?_eq_getElem hlt)
  refine ⟨a, M, ?_, h4, ?_⟩
  · have e : v - 1 = ((v - 1).toNat : Int) := by omega
    rw [e]
    refine atI_nat ?_
    rw [List.getElem?_eq_getElem hlt, h3]
  · have e : (((v - 1).toNat : Nat) : Int) + 1 = v := by omega
    rw [← e]
    exact h5
theorem iV_first {M : List Int} (h : M ≠ []) : ∃ x ∈ M, atI (iV M) 0 = some (.int x) := by
  cases M with
  | nil => exact absurd rfl h
  | cons x r => exact ⟨x, List.mem_cons_self .., atI_nat (j := 0) rfl⟩
theorem iV_last {M : List Int} (h : M ≠ []) : ∃ x ∈ M, atI (iV M) (-1) = some (.int x) := by
  refine ⟨M.getLast h, List.getLast_mem h, ?_⟩
  have e := List.dropLast_concat_getLast h
  have : iV M = iV M.dropLast ++ [V.int (M.getLast h)] := by
    rw [show [V.int (M.getLast h)] = iV [M.getLast h] from rfl, ← iV_app, e]
  rw [this]
  exact atI_last _ _
theorem menu_one {D : Dk} {v : Int} {M : List Int} (h : Menu D v M) (h0 : D.row = []) : ∀ x ∈ M, x = lvl D.base v := fun x hx => by
  rcases (h.mem x).mp hx with h1 | ⟨u, h1, _⟩
  · exact h1
  · rw [h0] at h1; cases h1
section
variable {P : Program} {w : World} {K : PySem.W.Frag} {mg : Str → Option Value} {base : Heap}
def spMenus (K : PySem.W.Frag) : Sp := fun vs H Q _ => ∃ d n c D, vs = [.ref d] ∧ DiskAt K H d n c D ∧ ∀ l xs H', Same H H' → H' l = some (.lst xs) → MenusAt K H' D D.base.length xs → Q (.ref l) H'
theorem ok_Disk_menus (T : Txt K mg) : C8.Met P w K mg base 5 (cD K) "menus" (spMenus K) [] := by
  refine mkmet T.i_Disk.cl T.f_Disk_menus sc_Disk_menus (fun vs H Q E h => ?_) (fun _ _ _ _ _ _ us hl => match us, hl with | [_], _ => rfl) (fun f cdv A outer s H vs Q E hr h => ?_)
  · obtain ⟨d, n, c, D, rfl, hD, q⟩ := h
    rfl
  obtain ⟨d, n, c, D, rfl, hD, q⟩ := h
  obtain ⟨dx, b, t, r, hd, hf⟩ := id hD
  obtain ⟨dxb, tb, lb, hb, hbf⟩ := id hf.base
  have hl := hbf.tw.len
  have hn := hbf.tw.npos
  refine ⟨_, (pss_one (ps_ret (pe_lc (own := [("node", 1)]) (by rfl) sc_Disk_menus.nd (pi_range2 rfl T.m_range (pa_cons pe_int (pa_cons (pe_op op_mul pe_int (pe_callB (call_lenO (ok_Tree_len T) hr (by decide)) (by rfl) T.m_len (by decide +kernel) (pa_cons (pe_fldK K (pv 0) (by rfl)) pa_nil))) pa_nil))) (blkOk_by (own := [("node", 1)]) (N := n_Disk_menus) (sc := defScope s_Disk_menus) (by decide +kernel)) (fun _ _ _ _ _ => (pg_name (i := 1) sc_Disk_menus.nd rfl (Or.inl rfl))) (fun _ _ _ _ _ => pts_nil) (fun _ _ _ _ _ => (C8.pe_mt (ok_Disk_can_tell T) hr (by decide) (pv 0) (pa_cons (pv 1) pa_nil)))))), ?_⟩
  refine ⟨_, rfl, _, _, _, _, _, rfl, hd, T.i_Disk.cl, T.na_Disk_base, rfl, _, _, _, rfl, hb, b, n, c, D.base, rfl, hf.base, n, rfl, by omega, by omega, _, _, rfl, rfl, .inl ⟨by decide, by decide⟩, _, _, rfl, ⟨by decide, by decide, by omega, by omega⟩, fun L hL => ?_⟩
  refine lcR hL Wk.rng (small_of (by omega)) (fun i acc H => MenusAt K H D i acc) ⟨rfl, fun j x h => by simp at h⟩ (fun i acc H H' e h => h.same e) (fun i x H2 acc hi e hacc hlen y hR Nt ht => ?_) (fun H2 acc e hacc hR => ?_)
  · subst y
    refine ⟨rfl, _, rfl, _, _, _, rfl, e _ _ hd, rfl, _, rfl, d, _, n, c, D, rfl, e.disk hD, by omega, by omega, fun M l H3 e3 hl0 hl3 hM => ht _ _ e3 ?_⟩
    have e3' : Same (off H2 L) (off H3 L) := off_mono e3
    refine ⟨by rw [List.length_append, hR.1] <;> rfl, fun j x hx => ?_⟩
    by_cases hj : j < acc.length
    · rw [List.getElem?_append_left hj] at hx
      exact (hR.same e3').2 j x hx
    · rw [List.getElem?_append_right (by omega)] at hx
      have h1 : j - acc.length = 0 := by
        have := (List.getElem?_eq_some_iff.mp hx).1
        simp at this
        omega
      rw [h1] at hx
      have h2 : j = acc.length := by omega
      have hne : l ≠ L := (ne_of_none hacc hl0).symm
      refine ⟨l, M, (Option.some.inj hx).symm, sqL_at ((off_ne hne).trans hl3), ?_⟩
      have h3 : 1 + (i : Int) = (j : Int) + 1 := by
        have := hR.1
        omega
      rw [← h3]
      exact hM
  · refine q L acc H2 e hacc ?_
    have := hR.same off_same
    rwa [show (2 * n - 1).toNat = D.base.length by omega] at this
def spCanHave (K : PySem.W.Frag) : Sp := fun vs H Q _ => ∃ d a n c D t io, vs = [.ref d, .ref a, ordV io] ∧ DiskAt K H d n c D ∧ TreeAt K H a n c t ∧ Can io D t ∧ ∀ H', Same H H' → Q (.bl true) H'
theorem ok_Disk_can_have (T : Txt K mg) : C8.Met P w K mg base 10 (cD K) "can_have" (spCanHave K) [] := by
  refine mkmet T.i_Disk.cl T.f_Disk_can_have sc_Disk_can_have (fun vs H Q E h => ?_) (fun _ _ _ _ _ _ us hl => match us, hl with | [_, _, _], _ => rfl) (fun f cdv A outer s H vs Q E hr h => ?_)
  · obtain ⟨d, a, n, c, D, t, io, rfl, hD, hT, hc, q⟩ := h
    rfl
  obtain ⟨d, a, n, c, D, t, io, rfl, hD, hT, hc, q⟩ := h
  obtain ⟨dx, b, t0, r, hd, hf⟩ := id hD
  obtain ⟨dxb, tb, lb, hb, hbf⟩ := id hf.base
  obtain ⟨dxa, ta, la, ha, haf⟩ := id hT
  have hl := hbf.tw.len
  have hl2 := haf.tw.len
  have hn := hbf.tw.npos
  refine ⟨_, (pss_cons (ps_expr (C8.pe_c (ok_check_order T) hr (by decide) rfl (pa_cons (pv 2) pa_nil)))
      (pss_cons (ps_if (PW.pt (pw_or (pt_not (pt_val (pe_callB (C8.call_isC T.i_Tree) (by rfl) T.m_isinstance (by decide +kernel) (pa_cons (pv 1) (pa_cons (pe_glob (v := .ref (cT K)) rfl T.g_Tree rfl) pa_nil))))) (pw_or (pt_cmpR (op_ne) (pe_fldK K (pv 1) (by rfl)) (pe_fldK K (pe_fldK K (pv 0) (by rfl)) (by rfl)) (nomark _)) (pw_or1 (pt_cmpR (op_ne) (pe_callB (call_lenO (ok_Tree_len T) hr (by decide)) (by rfl) T.m_len (by decide +kernel) (pa_cons (pv 1) pa_nil)) (pe_callB (call_lenO (ok_Tree_len T) hr (by decide)) (by rfl) T.m_len (by decide +kernel) (pa_cons (pe_fldK K (pv 0) (by rfl)) pa_nil)) (nomark _)))))) (pss_one (ps_ret pe_bl)) pss_nil)
      (pss_cons (ps_if (pt_cmpR (op_eq) (pv 2) pe_str (nomark _)) (pss_one (ps_ret (pe_cmpR (op_inO (ok_Tree_eq T) hr (by decide)) (pv 1) (C8.pe_mt0 (ok_Disk_prefixes T) hr (by decide) (pv 0)) (by rfl)))) pss_nil)
      (pss_one (ps_ret (pe_callB (cr_all rfl) (by rfl) T.m_all (by decide +kernel) (pa_cons (pe_lc (own := [("told", 3), ("menu", 4)]) (by rfl) sc_Disk_can_have.nd (pi_zip (by rfl) T.m_zip (pa_cons (pe_pr (ok_Tree_told T) hr (by decide) (pv 1)) (pa_cons (C8.pe_mt0 (ok_Disk_menus T) hr (by decide) (pv 0)) pa_nil))) (blkOk_by (own := [("told", 3), ("menu", 4)]) (N := n_Disk_can_have) (sc := defScope s_Disk_can_have) (by decide +kernel)) (fun _ _ _ _ _ => (pg_tupK K (n := 2) rfl (pgs_cons (pg_name (i := 3) sc_Disk_can_have.nd rfl (Or.inl rfl)) (pgs_cons (pg_name (i := 4) sc_Disk_can_have.nd rfl (Or.inl rfl)) pgs_nil)))) (fun _ _ _ _ _ => pts_nil) (fun _ _ _ _ _ => (pe_cmpR ((op_in_seqK K)) (pv 3) (pv 4) (by rfl)))) pa_nil))))))), ?_⟩
  refine ⟨_, rfl, io, rfl, ?_⟩
  refine ⟨_, rfl, _, _, _, rfl, ha, true, rfl, iteF ?_⟩
  refine ⟨_, rfl, _, _, _, _, _, rfl, ha, T.i_Tree.cl, T.na_Tree_classes, rfl, _, rfl, _, _, _, _, _, rfl, hd, T.i_Disk.cl, T.na_Disk_base, rfl, _, _, _, _, _, rfl, hb, T.i_Tree.cl, T.na_Tree_classes, rfl, rfl, false, ?_, iteF ?_⟩
  · exact congrArg V.bl (by rw [decide_eq_true rfl] <;> rfl)
  refine ⟨_, rfl, _, _, _, rfl, ha, a, n, c, t, rfl, hT, n, rfl, by omega, by omega, _, rfl, _, _, _, _, _, rfl, hd, T.i_Disk.cl, T.na_Disk_base, rfl, _, _, _, rfl, hb, b, n, c, D.base, rfl, hf.base, n, rfl, by omega, by omega, rfl, false, ?_, iteF ?_⟩
  · exact congrArg V.bl (by rw [decide_eq_true rfl] <;> rfl)
  cases io with
  | true =>
    refine ⟨_, rfl, rfl, true, rfl, iteT ?_⟩
    refine ⟨_, rfl, _, rfl, _, _, _, rfl, hd, rfl, d, n, c, D, rfl, hD, fun l as tss H1 e1 hl1 hp hpre hz => ?_⟩
    obtain ⟨i, hi, rfl⟩ := hc
    obtain ⟨j, hj⟩ := List.mem_iff_getElem?.mp (hpre.all i hi)
    have hj2 : j < as.length := by
      rw [Paired.length hp]
      exact (List.getElem?_eq_some_iff.mp hj).1
    refine ⟨a, l, as, _, _, rfl, e1 _ _ ha, rfl, hl1, fun z hz => ?_, fun H2 e2 z hz => ?_, ⟨j, as[j], List.getElem?_eq_getElem hj2, fun H2 e2 => ?_⟩, fun H2 e2 => q _ (e1.trans e2)⟩
    · obtain ⟨k, hk⟩ := List.mem_iff_getElem?.mp hz
      obtain ⟨ts, _, dz, tz, lz, hz2, _⟩ := Paired.at hp hk
      exact ⟨_, _, hz2⟩
    · obtain ⟨k, hk⟩ := List.mem_iff_getElem?.mp hz
      obtain ⟨ts, _, hz2⟩ := Paired.at hp hk
      exact ⟨_, n, c, ts, _, e2.tree hz2, (e1.trans e2).tree hT, rfl⟩
    · obtain ⟨ts, h1, hz2⟩ := Paired.at hp (List.getElem?_eq_getElem hj2)
      rw [hj] at h1
      cases h1
      exact ⟨n, c, _, _, e2.tree hz2, (e1.trans e2).tree hT, (decide_eq_true rfl).symm⟩
  | false =>
    refine ⟨_, rfl, rfl, false, rfl, iteF ?_⟩
    refine ⟨_, rfl, _, _, _, rfl, ha, a, n, c, t, rfl, hT, fun l hl0 => ?_⟩
    have e1 := same_up (o := .lst (iV t)) hl0
    refine ⟨_, rfl, _, _, _, rfl, e1 _ _ hd, rfl, d, n, c, D, rfl, e1.disk hD, fun l2 xs H2 e2 hl2' hm => ?_⟩
    have hlq := e2.sqL (K := K) (sqL_at (upd_same (H := H) (a := l) (o := .lst (iV t))))
    have hlen : (iV t).length = xs.length := by rw [iV_len, hm.1]; omega
    refine ⟨l, l2, iV t, xs, rfl, hlq, sqL_at hl2', fun L hL => ?_⟩
    refine lcM hL (Wk.zip hlq (sqL_at hl2') hlen) (iV t) (fun _ => V.bl true) rfl (small_of (by rw [iV_len]; omega)) (fun i u x H3 h1 e y Nt ht => ?_) (fun H3 e h1 => ?_)
    · obtain ⟨z, x1, x2, rfl, hz, hx1, hx2⟩ := y
      obtain ⟨l3, M, rfl, hM, hMm⟩ := hm.2 i x2 hx2
      rw [List.getElem?_map] at hx1
      obtain ⟨lv, hlv, rfl⟩ := Option.map_eq_some_iff.mp hx1
      have hi : i < t.length := (List.getElem?_eq_some_iff.mp hlv).1
      have hlv2 : lv = lvl t ((i : Int) + 1) := by
        have := lvl_get (ts := t) (v := (i : Int) + 1) (by omega) (by omega)
        rw [show ((i : Int) + 1 - 1).toNat = i by omega, hlv] at this
        exact Option.some.inj this
      have hin : lv ∈ M := by
        refine (hMm.mem lv).mpr ?_
        have := (show ∀ v : Int, 1 ≤ v → v ≤ D.base.length → lvl t v = lvl D.base v ∨ ∃ w ∈ D.row, w.1 = v ∧ lvl t v = w.2 from hc) ((i : Int) + 1) (by omega) (by omega)
        rw [← hlv2] at this
        exact this
      refine ⟨_, _, rfl, sqT_at hz, rfl, _, _, rfl, _, _, rfl, rfl, rfl, _, rfl, _, rfl, _, _, rfl, .inl (e.sqL hM), rfl, flat_iV _, ?_⟩
      rw [inV_mem hin]
      exact ht _ (Same.refl _)
    · rw [(all_true _).1] at h1
      refine ⟨_, _, rfl, sqL_at h1, ?_⟩
      rw [(all_true _).2]
      exact q _ (e1.trans (e2.trans e))
def spMissable (K : PySem.W.Frag) : Sp := fun vs H Q _ => ∃ d n c D io, vs = [.ref d, ordV io] ∧ DiskAt K H d n c D ∧ (if io then ∀ i, i ≤ D.row.length → Up n (puts D.base (D.row.take i)) else D.row = [] ∧ Up n D.base) ∧ ∀ l H', Same H H' → H' l = some (.lst []) → Q (.ref l) H'
theorem ok_Disk_missable (T : Txt K mg) : C8.Met P w K mg base 11 (cD K) "missable" (spMissable K) [] := by
  refine mkmet T.i_Disk.cl T.f_Disk_missable sc_Disk_missable (fun vs H Q E h => ?_) (fun _ _ _ _ _ _ us hl => match us, hl with | [_, _], _ => rfl) (fun f cdv A outer s H vs Q E hr h => ?_)
  · obtain ⟨d, n, c, D, io, rfl, hD, hu, q⟩ := h
    rfl
  obtain ⟨d, n, c, D, io, rfl, hD, hu, q⟩ := h
  obtain ⟨dx, b, t0, r, hd, hf⟩ := id hD
  obtain ⟨dxb, tb, lb, hb, hbf⟩ := id hf.base
  have hl := hbf.tw.len
  have hn := hbf.tw.npos
  refine ⟨_, (pss_cons (ps_expr (C8.pe_c (ok_check_order T) hr (by decide) rfl (pa_cons (pv 1) pa_nil)))
      (pss_cons (ps_if (pt_cmpR (op_eq) (pv 1) pe_str (nomark _)) (pss_cons (ps_setDc2E (i := 2) (own := [("tree", 7), ("page", 5)]) (by rfl) sc_Disk_missable.nd rfl rfl (sw_trueD rfl rfl rfl (by decide +kernel)) (pi_listK K (C8.pe_mt0 (ok_Disk_prefixes T) hr (by decide) (pv 0))) (blkOk_by (own := [("tree", 7), ("page", 5)]) (N := n_Disk_missable) (sc := defScope s_Disk_missable) (by decide +kernel)) (fun _ _ _ _ _ => (pg_name (i := 7) sc_Disk_missable.nd rfl (Or.inl rfl))) (fun _ _ _ _ _ => (pi_listK K (C8.pe_mt0 (ok_Tree_missed T) hr (by decide) (pv 7)))))
      (pss_one (ps_ret (pe_callB cr_sortedI (by rfl) T.m_sorted (by decide +kernel) (pa_cons (pe_lock (pe_lc (own := [("page", 5)]) (by rfl) sc_Disk_missable.nd (pi_keys (pv 2)) (blkOk_by (own := [("page", 5)]) (N := n_Disk_missable) (sc := defScope s_Disk_missable) (by decide +kernel)) (fun _ _ _ _ _ => (pg_name (i := 5) sc_Disk_missable.nd rfl (Or.inl rfl))) (fun _ _ _ _ _ => pts_nil) (fun _ _ _ _ _ => (pe_callTy call_int1 (by rfl) T.m_int (by decide +kernel) (pa_cons (pv 5) pa_nil))))) pa_nil))))) pss_nil)
      (pss_cons (ps_set (i := 3) sc_Disk_missable.nd rfl (Or.inr rfl) (C8.pe_mt0 (ok_Disk_menus T) hr (by decide) (pv 0)))
      (pss_cons (ps_set (i := 4) sc_Disk_missable.nd rfl (Or.inl rfl) (pe_lst pa_nil))
      (pss_cons (ps_for PassesOwn.never rfl (pi_range1 rfl T.m_range (pa_cons (pe_callB (call_lenO (ok_Tree_len T) hr (by decide)) (by rfl) T.m_len (by decide +kernel) (pa_cons (pe_fldK K (pv 0) (by rfl)) pa_nil)) pa_nil)) (pg_name (i := 5) sc_Disk_missable.nd rfl (Or.inl rfl)) (pss_cons (ps_set (i := 6) sc_Disk_missable.nd rfl (Or.inl rfl) (C8.pe_mt (ok_Tree_way T) hr (by decide) (pe_fldK K (pv 0) (by rfl)) (pa_cons (pv 5) pa_nil)))
      (pss_one (ps_if (pt_cmpR (op_gt) (pe_ix (ix_listK K) (pe_ix (ix_listK K) (pv 3) (pe_op op_sub (pe_ix (ix_listK K) (pv 6) (pe_un un_neg pe_int) (fun _ _ => rfl)) pe_int) (fun _ _ => rfl)) (pe_un un_neg pe_int) (fun _ _ => rfl)) (pe_callB (cr_min rfl) (by rfl) T.m_min (by decide +kernel) (pa_cons (pe_lc (own := [("node", 8)]) (by rfl) sc_Disk_missable.nd (pi_listK K (pe_slice (sl_listK K) (pv 6) po_none (po_some (pe_un un_neg pe_int)))) (blkOk_by (own := [("node", 8)]) (N := n_Disk_missable) (sc := defScope s_Disk_missable) (by decide +kernel)) (fun _ _ _ _ _ => (pg_name (i := 8) sc_Disk_missable.nd rfl (Or.inl rfl))) (fun _ _ _ _ _ => pts_nil) (fun _ _ _ _ _ => (pe_callTy call_int1 (by rfl) T.m_int (by decide +kernel) (pa_cons (pe_ix (ix_listK K) (pe_ix (ix_listK K) (pv 3) (pe_op op_sub (pv 8) pe_int) (fun _ _ => rfl)) pe_int (fun _ _ => rfl)) pa_nil)))) pa_nil)) (nomark _)) (pss_one (ps_expr (pe_bm PySem.F.plainAttrs_list PySem.F.slot_list_append PySem.F.type_list_append mt_append (pv 4) (pa_cons (pv 5) pa_nil)))) pss_nil))))
      (pss_one (ps_ret (pv 4)))))))), ?_⟩
  refine ⟨_, rfl, io, rfl, ?_⟩
  cases io with
  | true =>
    refine ⟨_, rfl, rfl, true, rfl, iteT ?_⟩
    refine ⟨_, rfl, _, _, _, rfl, hd, rfl, d, n, c, D, rfl, hD, fun l as tss H1 e1 hl1 hp hpre hz => ?_⟩
    refine ⟨l, rfl, ⟨_, sqL_at hl1⟩, fun L hL => ?_⟩
    refine dc2W hL (Wk.list (sqL_at hl1)) (fun i x H2 hi e y Nx hN => ?_) (fun H2 e hk => ?_)
    · rw [List.getElem?_map] at y
      obtain ⟨z, hz1, rfl⟩ := Option.map_eq_some_iff.mp y
      obtain ⟨ts, h1, h2⟩ := Paired.at hp hz1
      obtain ⟨j, hj, rfl⟩ := hpre.only ts (List.mem_of_getElem? h1)
      have h3 := e.tree h2
      obtain ⟨dz, tz, lz, hz2, _⟩ := id h3
      exact ⟨rfl, _, rfl, _, _, _, rfl, hz2, rfl, z, n, c, _, rfl, h3, hu j hj, fun l3 H3 e3 hl3 hl3' => ⟨l3, rfl, ⟨_, sqL_at hl3'⟩, ⟨_, sqL_at hl3', Nat.le_refl _⟩, hN _ e3⟩⟩
    · refine ⟨L, _, hk, True.intro, fun od => ⟨_, rfl, L, od, rfl, .inl ⟨[], upd_same, fun C hC => ?_⟩⟩⟩
      have hne : C ≠ L := by
        intro z
        rw [z, upd_same] at hC
        cases hC
      refine lcM hC (Wk.keys upd_same) ([] : List Int) V.int rfl (small_of (by decide)) (fun i u x H5 h1 e y Nt ht => by simp at h1) (fun H5 e5 h1 => ?_)
      have hfz := e5 _ _ (upd_same (H := H2) (a := L) (o := .frz od (.dK [])))
      refine ⟨hfz, C, [], rfl, sqL_at ((upd_ne hne).trans h1), fun M l3 hperm _ hl3 => ?_⟩
      have hM : M = [] := List.perm_nil.mp hperm
      subst hM
      have e6 : Same H (upd H5 L (.dK [])) := fun z o hz => by
        have hz1 := e1 z o hz
        rw [upd_ne (ne_of_none hz1 hL)]
        refine e5 z o ?_
        rw [upd_ne (ne_of_none hz1 hL)]
        exact e z o hz1
      exact q l3 _ (e6.up (e6.free hl3)) upd_same
  | false =>
    obtain ⟨h0, hup⟩ := hu
    refine ⟨_, rfl, rfl, false, rfl, iteF ?_⟩
    refine ⟨_, rfl, _, _, _, rfl, hd, rfl, d, n, c, D, rfl, hD, fun l2 xs H2 e2 hl2 hm => ?_⟩
    refine ⟨le_small (Nat.le_of_ble_eq_true rfl), fun p hp => ?_⟩
    have e3 := e2.up (o := .lst []) (e2.free hp)
    have hl3 := same_up (o := .lst []) hp _ _ hl2
    have hm3 := hm.same (same_up (o := .lst []) hp)
    have hp3 := upd_same (H := H2) (a := p) (o := .lst [])
    generalize upd H2 p (.lst []) = H3 at e3 hl3 hm3 hp3 ⊢
    refine ⟨_, rfl, _, _, _, _, _, rfl, (e3 _ _ hd), T.i_Disk.cl, T.na_Disk_base, rfl, _, _, _, rfl, e3 _ _ hb, b, n, c, D.base, rfl, e3.tree hf.base, n, rfl, by omega, by omega, _, rfl, by omega, by omega, ?_⟩
    refine for_range (fun i σ H' => ∃ z5 z6, σ = [some (.ref d), some (.str "anyhow"), none, some (.ref l2), some (.ref p), z5, z6, none, none] ∧ Same H3 H') ⟨none, none, rfl, Same.refl _⟩ ?_ ?_
    · rintro i σ H4 hi ⟨z5, z6, rfl, e4⟩
      have i0 : (0 : Int) ≤ 0 + (i : Int) := by omega
      have i1 : 0 + (i : Int) < n := by omega
      generalize (0 : Int) + (i : Int) = pg at i0 i1
      have hd4 := (e3.trans e4) _ _ hd
      have hb4 := (e3.trans e4) _ _ hb
      refine ⟨_, rfl, _, _, _, _, _, rfl, hd4, T.i_Disk.cl, T.na_Disk_base, rfl, _, _, _, rfl, hb4, rfl, _, rfl, b, pg, n, c, D.base, rfl, (e3.trans e4).tree hf.base, i0, i1, fun y H5 e5 hy0 hy => ?_⟩
      have hw : way n pg = (up ((n + pg) / 2)).reverse ++ [n + pg] := by rw [way, up_pos (by omega), List.reverse_cons]
      have hlast : atI (iV (way n pg)) (-1) = some (.int (n + pg)) := by
        rw [hw, iV_app]
        exact atI_last _ _
      have e45 := e4.trans e5
      have hl5 := e45 _ _ hl3
      have hm5 := hm3.same e45
      obtain ⟨am, M, hM1, hM2, hM3⟩ := hm5.at (v := n + pg) (by omega) (by omega)
      obtain ⟨lv, hlv1, hlv2⟩ := iV_last hM3.ne
      have hlv3 := menu_one hM3 h0 lv hlv1
      refine ⟨_, rfl, _, rfl, _, rfl, _, _, _, _, rfl, rfl, sqL_at hy, hlast, _, _, rfl, rfl, _, _, _, _, rfl, rfl, sqL_at hl5, hM1, _, rfl, _, _, _, _, rfl, rfl, hM2, hlv2, ?_⟩
      refine ⟨_, rfl, _, rfl, _, rfl, _, _, rfl, sqL_at hy, fun sl hsl => ?_⟩
      have hcut : cutV (iV (way n pg)) none (some (-1)) = iV (up ((n + pg) / 2)).reverse := by
        have h1 : HT.sIx (iV (way n pg)).length (iV (way n pg)).length (some (-1)) = (iV (way n pg)).length - 1 := by
          show (if (-1 : Int) < 0 then (-1 + ((iV (way n pg)).length : Int)).toNat else min (-1 : Int).toNat (iV (way n pg)).length) = _
          rw [if_pos (by decide)]
          omega
        rw [cutV, h1, HT.sIx_none, List.drop_zero, hw, iV_app, Nat.sub_zero]
        exact List.take_left' (by simp)
      have hsl2 := upd_same (H := H5) (a := sl) (o := .lst (cutV (iV (way n pg)) none (some (-1))))
      have e6 := same_up (o := .lst (cutV (iV (way n pg)) none (some (-1)))) hsl
      generalize upd H5 sl (.lst (cutV (iV (way n pg)) none (some (-1)))) = H6 at hsl2 e6 ⊢
      rw [hcut] at hsl2
      refine ⟨_, rfl, ⟨_, sqL_at hsl2⟩, fun L hL => ?_⟩
      have hlenw : (up ((n + pg) / 2)).length ≤ ((n + pg) / 2).toNat := up_len _ (Nat.le_refl _)
      refine lcM hL (Wk.list (sqL_at hsl2)) (up ((n + pg) / 2)).reverse (fun v => V.int (lvl D.base v)) iV_len (small_of (by rw [iV_len, List.length_reverse]; omega)) (fun k u x H7 h1 e y7 Nt ht => ?_) (fun H7 e7 h1 => ?_)
      · rw [List.getElem?_map, h1] at y7
        obtain rfl : x = .int u := (Option.some.inj y7).symm
        obtain ⟨u1, u2⟩ := up_mem _ (Nat.le_refl _) (List.mem_reverse.mp (List.mem_of_getElem? h1))
        have e67 := e6.trans e
        obtain ⟨am', M', hM1', hM2', hM3'⟩ := (hm5.same e67).at (v := u) u1 (by omega)
        obtain ⟨lv', hlv1', hlv2'⟩ := iV_first hM3'.ne
        have hlv3' := menu_one hM3' h0 lv' hlv1'
        subst hlv3'
        exact ⟨rfl, _, rfl, _, rfl, _, _, rfl, rfl, _, _, _, _, rfl, rfl, sqL_at (e67 _ _ hl5), hM1', _, _, _, _, rfl, rfl, hM2', hlv2', .inl ⟨_, rfl, ht _ (Same.refl _)⟩⟩
      · have h2 : (up ((n + pg) / 2)).reverse.map (fun v => V.int (lvl D.base v)) = ((up ((n + pg) / 2)).reverse.map (lvl D.base)).map V.int := by rw [List.map_map] <;> rfl
        rw [h2] at h1
        refine ⟨_, _, rfl, sqL_at h1, ?_, fun m hm1 hm2 => ?_⟩
        · rw [List.length_map, List.length_reverse, up_pos (by omega)]
          exact Nat.succ_pos _
        refine ⟨_, _, rfl, rfl, _, rfl, iteD (fun hlt => ?_) fun _ => ⟨_, _, rfl, e45.trans (e6.trans e7)⟩⟩
        obtain ⟨v, hv, rfl⟩ := List.mem_map.mp hm1
        have hv2 := List.mem_reverse.mp hv
        have h3 := up_ge hup _ (Nat.le_refl _) (by omega) hv2
        have h4 := hup (n + pg) (by omega) (by omega)
        rw [hlv3] at hlt
        omega
    · rintro σ H4 ⟨z5, z6, rfl, e4⟩
      exact ⟨_, rfl, q p _ (e3.trans e4) (e4 _ _ hp3)⟩
end


end
/-! part P15 -/
section
/-! ### plain: the rows of a deed -/
theorem lowUp_len : ∀ (k : Nat) {ts : List Int} {v : Int}, v.toNat ≤ k → (lowUp ts v).length ≤ k
  | k, ts, v, hk => by
    by_cases h1 : v < 1
    · rw [lowUp_neg h1]; exact Nat.zero_le _
    · cases k with
      | zero => omega
      | succ k =>
        by_cases hg : gr ts v < lvl ts v
        · rw [lowUp_lt (by omega) hg, List.length_cons]
          exact Nat.succ_le_succ (lowUp_len k (by omega))
        · rw [lowUp_ge (by omega) hg]
          exact Nat.le_succ_of_le (lowUp_len k (by omega))
theorem lowUp_ok {n c : Int} : ∀ (k : Nat) {ts : List Int} {v : Int}, v.toNat ≤ k → v < n → TW n c ts → ∀ w ∈ lowUp ts v, WOk n c w
  | k, ts, v, hk, hv, tw, w, hw => by
    by_cases h1 : v < 1
    · rw [lowUp_neg h1] at hw; cases hw
    · cases k with
      | zero => omega
      | succ k =>
        have hb := gr_bound tw (v := v) (by omega) hv
        by_cases hg : gr ts v < lvl ts v
        · rw [lowUp_lt (by omega) hg] at hw
          rcases List.mem_cons.mp hw with rfl | hw
          · exact ⟨by show 1 ≤ v; omega, by show v < 2 * n; omega, hb.1, hb.2⟩
          · exact lowUp_ok k (by omega) (by omega) (tw.put hb) w hw
        · rw [lowUp_ge (by omega) hg] at hw
          exact lowUp_ok k (by omega) (by omega) tw w hw
theorem raise_ok {n c : Int} {ts : List Int} {d : Deed} (tw : TW n c ts) (hd : DeedOk n c d) : (raiseRow ts n d.page d.lv).length ≤ 64 ∧ ∀ w ∈ raiseRow ts n d.page d.lv, WOk n c w := by
  obtain ⟨p1, p2, l1, l2⟩ := hd
  have hn := tw.npos
  constructor
  · unfold raiseRow
    rw [List.length_map]
    refine Nat.le_trans (List.length_filter_le _ _) (Nat.le_trans (way_len _ _) (by omega))
  · intro w hw
    unfold raiseRow at hw
    obtain ⟨v, hv, rfl⟩ := List.mem_map.mp hw
    obtain ⟨v1, v2⟩ := way_mem (List.mem_filter.mp hv).1
    exact ⟨v1, by show v < 2 * n; omega, l1, l2⟩
theorem low_ok {n c : Int} {ts : List Int} {v l : Int} (tw : TW n c ts) (v1 : 1 ≤ v) (v2 : v < 2 * n) (l1 : 0 ≤ l) (l2 : l ≤ c) : (lowRow ts v l).length ≤ 64 ∧ ∀ w ∈ lowRow ts v l, WOk n c w := by
  have hn := tw.npos
  unfold lowRow
  split
  · exact ⟨Nat.zero_le _, fun w hw => by cases hw⟩
  · refine ⟨?_, fun w hw => ?_⟩
    · have := lowUp_len (ts := put ts (v, l)) (v := v / 2) _ (Nat.le_refl _)
      rw [List.length_cons]
      omega
    · rcases List.mem_cons.mp hw with rfl | hw
      · exact ⟨v1, v2, l1, l2⟩
      · exact lowUp_ok _ (Nat.le_refl _) (by omega) (tw.put ⟨l1, l2⟩) w hw
theorem rows_ok {p : Par} {n c : Int} {ts : List Int} {d : Deed} (tw : TW n c ts) (hd : DeedOk n c d) : (rows p n ts d).length ≤ 64 ∧ ∀ w ∈ rows p n ts d, WOk n c w := by
  obtain ⟨r1, r2⟩ := raise_ok tw hd
  obtain ⟨p1, p2, l1, l2⟩ := hd
  have hn := tw.npos
  obtain ⟨q1, q2⟩ := low_ok (v := n + d.page) (l := d.lv) tw (by omega) (by omega) l1 l2
  unfold rows
  split
  · split
    · exact ⟨r1, r2⟩
    · exact ⟨by rw [List.length_reverse]; exact r1, fun w hw => r2 w (List.mem_reverse.mp hw)⟩
  · split
    · exact ⟨by rw [List.length_reverse]; exact q1, fun w hw => q2 w (List.mem_reverse.mp hw)⟩
    · exact ⟨q1, q2⟩
theorem aft1_len {f : Bool} {D : Dk} {w : Wr} : (aft1 f D w).row.length ≤ D.row.length + 1 := by
  cases f
  · show (D.row ++ [w]).length ≤ _
    rw [List.length_append] <;> exact Nat.le_refl _
  · exact Nat.zero_le _
theorem afts_snoc {f : Bool} {D : Dk} {ws : List Wr} {w : Wr} : afts f D (ws ++ [w]) = aft1 f (afts f D ws) w := by simp [afts]
theorem afts_len {f : Bool} : ∀ {ws : List Wr} {D : Dk}, (afts f D ws).row.length ≤ D.row.length + ws.length
  | [], _ => Nat.le_refl _
  | w :: ws, D => by
    have h1 := afts_len (f := f) (ws := ws) (D := aft1 f D w)
    have h2 := aft1_len (f := f) (D := D) (w := w)
    rw [List.length_cons]
    show (afts f (aft1 f D w) ws).row.length ≤ _
    omega
/-! ### the walk: deeds -/
section
variable {P : Program} {w : World} {K : PySem.W.Frag} {mg : Str → Option Value} {base : Heap}
theorem word_ok (b : Bool) : ∃ x, wordV b = .str x ∧ inV (.str x) [.str "raise", .str "lower"] = true := by
  cases b
  · exact ⟨"lower", rfl, by decide +kernel⟩
  · exact ⟨"raise", rfl, by decide +kernel⟩
def spIsDeed (K : PySem.W.Frag) : Sp := fun vs H Q _ => ∃ a x n c ts, vs = [.ref a, x] ∧ TreeAt K H a n c ts ∧ ((∃ d, DeedAt K H x d ∧ DeedOk n c d ∧ Q (.bl true) H) ∨ ∃ p xs, x = .ref p ∧ SqT K H p xs ∧ xs.length ≠ 3 ∧ Q (.bl false) H)
theorem ok_is_deed (T : Txt K mg) : C8.Cal P w K mg base 3 "is_deed" (spIsDeed K) [] := by
  refine mkcal T.f_is_deed sc_is_deed (fun vs H Q E h => ?_) (fun _ _ _ _ _ _ us hl => match us, hl with | [_, _], _ => rfl) (fun f cdv A outer s H vs Q E hr h => ?_)
  · obtain ⟨a, x, n, c, ts, rfl, hT, h⟩ := h
    rfl
  obtain ⟨a, x, n, c, ts, rfl, hT, h⟩ := h
  obtain ⟨dx, t, lv, ha, hf⟩ := id hT
  have hn := hf.tw.npos
  refine ⟨_, (pss_cons (ps_if (PW.pt (pw_or (pt_not (pt_val (pe_callB (call_isiK K) (by rfl) T.m_isinstance (by decide +kernel) (pa_cons (pv 1) (pa_cons (pe_bltn (v := .ty "tuple") (by rfl) T.m_tuple (by decide +kernel) rfl) pa_nil))))) (pw_or (pt_cmpR (op_ne) (pe_callB (call_lenK K) (by rfl) T.m_len (by decide +kernel) (pa_cons (pv 1) pa_nil)) pe_int (nomark _)) (pw_or1 (pt_not (pt_val (C8.pe_c (ok_is_one_of T) hr (by decide) rfl (pa_cons (pe_ix (ix_tupK K) (pv 1) pe_int (fun _ _ => rfl)) (pa_cons (pe_glob (v := .ref (He.ga K "WORDS")) rfl T.g_WORDS rfl) pa_nil))))))))) (pss_one (ps_ret pe_bl)) pss_nil)
      (pss_one (ps_ret (pe_and (C8.pe_c (ok_is_count T) hr (by decide) rfl (pa_cons (pe_ix (ix_tupK K) (pv 1) pe_int (fun _ _ => rfl)) (pa_cons pe_int (pa_cons (pe_op op_sub (pe_callB (call_lenO (ok_Tree_len T) hr (by decide)) (by rfl) T.m_len (by decide +kernel) (pa_cons (pv 0) pa_nil)) pe_int) pa_nil)))) (pe_one (C8.pe_c (ok_is_count T) hr (by decide) rfl (pa_cons (pe_ix (ix_tupK K) (pv 1) pe_int (fun _ _ => rfl)) (pa_cons pe_int (pa_cons (pe_fldK K (pv 0) (by rfl)) pa_nil))))))))), ?_⟩
  rcases h with ⟨d, ⟨p, rfl, hp⟩, ⟨p1, p2, l1, l2⟩, q⟩ | ⟨p, xs, rfl, hp, h3, q⟩
  · obtain ⟨s, hs, hs2⟩ := word_ok d.up
    refine ⟨_, rfl, _, _, _, _, true, rfl, .ty _, ty_tup hp, kit_ty (by decide +kernel), true, rfl, iteF ?_⟩
    refine ⟨_, rfl, _, _, rfl, .inr ⟨_, hp, rfl⟩, rfl, false, rfl, iteF ?_⟩
    refine ⟨_, rfl, _, _, _, _, rfl, rfl, hp, (show atI _ (0 : Int) = some (wordV d.up) from rfl), s, _, _, congrArg (fun z => [z, V.ref (He.ga K "WORDS")]) hs, T.q_WORDS _, rfl, hs2, true, rfl, iteF ?_⟩
    refine ⟨_, rfl, _, _, _, _, rfl, rfl, hp, (show atI _ (1 : Int) = some (.int d.page) from rfl), _, rfl, _, _, _, rfl, ha, a, n, c, ts, rfl, hT, n, rfl, by omega, by omega, _, _, rfl, rfl, _, _, _, rfl, p1, by omega, true, rfl, iteT ?_⟩
    exact ⟨_, rfl, _, _, _, _, rfl, rfl, hp, (show atI _ (2 : Int) = some (.int d.lv) from rfl), _, rfl, _, _, _, _, _, rfl, ha, T.i_Tree.cl, T.na_Tree_classes, rfl, _, _, _, rfl, l1, l2, q⟩
  · refine ⟨_, rfl, _, _, _, _, true, rfl, .ty _, ty_tup hp, kit_ty (by decide +kernel), true, rfl, iteF ?_⟩
    refine ⟨_, rfl, _, _, rfl, .inr ⟨_, hp, rfl⟩, rfl, true, ?_, iteT q⟩
    refine congrArg V.bl ?_
    rw [decide_eq_false] <;> try rfl
    intro z
    injection z with z
    omega
def spDeedRow (K : PySem.W.Frag) : Sp := fun vs H Q _ => ∃ s a x p n c ts d, vs = [.ref s, .ref a, x] ∧ SetAt K H s p ∧ TreeAt K H a n c ts ∧ DeedAt K H x d ∧ DeedOk n c d ∧ ∀ r H', Same H H' → RowL K H' r (rows p n ts d) → Q (.ref r) H'
theorem ok_deed_row (T : Txt K mg) : C8.Cal P w K mg base 10 "deed_row" (spDeedRow K) [] := by
  refine mkcal T.f_deed_row sc_deed_row (fun vs H Q E h => ?_) (fun _ _ _ _ _ _ us hl => match us, hl with | [_, _, _], _ => rfl) (fun f cdv A outer s H vs Q E hr h => ?_)
  · obtain ⟨s, a, x, p, n, c, ts, d, rfl, hS, hT, hx, hd, q⟩ := h
    rfl
  obtain ⟨s, a, x, p, n, c, ts, d, rfl, hS, hT, hx, hd, q⟩ := h
  obtain ⟨dx, t, lv, ha, hf⟩ := id hT
  obtain ⟨dxs, hs⟩ := id hS
  have hn := hf.tw.npos
  obtain ⟨p1, p2, l1, l2⟩ := id hd
  obtain ⟨pt, rfl, hp⟩ := id hx
  refine ⟨_, (pss_cons (ps_expr (C8.pe_c (ok_check_setting T) hr (by decide) rfl (pa_cons (pv 0) pa_nil)))
      (pss_cons (ps_expr (C8.pe_c (ok_check_tree T) hr (by decide) rfl (pa_cons (pv 1) pa_nil)))
      (pss_cons (ps_if (pt_not (pt_val (C8.pe_c (ok_is_deed T) hr (by decide) rfl (pa_cons (pv 1) (pa_cons (pv 2) pa_nil))))) (pss_one ps_never) pss_nil)
      (pss_cons (ps_asg (pv 2) (pg_tupK K (n := 3) rfl (pgs_cons (pg_name (i := 3) sc_deed_row.nd rfl (Or.inl rfl)) (pgs_cons (pg_name (i := 4) sc_deed_row.nd rfl (Or.inl rfl)) (pgs_cons (pg_name (i := 5) sc_deed_row.nd rfl (Or.inl rfl)) pgs_nil)))))
      (pss_cons (ps_if (pt_cmpR (op_eq) (pv 3) pe_str (nomark _)) (pss_one (ps_ret (pe_cK (ok_raising T) hr (by decide) rfl (pa_cons (pv 1) (pa_cons (pv 4) (pa_cons (pv 5) pa_nil))) (pk_cons (pe_cmpR (op_eq) (pe_fldK K (pv 0) (by rfl)) pe_str (nomark _)) pk_nil)))) pss_nil)
      (pss_one (ps_ret (pe_cK (ok_lowering T) hr (by decide) rfl (pa_cons (pv 1) (pa_cons (C8.pe_mt (ok_Tree_leaf T) hr (by decide) (pv 1) (pa_cons (pv 4) pa_nil)) (pa_cons (pv 5) pa_nil))) (pk_cons (pe_cmpR (op_eq) (pe_fldK K (pv 0) (by rfl)) pe_str (nomark _)) pk_nil))))))))), ?_⟩
  refine ⟨_, rfl, s, p, rfl, hS, ?_⟩
  refine ⟨_, rfl, a, n, c, ts, rfl, hT, ?_⟩
  refine ⟨_, rfl, _, rfl, a, .ref pt, n, c, ts, rfl, hT, .inl ⟨d, hx, hd, true, rfl, iteF ?_⟩⟩
  refine ⟨_, rfl, _, _, rfl, hp, rfl, _, _, rfl, _, _, rfl, _, _, rfl, rfl, ?_⟩
  obtain ⟨up, page, l⟩ := d
  obtain ⟨ra, la, fr, fl, io, me⟩ := p
  dsimp only at p1 p2 l1 l2
  cases up with
  | true =>
    refine ⟨_, rfl, rfl, true, rfl, iteT ?_⟩
    refine ⟨_, rfl, _, rfl, _, rfl, _, rfl, _, _, _, _, _, rfl, hs, T.i_Setting.cl, T.na_Setting_raises, rfl, ?_⟩
    have hq : scal (side ra) (.str "above") = true ∧ decide (side ra = .str "above") = ra := by cases ra <;> exact ⟨rfl, by decide +kernel⟩
    refine ⟨hq.1, rfl, rfl, a, page, l, ra, n, c, ts, ?_, hT, p1, p2, l1, l2, fun r H' e hr => q r H' e hr⟩
    exact congrArg (fun z => [V.ref a, .int page, .int l, .bl z]) hq.2
  | false =>
    refine ⟨_, rfl, rfl, false, rfl, iteF ?_⟩
    refine ⟨_, rfl, _, rfl, _, _, _, rfl, ha, rfl, _, rfl, a, page, n, c, ts, rfl, hT, p1, p2, _, rfl, _, rfl, _, _, _, _, _, rfl, hs, T.i_Setting.cl, T.na_Setting_lowers, rfl, ?_⟩
    have hq : scal (side la) (.str "above") = true ∧ decide (side la = .str "above") = la := by cases la <;> exact ⟨rfl, by decide +kernel⟩
    refine ⟨hq.1, rfl, rfl, a, n + page, l, la, n, c, ts, ?_, hT, by omega, by omega, l1, l2, fun r H' e hr => q r H' e hr⟩
    exact congrArg (fun z => [V.ref a, .int (n + page), .int l, .bl z]) hq.2
def spAllWritten (K : PySem.W.Frag) : Sp := fun vs H Q _ => ∃ s d l u p n c D ws, vs = [.ref s, .ref d, .ref l, wordV u] ∧ SetAt K H s p ∧ DiskAt K H d n c D ∧ RowL K H l ws ∧ (∀ w ∈ ws, WOk n c w) ∧ D.row.length + ws.length ≤ 100000 ∧ ∀ x H', Same H H' → DiskAt K H' x n c (afts (if u then p.fr else p.fl) D ws) → Q (.ref x) H'
theorem ok_all_written (T : Txt K mg) : C8.Cal P w K mg base 11 "all_written" (spAllWritten K) [] := by
  refine mkcal T.f_all_written sc_all_written (fun vs H Q E h => ?_) (fun _ _ _ _ _ _ us hl => match us, hl with | [_, _, _, _], _ => rfl) (fun f cdv A outer s H vs Q E hr h => ?_)
  · obtain ⟨s, d, l, u, p, n, c, D, ws, rfl, hS, hD, ⟨xs, hl, hw⟩, wok, hz, q⟩ := h
    rfl
  obtain ⟨s, d, l, u, p, n, c, D, ws, rfl, hS, hD, ⟨xs, hl, hw⟩, wok, hz, q⟩ := h
  have hlen : xs.length = ws.length := Paired.length hw
  refine ⟨_, (pss_cons (ps_for PassesOwn.never rfl (pi_listK K (pe_callTy call_list_of (by rfl) T.m_list (by decide +kernel) (pa_cons (pv 2) pa_nil))) (pg_name (i := 4) sc_all_written.nd rfl (Or.inl rfl)) (pss_cons (ps_set (i := 1) sc_all_written.nd rfl (Or.inl rfl) (C8.pe_mt (ok_Disk_with_row T) hr (by decide) (pv 1) (pa_cons (pe_lst (pa_cons (pv 4) pa_nil)) pa_nil)))
      (pss_one (ps_if (pt_val (C8.pe_mt (ok_Setting_flushes T) hr (by decide) (pv 0) (pa_cons (pv 3) pa_nil))) (pss_one (ps_set (i := 1) sc_all_written.nd rfl (Or.inl rfl) (C8.pe_mt0 (ok_Disk_with_flush T) hr (by decide) (pv 1)))) pss_nil))))
      (pss_one (ps_ret (pv 1)))), ?_⟩
  refine ⟨_, rfl, _, _, rfl, .inl hl, fun l2 hl2 => ?_⟩
  have e1 := same_up (o := .lst xs) hl2
  have hl3 := upd_same (H := H) (a := l2) (o := .lst xs)
  generalize upd H l2 (.lst xs) = H1 at e1 hl3 ⊢
  refine ⟨_, rfl, ⟨_, sqL_at hl3⟩, ?_⟩
  refine for_list (xs := xs) (fun i σ H' => ∃ x z, σ = [some (.ref s), some (.ref x), some (.ref l), some (wordV u), z] ∧ DiskAt K H' x n c (afts (if u then p.fr else p.fl) D (ws.take i)) ∧ Same H1 H') ⟨d, none, rfl, e1.disk hD, Same.refl _⟩ ?_ ?_ ?_
  · rintro i σ H' hi ⟨x, z, rfl, h1, h2⟩
    exact sqL_at (h2 _ _ hl3)
  · rintro i y σ H' hi ⟨x, z, rfl, h1, h2⟩
    obtain ⟨wr, hw1, pw, rfl, hpw⟩ := Paired.at hw hi
    have hi2 : i < xs.length := (List.getElem?_eq_some_iff.mp hi).1
    have e2 := e1.trans h2
    obtain ⟨dx, b, t, r, hx, hf⟩ := id h1
    have hlen2 := afts_len (f := if u then p.fr else p.fl) (ws := ws.take i) (D := D)
    rw [List.length_take] at hlen2
    refine ⟨_, rfl, _, _, _, rfl, hx, rfl, _, rfl, le_small (Nat.le_of_ble_eq_true rfl), fun p1 hp1 => ?_⟩
    have e3 := same_up (o := .lst [.ref pw]) hp1
    refine ⟨x, p1, n, c, _, [wr], rfl, e3.disk h1, ⟨[.ref pw], sqL_at upd_same, .cons ⟨pw, rfl, (e2.trans e3).sqT hpw⟩ .nil⟩, fun w' hw' => ?_, ?_, fun x2 H3 e4 hx2 => ?_⟩
    · rw [List.mem_singleton.mp hw']
      exact wok wr (List.mem_of_getElem? hw1)
    · show _ + 1 ≤ 100000
      omega
    · have e5 := e3.trans e4
      have hS3 := (e2.trans e5).set hS
      obtain ⟨dxs, hs3⟩ := id hS3
      refine ⟨_, rfl, _, _, _, rfl, hs3, rfl, _, rfl, s, p, u, rfl, hS3, ?_⟩
      generalize hf : (if u then p.fr else p.fl) = f at hx2 ⊢
      have hsn : afts f D (ws.take (i + 1)) = aft1 f (afts f D (ws.take i)) wr := by rw [take_snoc hw1, afts_snoc]
      cases f with
      | true =>
        obtain ⟨dx3, b3, t3, r3, hx3, hf3⟩ := id hx2
        refine ⟨true, rfl, iteT ⟨_, rfl, _, _, _, rfl, hx3, rfl, x2, n, c, _, rfl, hx2, fun x4 H4 e6 hx4 => ⟨x4, _, rfl, ?_, h2.trans (e5.trans e6)⟩⟩⟩
        rw [hsn]
        exact hx4
      | false =>
        refine ⟨false, rfl, iteF ⟨x2, _, rfl, ?_, h2.trans e5⟩⟩
        rw [hsn]
        exact hx2
  · rintro σ H' ⟨x, z, rfl, h1, h2⟩
    rw [hlen, List.take_length] at h1
    exact ⟨_, rfl, q x H' (e1.trans h2) h1⟩
end


end
/-! part P16 -/
section
/-! ### the walk: parts and runs -/
section
variable {P : Program} {w : World} {K : PySem.W.Frag} {mg : Str → Option Value} {base : Heap}
theorem DiskAt.tw {H : Hp} {d : Addr} {n c : Int} {D : Dk} (h : DiskAt K H d n c D) : TW n c D.now := by
  obtain ⟨dx, b, t, r, _, hf⟩ := h
  obtain ⟨_, _, _, _, h2⟩ := hf.top
  exact h2.tw
theorem cut_take {xs : List V} {k : Int} (h1 : 1 ≤ k) (h2 : k ≤ xs.length) : cutV xs none (some (k - 1)) = xs.take (k - 1).toNat := by
  have e : (k - 1) = ((k - 1).toNat : Int) := by omega
  rw [cutV, e, HT.sIx_nat, HT.sIx_none, List.drop_zero, Nat.sub_zero, Int.toNat_natCast]
  congr 1
  omega
def spDoneWhole (K : PySem.W.Frag) : Sp := fun vs H Q _ => ∃ s d x p n c D dd, vs = [.ref s, .ref d, x] ∧ SetAt K H s p ∧ DiskAt K H d n c D ∧ DeedAt K H x dd ∧ DeedOk n c dd ∧ D.row.length ≤ 9000 ∧ ∀ y H', Same H H' → DiskAt K H' y n c (afts (p.fls dd) D (rows p n D.now dd)) → Q (.ref y) H'
theorem ok_done_whole (T : Txt K mg) : C8.Cal P w K mg base 12 "done_whole" (spDoneWhole K) [] := by
  refine mkcal T.f_done_whole sc_done_whole (fun vs H Q E h => ?_) (fun _ _ _ _ _ _ us hl => match us, hl with | [_, _, _], _ => rfl) (fun f cdv A outer s H vs Q E hr h => ?_)
  · obtain ⟨s, d, x, p, n, c, D, dd, rfl, hS, hD, hx, hd, hz, q⟩ := h
    rfl
  obtain ⟨s, d, x, p, n, c, D, dd, rfl, hS, hD, hx, hd, hz, q⟩ := h
  obtain ⟨dx, b, t, r, hdd, hf⟩ := id hD
  obtain ⟨pt, rfl, hp⟩ := id hx
  obtain ⟨ok1, ok2⟩ := rows_ok (p := p) hD.tw hd
  refine ⟨_, (pss_cons (ps_expr (C8.pe_c (ok_check_setting T) hr (by decide) rfl (pa_cons (pv 0) pa_nil)))
      (pss_cons (ps_expr (C8.pe_c (ok_check_disk T) hr (by decide) rfl (pa_cons (pv 1) pa_nil)))
      (pss_cons (ps_set (i := 3) sc_done_whole.nd rfl (Or.inl rfl) (C8.pe_c (ok_deed_row T) hr (by decide) rfl (pa_cons (pv 0) (pa_cons (pe_pr (ok_Disk_now T) hr (by decide) (pv 1)) (pa_cons (pv 2) pa_nil)))))
      (pss_one (ps_ret (C8.pe_c (ok_all_written T) hr (by decide) rfl (pa_cons (pv 0) (pa_cons (pv 1) (pa_cons (pv 3) (pa_cons (pe_ix (ix_tupK K) (pv 2) pe_int (fun _ _ => rfl)) pa_nil)))))))))), ?_⟩
  refine ⟨_, rfl, s, p, rfl, hS, ?_⟩
  refine ⟨_, rfl, d, n, c, D, rfl, hD, ?_⟩
  refine ⟨_, rfl, _, rfl, _, _, _, rfl, hdd, d, n, c, D, rfl, hD, fun t hT => ⟨_, rfl, s, t, .ref pt, p, n, c, D.now, dd, rfl, hS, hT, hx, hd, fun l H1 e1 hl => ?_⟩⟩
  exact ⟨_, rfl, _, rfl, _, rfl, _, rfl, _, _, _, _, rfl, rfl, e1.sqT hp, (show atI _ (0 : Int) = some (wordV dd.up) from rfl), s, d, l, dd.up, p, n, c, D, _, rfl, e1.set hS, e1.disk hD, hl, ok2, by omega, fun y H2 e2 hy => q y H2 (e1.trans e2) hy⟩
def spDonePart (K : PySem.W.Frag) : Sp := fun vs H Q _ => ∃ s d x k p n c D dd, vs = [.ref s, .ref d, x, .int k] ∧ SetAt K H s p ∧ DiskAt K H d n c D ∧ DeedAt K H x dd ∧ DeedOk n c dd ∧ D.row.length ≤ 9000 ∧ 1 ≤ k ∧ k ≤ (rows p n D.now dd).length ∧ ∀ y H', Same H H' → DiskAt K H' y n c (cutAt (p.fls dd) D (rows p n D.now dd) k) → Q (.ref y) H'
theorem ok_done_part (T : Txt K mg) : C8.Cal P w K mg base 12 "done_part" (spDonePart K) [] := by
  refine mkcal T.f_done_part sc_done_part (fun vs H Q E h => ?_) (fun _ _ _ _ _ _ us hl => match us, hl with | [_, _, _, _], _ => rfl) (fun f cdv A outer s H vs Q E hr h => ?_)
  · obtain ⟨s, d, x, k, p, n, c, D, dd, rfl, hS, hD, hx, hd, hz, k1, k2, q⟩ := h
    rfl
  obtain ⟨s, d, x, k, p, n, c, D, dd, rfl, hS, hD, hx, hd, hz, k1, k2, q⟩ := h
  obtain ⟨dx, b, t, r, hdd, hf⟩ := id hD
  obtain ⟨pt, rfl, hp⟩ := id hx
  obtain ⟨ok1, ok2⟩ := rows_ok (p := p) hD.tw hd
  refine ⟨_, (pss_cons (ps_expr (C8.pe_c (ok_check_setting T) hr (by decide) rfl (pa_cons (pv 0) pa_nil)))
      (pss_cons (ps_expr (C8.pe_c (ok_check_disk T) hr (by decide) rfl (pa_cons (pv 1) pa_nil)))
      (pss_cons (ps_set (i := 4) sc_done_part.nd rfl (Or.inl rfl) (C8.pe_c (ok_deed_row T) hr (by decide) rfl (pa_cons (pv 0) (pa_cons (pe_pr (ok_Disk_now T) hr (by decide) (pv 1)) (pa_cons (pv 2) pa_nil)))))
      (pss_cons (ps_if (pt_not (pt_val (C8.pe_c (ok_is_count T) hr (by decide) rfl (pa_cons (pv 3) (pa_cons pe_int (pa_cons (pe_callB (call_lenK K) (by rfl) T.m_len (by decide +kernel) (pa_cons (pv 4) pa_nil)) pa_nil)))))) (pss_one ps_never) pss_nil)
      (pss_one (ps_ret (C8.pe_mt (ok_Disk_with_row T) hr (by decide) (C8.pe_c (ok_all_written T) hr (by decide) rfl (pa_cons (pv 0) (pa_cons (pv 1) (pa_cons (pe_slice (sl_listK K) (pv 4) po_none (po_some (pe_op op_sub (pv 3) pe_int))) (pa_cons (pe_ix (ix_tupK K) (pv 2) pe_int (fun _ _ => rfl)) pa_nil))))) (pa_cons (pe_lst (pa_cons (pe_ix (ix_listK K) (pv 4) (pe_op op_sub (pv 3) pe_int) (fun _ _ => rfl)) pa_nil)) pa_nil)))))))), ?_⟩
  refine ⟨_, rfl, s, p, rfl, hS, ?_⟩
  refine ⟨_, rfl, d, n, c, D, rfl, hD, ?_⟩
  refine ⟨_, rfl, _, rfl, _, _, _, rfl, hdd, d, n, c, D, rfl, hD, fun t hT => ⟨_, rfl, s, t, .ref pt, p, n, c, D.now, dd, rfl, hS, hT, hx, hd, fun l H1 e1 hl => ?_⟩⟩
  generalize rows p n D.now dd = ws at *
  obtain ⟨xs, hl1, hw⟩ := id hl
  have hlen : xs.length = ws.length := Paired.length hw
  refine ⟨_, rfl, _, rfl, _, _, rfl, .inl ⟨_, hl1, rfl⟩, _, _, _, rfl, k1, by omega, true, rfl, iteF ?_⟩
  refine ⟨_, rfl, _, rfl, _, rfl, _, rfl, _, _, rfl, rfl, _, rfl, _, _, rfl, hl1, fun sl hsl => ?_⟩
  have e2 := same_up (o := .lst (cutV xs none (some (k - 1)))) hsl
  have hsl2 := upd_same (H := H1) (a := sl) (o := .lst (cutV xs none (some (k - 1))))
  generalize upd H1 sl (.lst (cutV xs none (some (k - 1)))) = H2 at e2 hsl2 ⊢
  rw [cut_take k1 (by omega)] at hsl2
  have e12 := e1.trans e2
  have hk : (k - 1).toNat < ws.length := by omega
  have hcut : cutAt (p.fls dd) D ws k = add1 (afts (p.fls dd) D (ws.take (k - 1).toNat)) ws[(k - 1).toNat] := by
    unfold cutAt
    rw [List.getElem?_eq_getElem hk]
  have hal := afts_len (f := p.fls dd) (ws := ws.take (k - 1).toNat) (D := D)
  rw [List.length_take] at hal
  refine ⟨_, rfl, _, _, _, _, rfl, rfl, e12.sqT hp, (show atI _ (0 : Int) = some (wordV dd.up) from rfl), s, d, sl, dd.up, p, n, c, D, ws.take (k - 1).toNat, rfl, e12.set hS, e12.disk hD, ⟨_, sqL_at hsl2, Paired.take' _ (e2.wrs hw)⟩, fun w' hw' => ok2 w' (List.mem_of_mem_take hw'), by rw [List.length_take]; omega, fun y H3 e3 hy => ?_⟩
  obtain ⟨dy, b3, t3, r3, hy3, hf3⟩ := id hy
  have hgx : (k - 1).toNat < xs.length := by omega
  obtain ⟨w', hw1, pw, hw2, hpw⟩ := Paired.at hw (List.getElem?_eq_getElem hgx)
  rw [List.getElem?_eq_getElem hk] at hw1
  cases hw1
  have hat : atI xs (k - 1) = some (.ref pw) := by
    have e : (k - 1) = ((k - 1).toNat : Int) := by omega
    rw [e]
    exact atI_nat (by rw [List.getElem?_eq_getElem hgx, hw2])
  refine ⟨_, _, _, rfl, hy3, rfl, _, rfl, _, rfl, _, _, rfl, rfl, _, _, _, _, rfl, rfl, (e2.trans e3).sqL hl1, hat, le_small (Nat.le_of_ble_eq_true rfl), fun l4 hl4 => ?_⟩
  have e4 := same_up (o := .lst [.ref pw]) hl4
  refine ⟨y, l4, n, c, _, [ws[(k - 1).toNat]], rfl, e4.disk hy, ⟨_, sqL_at upd_same, .cons ⟨pw, rfl, ((e2.trans e3).trans e4).sqT hpw⟩ .nil⟩, fun w' hw' => ?_, ?_, fun z H5 e5 hz5 => q z H5 ((e12.trans e3).trans (e4.trans e5)) ?_⟩
  · rw [List.mem_singleton.mp hw']
    exact ok2 _ (List.getElem_mem hk)
  · show _ + 1 ≤ 100000
    have : (afts (if dd.up = true then p.fr else p.fl) D (ws.take (k - 1).toNat)).row.length ≤ D.row.length + min (k - 1).toNat ws.length := hal
    omega
  · rw [hcut]
    exact hz5
def spLeftTree (K : PySem.W.Frag) : Sp := fun vs H Q _ => ∃ s d x p n c D t, vs = [.ref s, .ref d, x] ∧ SetAt K H s p ∧ DiskAt K H d n c D ∧ TupI K H x t ∧ TW n c t ∧ Can p.io D t ∧ ∀ y H', Same H H' → TreeAt K H' y n c t → Q (.ref y) H'
theorem ok_left_tree (T : Txt K mg) : C8.Cal P w K mg base 13 "left_tree" (spLeftTree K) [] := by
  refine mkcal T.f_left_tree sc_left_tree (fun vs H Q E h => ?_) (fun _ _ _ _ _ _ us hl => match us, hl with | [_, _, _], _ => rfl) (fun f cdv A outer s H vs Q E hr h => ?_)
  · obtain ⟨s, d, x, p, n, c, D, t, rfl, hS, hD, ⟨pt, rfl, hp⟩, tw, hc, q⟩ := h
    rfl
  obtain ⟨s, d, x, p, n, c, D, t, rfl, hS, hD, ⟨pt, rfl, hp⟩, tw, hc, q⟩ := h
  obtain ⟨dx, b, t0, r, hdd, hf⟩ := id hD
  obtain ⟨dxs, hs⟩ := id hS
  refine ⟨_, (pss_cons (ps_set (i := 3) sc_left_tree.nd rfl (Or.inl rfl) (pe_fldK K (pe_pr (ok_Disk_now T) hr (by decide) (pv 1)) (by rfl)))
      (pss_cons (ps_if (pt_not (pt_val (C8.pe_c (ok_are_told T) hr (by decide) rfl (pa_cons (pv 2) (pa_cons (pv 3) pa_nil))))) (pss_one (ps_ret pe_non)) pss_nil)
      (pss_cons (ps_set (i := 4) sc_left_tree.nd rfl (Or.inl rfl) (C8.pe_mk (ok_Tree_init T) hr (by decide) rfl (pa_cons (pv 3) (pa_cons (pv 2) pa_nil))))
      (pss_one (ps_ret (pe_ifExp (pt_val (C8.pe_mt (ok_Disk_can_have T) hr (by decide) (pv 1) (pa_cons (pv 4) (pa_cons (pe_fldK K (pv 0) (by rfl)) pa_nil)))) (pv 4) pe_non)))))), ?_⟩
  refine ⟨_, rfl, _, _, _, rfl, hdd, d, n, c, D, rfl, hD, fun t1 hT => ?_⟩
  obtain ⟨dx1, t2, lv, ht1, hf1⟩ := id hT
  refine ⟨_, _, _, _, _, rfl, ht1, T.i_Tree.cl, T.na_Tree_classes, rfl, ?_⟩
  refine ⟨_, rfl, _, rfl, pt, n, c, t, rfl, .inr hp, tw, fun H1 e1 => ⟨true, rfl, iteF ?_⟩⟩
  refine ⟨_, rfl, _, rfl, use_mk (.inr (e1.sqT hp)) tw fun y H2 e2 hy hty => ?_⟩
  have e12 := e1.trans e2
  have hs2 := e12 _ _ hs
  refine ⟨_, rfl, _, _, _, rfl, e12 _ _ hdd, rfl, _, rfl, _, rfl, _, _, _, _, _, rfl, hs2, T.i_Setting.cl, T.na_Setting_order, rfl, d, y, n, c, D, t, p.io, rfl, e12.disk hD, hty, hc, fun H3 e3 => ⟨true, rfl, iteT ⟨_, rfl, q y H3 (e12.trans e3) (e3.tree hty)⟩⟩⟩
def spCrashed (K : PySem.W.Frag) : Sp := fun vs H Q _ => ∃ s d x p n c D t, vs = [.ref s, .ref d, x] ∧ SetAt K H s p ∧ DiskAt K H d n c D ∧ TupI K H x t ∧ TW n c t ∧ Can p.io D t ∧ ∀ y H', Same H H' → DiskAt K H' y n c (left p n t) → Q (.ref y) H'
theorem ok_crashed (T : Txt K mg) : C8.Cal P w K mg base 14 "crashed" (spCrashed K) [] := by
  refine mkcal T.f_crashed sc_crashed (fun vs H Q E h => ?_) (fun _ _ _ _ _ _ us hl => match us, hl with | [_, _, _], _ => rfl) (fun f cdv A outer s H vs Q E hr h => ?_)
  · obtain ⟨s, d, x, p, n, c, D, t, rfl, hS, hD, hx, tw, hc, q⟩ := h
    rfl
  obtain ⟨s, d, x, p, n, c, D, t, rfl, hS, hD, hx, tw, hc, q⟩ := h
  obtain ⟨dxs, hs⟩ := id hS
  refine ⟨_, (pss_cons (ps_expr (C8.pe_c (ok_check_setting T) hr (by decide) rfl (pa_cons (pv 0) pa_nil)))
      (pss_cons (ps_expr (C8.pe_c (ok_check_disk T) hr (by decide) rfl (pa_cons (pv 1) pa_nil)))
      (pss_cons (ps_set (i := 3) sc_crashed.nd rfl (Or.inl rfl) (C8.pe_c (ok_left_tree T) hr (by decide) rfl (pa_cons (pv 0) (pa_cons (pv 1) (pa_cons (pv 2) pa_nil)))))
      (pss_cons (ps_if (pt_cmpR (op_isN) (pv 3) pe_non (nomark _)) (pss_one ps_never) pss_nil)
      (pss_one (ps_ret (C8.pe_mk (ok_Disk_init T) hr (by decide) rfl (pa_cons (pe_ifExp (pt_val (pe_fldK K (pv 0) (by rfl))) (C8.pe_mt0 (ok_Tree_mended T) hr (by decide) (pv 3)) (pv 3)) pa_nil)))))))), ?_⟩
  refine ⟨_, rfl, s, p, rfl, hS, ?_⟩
  refine ⟨_, rfl, d, n, c, D, rfl, hD, ?_⟩
  refine ⟨_, rfl, _, rfl, _, rfl, s, d, x, p, n, c, D, t, rfl, hS, hD, hx, tw, hc, fun y H1 e1 hy => ?_⟩
  refine ⟨_, rfl, rfl, false, rfl, iteF ?_⟩
  have hs1 := e1 _ _ hs
  obtain ⟨dy, ty, ly, hy1, hyf⟩ := id hy
  refine ⟨_, rfl, _, _, _, _, _, rfl, hs1, T.i_Setting.cl, T.na_Setting_mends, rfl, p.me, rfl, ?_⟩
  cases hm : p.me with
  | true =>
    refine iteT ⟨_, rfl, _, _, _, rfl, hy1, rfl, y, n, c, t, rfl, hy, fun y2 H2 e2 hy2 => ?_⟩
    refine use_mkD hy2 fun z dz r H3 e3 hz hz1 hr3 => q z H3 ((e1.trans e2).trans e3) ?_
    have : left p n t = ⟨mend n t, []⟩ := by unfold left; rw [hm] <;> rfl
    rw [this]
    exact disk_mk hz1 hr3 (e3.tree hy2)
  | false =>
    refine iteF ⟨_, rfl, use_mkD hy fun z dz r H3 e3 hz hz1 hr3 => q z H3 (e1.trans e3) ?_⟩
    have : left p n t = ⟨t, []⟩ := by unfold left; rw [hm] <;> rfl
    rw [this]
    exact disk_mk hz1 hr3 (e3.tree hy)
theorem ok_behind_crash (T : Txt K mg) : C8.Cal P w K mg base 15 "behind_crash" (spCrashed K) [] := by
  refine mkcal T.f_behind_crash sc_behind_crash (fun vs H Q E h => ?_) (fun _ _ _ _ _ _ us hl => match us, hl with | [_, _, _], _ => rfl) (fun f cdv A outer s H vs Q E hr h => ?_)
  · obtain ⟨s, d, x, p, n, c, D, t, rfl, hS, hD, hx, tw, hc, q⟩ := h
    rfl
  obtain ⟨s, d, x, p, n, c, D, t, rfl, hS, hD, hx, tw, hc, q⟩ := h
  obtain ⟨pt, rfl, hp⟩ := id hx
  refine ⟨_, (pss_cons (ps_if (PW.pt (pw_or (pt_not (pt_val (pe_callB (call_isiK K) (by rfl) T.m_isinstance (by decide +kernel) (pa_cons (pv 2) (pa_cons (pe_bltn (v := .ty "tuple") (by rfl) T.m_tuple (by decide +kernel) rfl) pa_nil))))) (pw_or1 (pt_cmpR (op_isN) (C8.pe_c (ok_left_tree T) hr (by decide) rfl (pa_cons (pv 0) (pa_cons (pv 1) (pa_cons (pv 2) pa_nil)))) pe_non (nomark _))))) (pss_one (ps_ret pe_non)) pss_nil)
      (pss_one (ps_ret (C8.pe_c (ok_crashed T) hr (by decide) rfl (pa_cons (pv 0) (pa_cons (pv 1) (pa_cons (pv 2) pa_nil))))))), ?_⟩
  refine ⟨_, rfl, _, _, _, _, true, rfl, .ty _, ty_tup hp, kit_ty (by decide +kernel), true, rfl, iteF ?_⟩
  refine ⟨_, rfl, _, rfl, _, rfl, s, d, .ref pt, p, n, c, D, t, rfl, hS, hD, hx, tw, hc, fun y H1 e1 hy => ?_⟩
  refine ⟨rfl, false, rfl, iteF ?_⟩
  exact ⟨_, rfl, _, rfl, _, rfl, s, d, .ref pt, p, n, c, D, t, rfl, e1.set hS, e1.disk hD, e1.tupI hx, tw, hc, fun z H2 e2 hz => q z H2 (e1.trans e2) hz⟩
def spBehindCut (K : PySem.W.Frag) : Sp := fun vs H Q _ => ∃ s d y k x p n c D dd t, vs = [.ref s, .ref d, y, .int k, x] ∧ SetAt K H s p ∧ DiskAt K H d n c D ∧ DeedAt K H y dd ∧ TupI K H x t ∧ PartOk p n c D (.cut dd k t) ∧ D.row.length ≤ 9000 ∧ ∀ z H', Same H H' → DiskAt K H' z n c (left p n t) → Q (.ref z) H'
theorem ok_behind_cut (T : Txt K mg) : C8.Cal P w K mg base 16 "behind_cut" (spBehindCut K) [] := by
  refine mkcal T.f_behind_cut sc_behind_cut (fun vs H Q E h => ?_) (fun _ _ _ _ _ _ us hl => match us, hl with | [_, _, _, _, _], _ => rfl) (fun f cdv A outer s H vs Q E hr h => ?_)
  · obtain ⟨s, d, y, k, x, p, n, c, D, dd, t, rfl, hS, hD, hy, hx, ⟨ok, k1, k2, tw, hc⟩, hz, q⟩ := h
    rfl
  obtain ⟨s, d, y, k, x, p, n, c, D, dd, t, rfl, hS, hD, hy, hx, ⟨ok, k1, k2, tw, hc⟩, hz, q⟩ := h
  obtain ⟨dx, b, t0, r, hdd, hf⟩ := id hD
  refine ⟨_, (pss_cons (ps_if (PW.pt (pw_or (pt_not (pt_val (C8.pe_c (ok_is_deed T) hr (by decide) rfl (pa_cons (pe_pr (ok_Disk_now T) hr (by decide) (pv 1)) (pa_cons (pv 2) pa_nil))))) (pw_or1 (pt_not (pt_val (C8.pe_c (ok_is_count T) hr (by decide) rfl (pa_cons (pv 3) (pa_cons pe_int (pa_cons (pe_callB (call_lenK K) (by rfl) T.m_len (by decide +kernel) (pa_cons (C8.pe_c (ok_deed_row T) hr (by decide) rfl (pa_cons (pv 0) (pa_cons (pe_pr (ok_Disk_now T) hr (by decide) (pv 1)) (pa_cons (pv 2) pa_nil)))) pa_nil)) pa_nil))))))))) (pss_one (ps_ret pe_non)) pss_nil)
      (pss_one (ps_ret (C8.pe_c (ok_behind_crash T) hr (by decide) rfl (pa_cons (pv 0) (pa_cons (C8.pe_c (ok_done_part T) hr (by decide) rfl (pa_cons (pv 0) (pa_cons (pv 1) (pa_cons (pv 2) (pa_cons (pv 3) pa_nil))))) (pa_cons (pv 4) pa_nil))))))), ?_⟩
  refine ⟨_, rfl, _, _, _, rfl, hdd, d, n, c, D, rfl, hD, fun t1 hT => ⟨_, rfl, t1, y, n, c, D.now, rfl, hT, .inl ⟨dd, hy, ok, true, rfl, iteF ?_⟩⟩⟩
  refine ⟨_, rfl, _, rfl, _, rfl, _, _, _, rfl, hdd, d, n, c, D, rfl, hD, fun t2 hT2 => ⟨_, rfl, s, t2, y, p, n, c, D.now, dd, rfl, hS, hT2, hy, ok, fun l H1 e1 hl => ?_⟩⟩
  obtain ⟨xs, hl1, hw⟩ := id hl
  have hlen : xs.length = (rows p n D.now dd).length := Paired.length hw
  refine ⟨_, _, rfl, .inl ⟨_, hl1, rfl⟩, _, _, _, rfl, k1, by omega, true, rfl, iteF ?_⟩
  refine ⟨_, rfl, _, rfl, _, rfl, _, rfl, _, rfl, s, d, y, k, p, n, c, D, dd, rfl, e1.set hS, e1.disk hD, e1.deed hy, ok, hz, k1, k2, fun d2 H2 e2 hd2 => ⟨_, rfl, s, d2, x, p, n, c, _, t, rfl, (e1.trans e2).set hS, hd2, (e1.trans e2).tupI hx, tw, hc, fun z H3 e3 hz3 => q z H3 ((e1.trans e2).trans e3) hz3⟩⟩
def spBehindPart (K : PySem.W.Frag) : Sp := fun vs H Q _ => ∃ s d x p n c D g, vs = [.ref s, .ref d, x] ∧ SetAt K H s p ∧ DiskAt K H d n c D ∧ PartAt K H x g ∧ PartOk p n c D g ∧ D.row.length ≤ 9000 ∧ ∀ z H', Same H H' → DiskAt K H' z n c (stepP p n D g) → Q (.ref z) H'
theorem ok_behind_part (T : Txt K mg) : C8.Cal P w K mg base 17 "behind_part" (spBehindPart K) [] := by
  refine mkcal T.f_behind_part sc_behind_part (fun vs H Q E h => ?_) (fun _ _ _ _ _ _ us hl => match us, hl with | [_, _, _], _ => rfl) (fun f cdv A outer s H vs Q E hr h => ?_)
  · obtain ⟨s, d, x, p, n, c, D, g, rfl, hS, hD, hg, ok, hz, q⟩ := h
    rfl
  obtain ⟨s, d, x, p, n, c, D, g, rfl, hS, hD, hg, ok, hz, q⟩ := h
  obtain ⟨dx, b, t0, r, hdd, hf⟩ := id hD
  refine ⟨_, (pss_cons (ps_if (pt_not (pt_val (pe_callB (call_isiK K) (by rfl) T.m_isinstance (by decide +kernel) (pa_cons (pv 2) (pa_cons (pe_bltn (v := .ty "tuple") (by rfl) T.m_tuple (by decide +kernel) rfl) pa_nil))))) (pss_one (ps_ret pe_non)) pss_nil)
      (pss_cons (ps_if (pt_val (C8.pe_c (ok_is_deed T) hr (by decide) rfl (pa_cons (pe_pr (ok_Disk_now T) hr (by decide) (pv 1)) (pa_cons (pv 2) pa_nil)))) (pss_one (ps_ret (C8.pe_c (ok_done_whole T) hr (by decide) rfl (pa_cons (pv 0) (pa_cons (pv 1) (pa_cons (pv 2) pa_nil)))))) pss_nil)
      (pss_cons (ps_if (PW.pt (pw_and (pt_cmpR (op_eq) (pe_callB (call_lenK K) (by rfl) T.m_len (by decide +kernel) (pa_cons (pv 2) pa_nil)) pe_int (nomark _)) (pw_and1 (pt_cmpR (op_eqD hr.units) (pv 2) (pe_tup (pa_cons pe_str pa_nil)) (nomark _))))) (pss_one (ps_ret (C8.pe_mt0 (ok_Disk_with_flush T) hr (by decide) (pv 1)))) pss_nil)
      (pss_cons (ps_if (PW.pt (pw_and (pt_cmpR (op_eq) (pe_callB (call_lenK K) (by rfl) T.m_len (by decide +kernel) (pa_cons (pv 2) pa_nil)) pe_int (nomark _)) (pw_and1 (pt_cmpR (op_eq) (pe_ix (ix_tupK K) (pv 2) pe_int (fun _ _ => rfl)) pe_str (nomark _))))) (pss_one (ps_ret (C8.pe_c (ok_behind_crash T) hr (by decide) rfl (pa_cons (pv 0) (pa_cons (pv 1) (pa_cons (pe_ix (ix_tupK K) (pv 2) pe_int (fun _ _ => rfl)) pa_nil)))))) pss_nil)
      (pss_cons (ps_if (PW.pt (pw_and (pt_cmpR (op_eq) (pe_callB (call_lenK K) (by rfl) T.m_len (by decide +kernel) (pa_cons (pv 2) pa_nil)) pe_int (nomark _)) (pw_and1 (pt_cmpR (op_eq) (pe_ix (ix_tupK K) (pv 2) pe_int (fun _ _ => rfl)) pe_str (nomark _))))) (pss_one (ps_ret (C8.pe_c (ok_behind_cut T) hr (by decide) rfl (pa_cons (pv 0) (pa_cons (pv 1) (pa_cons (pe_ix (ix_tupK K) (pv 2) pe_int (fun _ _ => rfl)) (pa_cons (pe_ix (ix_tupK K) (pv 2) pe_int (fun _ _ => rfl)) (pa_cons (pe_ix (ix_tupK K) (pv 2) pe_int (fun _ _ => rfl)) pa_nil)))))))) pss_nil)
      (pss_one (ps_ret pe_non))))))), ?_⟩
  cases g with
  | deed dd =>
    obtain ⟨pt, rfl, hp⟩ := id hg
    refine ⟨_, rfl, _, _, _, _, true, rfl, .ty _, ty_tup hp, kit_ty (by decide +kernel), true, rfl, iteF ?_⟩
    refine ⟨_, rfl, _, _, _, rfl, hdd, d, n, c, D, rfl, hD, fun t1 hT => ⟨_, rfl, t1, .ref pt, n, c, D.now, rfl, hT, .inl ⟨dd, hg, ok, true, rfl, iteT ?_⟩⟩⟩
    exact ⟨_, rfl, _, rfl, _, rfl, s, d, .ref pt, p, n, c, D, dd, rfl, hS, hD, hg, ok, hz, q⟩
  | flush =>
    obtain ⟨pt, rfl, hp⟩ := id hg
    refine ⟨_, rfl, _, _, _, _, true, rfl, .ty _, ty_tup hp, kit_ty (by decide +kernel), true, rfl, iteF ?_⟩
    refine ⟨_, rfl, _, _, _, rfl, hdd, d, n, c, D, rfl, hD, fun t1 hT => ⟨_, rfl, t1, .ref pt, n, c, D.now, rfl, hT, .inr ⟨pt, _, rfl, hp, by decide, false, rfl, iteF ?_⟩⟩⟩
    refine ⟨_, rfl, _, _, rfl, .inr ⟨_, hp, rfl⟩, rfl, true, rfl, iteT ?_⟩
    refine ⟨_, rfl, le_small (Nat.le_of_ble_eq_true rfl), fun p2 hp2 => ⟨.tuple [.str "flush"], .tuple [.str "flush"], .tup ((same_up hp2).sqT hp) (.cons (.str _) .nil), .tup (sqT_at upd_same) (.cons (.str _) .nil), by decide +kernel, by decide +kernel, true, ?_, iteT ?_⟩⟩
    · exact congrArg V.bl (by decide +kernel)
    have e1 := same_up (o := .tup [.str "flush"]) hp2
    exact ⟨_, rfl, _, _, _, rfl, e1 _ _ hdd, rfl, d, n, c, D, rfl, e1.disk hD, fun z H' e2 hz2 => q z H' (e1.trans e2) hz2⟩
  | crash t =>
    obtain ⟨pt, y, rfl, hp, hy⟩ := id hg
    refine ⟨_, rfl, _, _, _, _, true, rfl, .ty _, ty_tup hp, kit_ty (by decide +kernel), true, rfl, iteF ?_⟩
    refine ⟨_, rfl, _, _, _, rfl, hdd, d, n, c, D, rfl, hD, fun t1 hT => ⟨_, rfl, t1, .ref pt, n, c, D.now, rfl, hT, .inr ⟨pt, _, rfl, hp, by simp, false, rfl, iteF ?_⟩⟩⟩
    refine ⟨_, rfl, _, _, rfl, .inr ⟨_, hp, rfl⟩, rfl, false, rfl, iteF ?_⟩
    refine iteF ?_
    refine ⟨_, rfl, _, _, rfl, .inr ⟨_, hp, rfl⟩, rfl, true, rfl, iteT ?_⟩
    refine ⟨_, rfl, _, _, _, _, rfl, rfl, hp, (show atI _ (0 : Int) = some (.str "crash") from rfl), rfl, true, rfl, iteT ?_⟩
    exact ⟨_, rfl, _, rfl, _, rfl, _, _, _, _, rfl, rfl, hp, (show atI _ (1 : Int) = some y from rfl), s, d, y, p, n, c, D, t, rfl, hS, hD, hy, ok.1, ok.2, q⟩
  | cut dd k t =>
    obtain ⟨pt, y, y2, rfl, hp, hy, hy2⟩ := id hg
    refine ⟨_, rfl, _, _, _, _, true, rfl, .ty _, ty_tup hp, kit_ty (by decide +kernel), true, rfl, iteF ?_⟩
    refine ⟨_, rfl, _, _, _, rfl, hdd, d, n, c, D, rfl, hD, fun t1 hT => ⟨_, rfl, t1, .ref pt, n, c, D.now, rfl, hT, .inr ⟨pt, _, rfl, hp, by simp, false, rfl, iteF ?_⟩⟩⟩
    refine ⟨_, rfl, _, _, rfl, .inr ⟨_, hp, rfl⟩, rfl, false, rfl, iteF ?_⟩
    refine iteF ?_
    refine ⟨_, rfl, _, _, rfl, .inr ⟨_, hp, rfl⟩, rfl, false, rfl, iteF ?_⟩
    refine iteF ?_
    refine ⟨_, rfl, _, _, rfl, .inr ⟨_, hp, rfl⟩, rfl, true, rfl, iteT ?_⟩
    refine ⟨_, rfl, _, _, _, _, rfl, rfl, hp, (show atI _ (0 : Int) = some (.str "cut") from rfl), rfl, true, rfl, iteT ?_⟩
    exact ⟨_, rfl, _, rfl, _, rfl, _, _, _, _, rfl, rfl, hp, (show atI _ (1 : Int) = some y from rfl), _, rfl, _, _, _, _, rfl, rfl, hp, (show atI _ (2 : Int) = some (.int k) from rfl), _, rfl, _, _, _, _, rfl, rfl, hp, (show atI _ (3 : Int) = some y2 from rfl), s, d, y, k, y2, p, n, c, D, dd, t, rfl, hS, hD, hy, hy2, ok, hz, q⟩
end


end
/-! part P17 -/
section
/-! ### the walk: runs -/
section
variable {p : Par} {n c : Int}
theorem runP_snoc {D : Dk} {r : List Part} {x : Part} : runP p n D (r ++ [x]) = stepP p n (runP p n D r) x := by simp [runP]
theorem RunOk.at : ∀ {r : List Part} {D : Dk} {i : Nat} {x : Part}, RunOk p n c D r → r[i]? = some x → PartOk p n c (runP p n D (r.take i)) x ∧ (runP p n D (r.take i)).row.length ≤ 9000
  | [], _, _, _, _, e => by simp at e
  | y :: r, D, 0, x, h, e => by
    have := Option.some.inj (show some y = some x from e)
    subst this
    exact ⟨h.1, h.2.1⟩
  | y :: r, D, i + 1, x, h, e => by
    have := RunOk.at (r := r) (i := i) h.2.2 (by simpa using e)
    exact this
end
section
variable {P : Program} {w : World} {K : PySem.W.Frag} {mg : Str → Option Value} {base : Heap}
abbrev PartsAt (K : PySem.W.Frag) (H : Hp) (xs : List V) (run : List Part) : Prop := Paired (PartAt K H) xs run
def spEndOf (K : PySem.W.Frag) : Sp := fun vs H Q _ => ∃ s a l p n c ts xs run, vs = [.ref s, .ref a, .ref l] ∧ SetAt K H s p ∧ TreeAt K H a n c ts ∧ Up n ts ∧ SqL K H l xs ∧ PartsAt K H xs run ∧ RunOk p n c ⟨ts, []⟩ run ∧ ∀ z H', Same H H' → DiskAt K H' z n c (runP p n ⟨ts, []⟩ run) → Q (.ref z) H'
theorem ok_end_of (T : Txt K mg) : C8.Cal P w K mg base 18 "end_of" (spEndOf K) [] := by
  refine mkcal T.f_end_of sc_end_of (fun vs H Q E h => ?_) (fun _ _ _ _ _ _ us hl => match us, hl with | [_, _, _], _ => rfl) (fun f cdv A outer s H vs Q E hr h => ?_)
  · obtain ⟨s, a, l, p, n, c, ts, xs, run, rfl, hS, hT, hu, hl, hx, hrun, q⟩ := h
    rfl
  obtain ⟨s, a, l, p, n, c, ts, xs, run, rfl, hS, hT, hu, hl, hx, hrun, q⟩ := h
  obtain ⟨dx, t, lv, ha, hf⟩ := id hT
  have hlen : xs.length = run.length := Paired.length hx
  refine ⟨_, (pss_cons (ps_if (PW.pt (pw_or (pt_not (pt_val (pe_pr (ok_Tree_is_upright T) hr (by decide) (pv 1)))) (pw_or1 (pt_not (pt_val (pe_callB (call_isiK K) (by rfl) T.m_isinstance (by decide +kernel) (pa_cons (pv 2) (pa_cons (pe_bltn (v := .ty "list") (by rfl) T.m_list (by decide +kernel) rfl) pa_nil)))))))) (pss_one (ps_ret pe_non)) pss_nil)
      (pss_cons (ps_set (i := 3) sc_end_of.nd rfl (Or.inl rfl) (C8.pe_mk (ok_Disk_init T) hr (by decide) rfl (pa_cons (pv 1) pa_nil)))
      (pss_cons (ps_for PassesOwn.never rfl (pi_listK K (pv 2)) (pg_name (i := 4) sc_end_of.nd rfl (Or.inl rfl)) (pss_cons (ps_set (i := 3) sc_end_of.nd rfl (Or.inl rfl) (C8.pe_c (ok_behind_part T) hr (by decide) rfl (pa_cons (pv 0) (pa_cons (pv 3) (pa_cons (pv 4) pa_nil)))))
      (pss_one (ps_if (pt_cmpR (op_isN) (pv 3) pe_non (nomark _)) (pss_one (ps_ret pe_non)) pss_nil))))
      (pss_one (ps_ret (pv 3)))))), ?_⟩
  refine ⟨_, rfl, _, _, _, rfl, ha, a, n, c, ts, rfl, hT, hu, fun H1 e1 => ⟨true, rfl, iteF ?_⟩⟩
  refine ⟨_, rfl, _, _, _, _, true, rfl, .ty _, ty_list (e1.sqL hl), kit_ty (by decide +kernel), true, rfl, iteF ?_⟩
  refine ⟨_, rfl, use_mkD (e1.tree hT) fun d dd r H2 e2 hd hd1 hr2 => ?_⟩
  have e12 := e1.trans e2
  have hD := disk_mk hd1 hr2 (e12.tree hT)
  refine ⟨_, rfl, _, rfl, ⟨_, e12.sqL hl⟩, ?_⟩
  refine for_list (xs := xs) (fun i σ H' => ∃ z y, σ = [some (.ref s), some (.ref a), some (.ref l), some (.ref z), y] ∧ DiskAt K H' z n c (runP p n ⟨ts, []⟩ (run.take i)) ∧ Same H H') ⟨d, none, rfl, hD, e12⟩ ?_ ?_ ?_
  · rintro i σ H' hi ⟨z, y, rfl, h1, h2⟩
    exact h2.sqL hl
  · rintro i v σ H' hi ⟨z, y, rfl, h1, h2⟩
    obtain ⟨g, hg1, hg2⟩ := Paired.at hx hi
    obtain ⟨ok1, ok2⟩ := hrun.at hg1
    refine ⟨_, rfl, _, rfl, _, rfl, s, z, v, p, n, c, _, g, rfl, h2.set hS, h1, h2.part hg2, ok1, ok2, fun z2 H3 e3 hz => ?_⟩
    refine ⟨_, rfl, rfl, false, rfl, iteF ⟨z2, _, rfl, ?_, h2.trans e3⟩⟩
    rw [take_snoc hg1, runP_snoc]
    exact hz
  · rintro σ H' ⟨z, y, rfl, h1, h2⟩
    rw [hlen, List.take_length] at h1
    exact ⟨_, rfl, q z H' h2 h1⟩
def spIsRun (K : PySem.W.Frag) : Sp := fun vs H Q _ => ∃ s a l p n c ts xs run, vs = [.ref s, .ref a, .ref l] ∧ SetAt K H s p ∧ TreeAt K H a n c ts ∧ Up n ts ∧ SqL K H l xs ∧ PartsAt K H xs run ∧ RunOk p n c ⟨ts, []⟩ run ∧ ∀ H', Same H H' → Q (.bl true) H'
theorem ok_is_run (T : Txt K mg) : C8.Cal P w K mg base 19 "is_run" (spIsRun K) [] := by
  refine mkcal T.f_is_run sc_is_run (fun vs H Q E h => ?_) (fun _ _ _ _ _ _ us hl => match us, hl with | [_, _, _], _ => rfl) (fun f cdv A outer s H vs Q E hr h => ?_)
  · obtain ⟨s, a, l, p, n, c, ts, xs, run, rfl, hS, hT, hu, hl, hx, hrun, q⟩ := h
    rfl
  obtain ⟨s, a, l, p, n, c, ts, xs, run, rfl, hS, hT, hu, hl, hx, hrun, q⟩ := h
  refine ⟨_, (pss_cons (ps_expr (C8.pe_c (ok_check_setting T) hr (by decide) rfl (pa_cons (pv 0) pa_nil)))
      (pss_cons (ps_expr (C8.pe_c (ok_check_tree T) hr (by decide) rfl (pa_cons (pv 1) pa_nil)))
      (pss_one (ps_ret (pe_cmpR (op_notN) (C8.pe_c (ok_end_of T) hr (by decide) rfl (pa_cons (pv 0) (pa_cons (pv 1) (pa_cons (pv 2) pa_nil)))) pe_non (nomark _)))))), ?_⟩
  refine ⟨_, rfl, s, p, rfl, hS, ?_⟩
  refine ⟨_, rfl, a, n, c, ts, rfl, hT, ?_⟩
  exact ⟨_, rfl, _, rfl, _, rfl, s, a, l, p, n, c, ts, xs, run, rfl, hS, hT, hu, hl, hx, hrun, fun z H1 e1 hz => ⟨rfl, q _ e1⟩⟩
theorem ok_run_end (T : Txt K mg) : C8.Cal P w K mg base 19 "run_end" (spEndOf K) [] := by
  refine mkcal T.f_run_end sc_run_end (fun vs H Q E h => ?_) (fun _ _ _ _ _ _ us hl => match us, hl with | [_, _, _], _ => rfl) (fun f cdv A outer s H vs Q E hr h => ?_)
  · obtain ⟨s, a, l, p, n, c, ts, xs, run, rfl, hS, hT, hu, hl, hx, hrun, q⟩ := h
    rfl
  obtain ⟨s, a, l, p, n, c, ts, xs, run, rfl, hS, hT, hu, hl, hx, hrun, q⟩ := h
  refine ⟨_, (pss_cons (ps_expr (C8.pe_c (ok_check_setting T) hr (by decide) rfl (pa_cons (pv 0) pa_nil)))
      (pss_cons (ps_expr (C8.pe_c (ok_check_tree T) hr (by decide) rfl (pa_cons (pv 1) pa_nil)))
      (pss_cons (ps_set (i := 3) sc_run_end.nd rfl (Or.inl rfl) (C8.pe_c (ok_end_of T) hr (by decide) rfl (pa_cons (pv 0) (pa_cons (pv 1) (pa_cons (pv 2) pa_nil)))))
      (pss_cons (ps_if (pt_cmpR (op_isN) (pv 3) pe_non (nomark _)) (pss_one ps_never) pss_nil)
      (pss_one (ps_ret (pv 3))))))), ?_⟩
  refine ⟨_, rfl, s, p, rfl, hS, ?_⟩
  refine ⟨_, rfl, a, n, c, ts, rfl, hT, ?_⟩
  exact ⟨_, rfl, _, rfl, _, rfl, s, a, l, p, n, c, ts, xs, run, rfl, hS, hT, hu, hl, hx, hrun, fun z H1 e1 hz => ⟨_, rfl, rfl, false, rfl, iteF ⟨_, rfl, q z _ e1 hz⟩⟩⟩
def headV : Part → V
  | .flush => .str "flush"
  | .crash _ => .str "crash"
  | .deed d => wordV d.up
  | .cut _ _ _ => .str "cut"
theorem PartAt.head {H : Hp} {x : V} {g : Part} (h : PartAt K H x g) : ∃ q xs, x = .ref q ∧ SqT K H q xs ∧ atI xs 0 = some (headV g) := by
  cases g with
  | flush => obtain ⟨q, h1, h2⟩ := h; exact ⟨q, _, h1, h2, rfl⟩
  | crash t => obtain ⟨q, y, h1, h2, _⟩ := h; exact ⟨q, _, h1, h2, rfl⟩
  | deed d => obtain ⟨q, h1, h2⟩ := h; exact ⟨q, _, h1, h2, rfl⟩
  | cut d k t => obtain ⟨q, y, z, h1, h2, _⟩ := h; exact ⟨q, _, h1, h2, rfl⟩
theorem headV_flat (g : Part) : flatV (headV g) = true := by
  cases g with
  | deed d =>
    show flatV (wordV d.up) = true
    cases d.up <;> rfl
  | _ => rfl
def spShowsMiss (K : PySem.W.Frag) : Sp := fun vs H Q _ => ∃ s a l p n c ts xs run, vs = [.ref s, .ref a, .ref l] ∧ SetAt K H s p ∧ TreeAt K H a n c ts ∧ Up n ts ∧ SqL K H l xs ∧ PartsAt K H xs run ∧ RunOk p n c ⟨ts, []⟩ run ∧ run ≠ [] ∧ Up n (runP p n ⟨ts, []⟩ run).now ∧ ∀ H', Same H H' → Q (.bl false) H'
theorem ok_shows_miss (T : Txt K mg) : C8.Cal P w K mg base 19 "shows_miss" (spShowsMiss K) [] := by
  refine mkcal T.f_shows_miss sc_shows_miss (fun vs H Q E h => ?_) (fun _ _ _ _ _ _ us hl => match us, hl with | [_, _, _], _ => rfl) (fun f cdv A outer s H vs Q E hr h => ?_)
  · obtain ⟨s, a, l, p, n, c, ts, xs, run, rfl, hS, hT, hu, hl, hx, hrun, hne, hup, q⟩ := h
    rfl
  obtain ⟨s, a, l, p, n, c, ts, xs, run, rfl, hS, hT, hu, hl, hx, hrun, hne, hup, q⟩ := h
  have hlen : xs.length = run.length := Paired.length hx
  have hrl := List.length_pos_iff.mpr hne
  have hxne : xs ≠ [] := List.length_pos_iff.mp (by omega)
  refine ⟨_, (pss_cons (ps_expr (C8.pe_c (ok_check_setting T) hr (by decide) rfl (pa_cons (pv 0) pa_nil)))
      (pss_cons (ps_expr (C8.pe_c (ok_check_tree T) hr (by decide) rfl (pa_cons (pv 1) pa_nil)))
      (pss_cons (ps_set (i := 3) sc_shows_miss.nd rfl (Or.inl rfl) (C8.pe_c (ok_end_of T) hr (by decide) rfl (pa_cons (pv 0) (pa_cons (pv 1) (pa_cons (pv 2) pa_nil)))))
      (pss_cons (ps_if (PW.pt (pw_or (pt_cmpR (op_isN) (pv 3) pe_non (nomark _)) (pw_or (pt_cmpR (op_eq) (pe_callB (call_lenK K) (by rfl) T.m_len (by decide +kernel) (pa_cons (pv 2) pa_nil)) pe_int (nomark _)) (pw_or1 (pt_cmpR (op_notIn_seq) (pe_ix (ix_tupK K) (pe_ix (ix_listK K) (pv 2) (pe_un un_neg pe_int) (fun _ _ => rfl)) pe_int (fun _ _ => rfl)) (pe_tup (pa_cons pe_str (pa_cons pe_str pa_nil))) (by rfl)))))) (pss_one (ps_ret pe_bl)) pss_nil)
      (pss_one (ps_ret (pe_cmpR (op_neD hr.units) (C8.pe_mt0 (ok_Tree_missed T) hr (by decide) (pe_pr (ok_Disk_now T) hr (by decide) (pv 3))) (pe_lst pa_nil) (nomark _)))))))), ?_⟩
  refine ⟨_, rfl, s, p, rfl, hS, ?_⟩
  refine ⟨_, rfl, a, n, c, ts, rfl, hT, ?_⟩
  refine ⟨_, rfl, _, rfl, _, rfl, s, a, l, p, n, c, ts, xs, run, rfl, hS, hT, hu, hl, hx, hrun, fun z H1 e1 hz => ?_⟩
  obtain ⟨dz, b3, t3, r3, hz1, hzf⟩ := id hz
  have hlq := e1.sqL hl
  refine ⟨_, rfl, rfl, false, rfl, iteF ?_⟩
  refine ⟨_, rfl, _, _, rfl, .inl ⟨_, hlq, rfl⟩, rfl, false, ?_, iteF ?_⟩
  · refine congrArg V.bl (decide_eq_false fun h => ?_)
    injection h with h
    omega
  have hlast : ∃ v, xs[xs.length - 1]? = some v ∧ atI xs (-1) = some v := by
    refine ⟨xs.getLast hxne, List.getLast_eq_getElem hxne ▸ List.getElem?_eq_getElem (by omega), ?_⟩
    have := atI_last xs.dropLast (xs.getLast hxne)
    rwa [List.dropLast_concat_getLast hxne] at this
  obtain ⟨v, hv1, hv2⟩ := hlast
  obtain ⟨g, hg1, hg2⟩ := Paired.at hx hv1
  obtain ⟨qa, ys, rfl, hy1, hy2⟩ := (e1.part hg2).head
  refine ⟨_, rfl, _, rfl, _, _, _, _, rfl, rfl, hlq, hv2, _, _, _, _, rfl, rfl, hy1, hy2, le_small (Nat.le_of_ble_eq_true rfl), fun tp htp => ?_⟩
  have e2 := same_up (o := .tup [.str "crash", .str "cut"]) htp
  refine ⟨_, _, rfl, .inr (sqT_at upd_same), headV_flat g, rfl, _, rfl, ?_⟩
  by_cases hin : inV (headV g) [.str "crash", .str "cut"] = true
  · rw [hin]
    refine iteF ?_
    refine ⟨_, rfl, _, _, _, rfl, e2 _ _ hz1, z, n, c, _, rfl, e2.disk hz, fun t4 ht4 => ?_⟩
    obtain ⟨d4, tt4, l4, ht5, _⟩ := id ht4
    refine ⟨_, _, _, rfl, ht5, rfl, t4, n, c, _, rfl, ht4, hup, fun l5 H5 e5 hl5 hl6 => ?_⟩
    refine ⟨le_small (Nat.le_of_ble_eq_true rfl), fun p6 hp6 => ⟨.list [], .list [], .lst ((same_up hp6).sqL (sqL_at hl6)) .nil, .lst (sqL_at upd_same) .nil, by decide +kernel, by decide +kernel, ?_⟩⟩
    have hev : (!PyData.eqv (.list []) (.list [])) = false := by decide +kernel
    rw [hev]
    exact q _ ((e1.trans e2).trans (e5.up (e5.free hp6)))
  · have hf : inV (headV g) [.str "crash", .str "cut"] = false := by simpa using hin
    rw [hf]
    exact iteT (q _ (e1.trans e2))
end


end
/-! part P18 -/
section
/-! ### the walk: the law's own small functions -/
section
variable {P : Program} {w : World} {K : PySem.W.Frag} {mg : Str → Option Value} {base : Heap}
def spLGreater (K : PySem.W.Frag) : Sp := fun vs H Q _ => ∃ a v ts, vs = [.ref a, .int v] ∧ SqL K H a (iV ts) ∧ 1 ≤ v ∧ 2 * v + 1 ≤ ts.length ∧ Q (.int (gr ts v)) H
theorem ok_l_greater (T : Txt K mg) : C8.Cal P w K mg base 1 "_law_greater" (spLGreater K) [] := by
  refine mkcal T.f_l_greater sc_l_greater (fun vs H Q E h => ?_) (fun _ _ _ _ _ _ us hl => match us, hl with | [_, _], _ => rfl) (fun f cdv A outer s H vs Q E hr h => ?_)
  · obtain ⟨a, v, ts, rfl, ha, v1, v2, q⟩ := h
    rfl
  obtain ⟨a, v, ts, rfl, ha, v1, v2, q⟩ := h
  refine ⟨_, (pss_one (ps_ret (pe_callB (call_max2 rfl) (by rfl) T.m_max (by decide +kernel) (pa_cons (pe_callTy call_int1 (by rfl) T.m_int (by decide +kernel) (pa_cons (pe_ix (ix_listK K) (pv 0) (pe_op op_sub (pe_op op_mul pe_int (pv 1)) pe_int) (fun _ _ => rfl)) pa_nil)) (pa_cons (pe_callTy call_int1 (by rfl) T.m_int (by decide +kernel) (pa_cons (pe_ix (ix_listK K) (pv 0) (pe_op op_mul pe_int (pv 1)) (fun _ _ => rfl)) pa_nil)) pa_nil))))), ?_⟩
  have e2 : atI (iV ts) (2 * v) = some (.int (lvl ts (2 * v + 1))) := by
    have := atI_int (ts := ts) (v := 2 * v + 1) (by omega) (by omega)
    rwa [show 2 * v + 1 - 1 = 2 * v by omega] at this
  refine ⟨_, rfl, _, rfl, _, _, rfl, rfl, .inl ⟨by decide, by decide⟩, _, _, rfl, rfl, _, _, _, _, rfl, rfl, ha, atI_int (by omega) (by omega), .inl ⟨_, rfl, ?_⟩⟩
  exact ⟨_, rfl, _, rfl, _, _, rfl, rfl, .inl ⟨by decide, by decide⟩, _, _, _, _, rfl, rfl, ha, e2, .inl ⟨_, rfl, _, _, rfl, q⟩⟩
def spLWay (K : PySem.W.Frag) : Sp := fun vs H Q _ => ∃ a p n c ts, vs = [.ref a, .int p] ∧ SqL K H a (iV ts) ∧ TW n c ts ∧ 0 ≤ p ∧ p < n ∧ ∀ l H', Same H H' → H l = none → H' l = some (.lst (iV (way n p))) → Q (.ref l) H'
theorem ok_l_way (T : Txt K mg) : C8.Cal P w K mg base 1 "_law_way" (spLWay K) [] := by
  refine mkcal T.f_l_way sc_l_way (fun vs H Q E h => ?_) (fun _ _ _ _ _ _ us hl => match us, hl with | [_, _], _ => rfl) (fun f cdv A outer s H vs Q E hr h => ?_)
  · obtain ⟨a, p, n, c, ts, rfl, ha, tw, p1, p2, q⟩ := h
    rfl
  obtain ⟨a, p, n, c, ts, rfl, ha, tw, p1, p2, q⟩ := h
  have hn := tw.npos
  have hl := tw.len
  refine ⟨_, (pss_cons (ps_par (i := 2) (j := 3) (by rfl) sc_l_way.nd rfl rfl (by decide) rfl rfl (pa_cons (pe_op op_add (pe_op op_add (pe_op op_fdiv (pe_callB (call_lenK K) (by rfl) T.m_len (by decide +kernel) (pa_cons (pv 0) pa_nil)) pe_int) pe_int) (pv 1)) (pa_cons (pe_lst pa_nil) pa_nil)) (by rfl))
      (pss_cons (ps_while PassesOwn.never (pt_cmpR (op_ge) (pv 2) pe_int (nomark _)) (pss_cons (ps_set (i := 3) sc_l_way.nd rfl (Or.inl rfl) (pe_op op_cat (pe_lst (pa_cons (pv 2) pa_nil)) (pv 3)))
      (pss_one (ps_set (i := 2) sc_l_way.nd rfl (Or.inl rfl) (pe_op op_fdiv (pv 2) pe_int)))))
      (pss_one (ps_ret (pv 3))))), ?_⟩
  refine ⟨_, rfl, _, _, rfl, .inl ⟨_, ha, rfl⟩, _, _, rfl, rfl, ⟨by decide, by decide⟩, _, _, rfl, rfl, _, rfl, _, _, rfl, rfl, le_small (Nat.le_of_ble_eq_true rfl), fun d hd => ?_⟩
  refine ⟨_, _, rfl, ?_⟩
  have hv : (((iV ts).length : Int) / 2 + 1 + p) = n + p := by rw [iV_len]; omega
  refine whileS (fun m σ H' => ∃ v d' ns, σ = [some (.ref a), some (.int p), some (.int v), some (.ref d')] ∧ m = v.toNat ∧ 0 ≤ v ∧ v ≤ 63 ∧ (ns.length : Int) + v ≤ 64 ∧ H d' = none ∧ H' d' = some (.lst (iV ns)) ∧ (up v).reverse ++ ns = way n p ∧ Same H H') (n + p).toNat ?_ ?_
  · refine ⟨n + p, d, [], ?_, rfl, by omega, by omega, by simp; omega, hd, upd_same, List.append_nil _, same_up hd⟩
    rw [← hv] <;> rfl
  · rintro m σ H1 ⟨v, d', ns, rfl, rfl, v0, v63, hlen, hd0, hd1, hup, e⟩ Kn kt kf
    refine ⟨_, rfl, _, _, rfl, rfl, _, rfl, ?_⟩
    by_cases hv1 : 1 ≤ v
    · rw [decide_eq_true hv1]
      refine kt _ fun N hN => ?_
      refine ⟨_, rfl, le_small (Nat.le_of_ble_eq_true rfl), fun l1 hl1 => ?_⟩
      have e1 := same_up (o := .lst [.int v]) hl1
      refine ⟨_, rfl, l1, d', _, _, rfl, rfl, upd_same, e1 _ _ hd1, ?_, fun l2 hl2 => ?_⟩
      · rw [iV_len, sizeLine_eq]
        show 1 + ns.length ≤ _
        omega
      have e2 := e1.up (o := .lst ([.int v] ++ iV ns)) (e1.free hl2)
      refine ⟨_, rfl, _, _, rfl, rfl, ⟨by decide, by decide⟩, hN (v / 2).toNat _ _ (by omega) ⟨v / 2, l2, v :: ns, rfl, rfl, by omega, by omega, ?_, (e.trans e1).free hl2, upd_same, ?_, e.trans e2⟩⟩
      · rw [List.length_cons]
        omega
      · rw [← hup, up_pos hv1, List.reverse_cons, List.append_assoc] <;> rfl
    · rw [decide_eq_false hv1]
      rw [up_neg (by omega)] at hup
      have hns : ns = way n p := hup
      subst hns
      exact kf _ ⟨_, rfl, q d' H1 e hd0 hd1⟩
def spLWrite (K : PySem.W.Frag) : Sp := fun vs H Q _ => ∃ a l ts ws, vs = [.ref a, .ref l] ∧ SeqI K H a ts ∧ RowL K H l ws ∧ (∀ w ∈ ws, 1 ≤ w.1 ∧ w.1 ≤ ts.length) ∧ ∀ r H', Same H H' → H r = none → H' r = some (.lst (iV (puts ts ws))) → Q (.ref r) H'
theorem puts_length : ∀ {ws : List Wr} {ts : List Int}, (puts ts ws).length = ts.length
  | [], _ => rfl
  | w :: ws, ts => (puts_length (ws := ws) (ts := put ts w)).trans put_length
theorem ok_l_write (T : Txt K mg) : C8.Cal P w K mg base 1 "_law_write" (spLWrite K) [] := by
  refine mkcal T.f_l_write sc_l_write (fun vs H Q E h => ?_) (fun _ _ _ _ _ _ us hl => match us, hl with | [_, _], _ => rfl) (fun f cdv A outer s H vs Q E hr h => ?_)
  · obtain ⟨a, l, ts, ws, rfl, ha, ⟨xs, hl, hw⟩, wok, q⟩ := h
    rfl
  obtain ⟨a, l, ts, ws, rfl, ha, ⟨xs, hl, hw⟩, wok, q⟩ := h
  have hlen : xs.length = ws.length := Paired.length hw
  refine ⟨_, (pss_cons (ps_set (i := 2) sc_l_write.nd rfl (Or.inl rfl) (pe_callTy call_list_of (by rfl) T.m_list (by decide +kernel) (pa_cons (pv 0) pa_nil)))
      (pss_cons (ps_for PassesOwn.never rfl (pi_listK K (pv 1)) (pg_tupK K (n := 2) rfl (pgs_cons (pg_name (i := 3) sc_l_write.nd rfl (Or.inl rfl)) (pgs_cons (pg_name (i := 4) sc_l_write.nd rfl (Or.inl rfl)) pgs_nil))) (pss_one (ps_asg (pv 4) (pg_sub (pv 2) (pe_op op_sub (pv 3) pe_int) set_list))))
      (pss_one (ps_ret (pv 2))))), ?_⟩
  refine ⟨_, rfl, a, _, rfl, ha, fun r hr => ?_⟩
  have e1 := same_up (o := .lst (iV ts)) hr
  refine ⟨_, rfl, l, rfl, ⟨_, e1.sqL hl⟩, ?_⟩
  refine for_list (xs := xs) (fun i σ H' => ∃ z3 z4, σ = [some (.ref a), some (.ref l), some (.ref r), z3, z4] ∧ H' r = some (.lst (iV (puts ts (ws.take i)))) ∧ Same H H') ⟨none, none, rfl, upd_same, e1⟩ ?_ ?_ ?_
  · rintro i σ H' hi ⟨z3, z4, rfl, h1, h2⟩
    exact h2.sqL hl
  · rintro i y σ H' hi ⟨z3, z4, rfl, h1, h2⟩
    obtain ⟨wr, hw1, p, rfl, hp⟩ := Paired.at hw hi
    obtain ⟨w1, w2⟩ := wok wr (List.mem_of_getElem? hw1)
    refine ⟨_, _, rfl, h2.sqT hp, rfl, _, _, rfl, _, _, rfl, rfl, ?_⟩
    refine ⟨_, rfl, _, rfl, _, rfl, _, _, rfl, rfl, _, _, _, _, rfl, rfl, h1, ixN_int w1 (by rw [iV_len, puts_length]; exact w2), ?_⟩
    refine ⟨_, _, rfl, ?_, h2.up hr⟩
    rw [upd_same, iV_put, take_snoc hw1, puts_snoc]
  · rintro σ H' ⟨z3, z4, rfl, h1, h2⟩
    rw [hlen, List.take_length] at h1
    exact ⟨_, rfl, q r H' h2 hr h1⟩
def spLRaise (K : PySem.W.Frag) : Sp := fun vs H Q _ => ∃ a p l n c ts, vs = [.ref a, .int p, .int l] ∧ SqL K H a (iV ts) ∧ TW n c ts ∧ 0 ≤ p ∧ p < n ∧ ∀ r xs H', Same H H' → H r = none → H' r = some (.lst xs) → WrsAt K H' xs (raiseRow ts n p l) → Q (.ref r) H'
theorem ok_l_raise (T : Txt K mg) : C8.Cal P w K mg base 2 "_law_raise" (spLRaise K) [] := by
  refine mkcal T.f_l_raise sc_l_raise (fun vs H Q E h => ?_) (fun _ _ _ _ _ _ us hl => match us, hl with | [_, _, _], _ => rfl) (fun f cdv A outer s H vs Q E hr h => ?_)
  · obtain ⟨a, p, l, n, c, ts, rfl, ha, tw, p1, p2, q⟩ := h
    rfl
  obtain ⟨a, p, l, n, c, ts, rfl, ha, tw, p1, p2, q⟩ := h
  have hn := tw.npos
  have hl := tw.len
  refine ⟨_, (pss_one (ps_ret (pe_lc (own := [("_law_node", 3)]) (by rfl) sc_l_raise.nd (pi_listK K (C8.pe_c (ok_l_way T) hr (by decide) rfl (pa_cons (pv 0) (pa_cons (pv 1) pa_nil)))) (blkOk_by (own := [("_law_node", 3)]) (N := n_l_raise) (sc := defScope s_l_raise) (by decide +kernel)) (fun _ _ _ _ _ => (pg_name (i := 3) sc_l_raise.nd rfl (Or.inl rfl))) (fun _ _ _ _ _ => pts_one (pt_cmpR (op_lt) (pe_ix (ix_listK K) (pv 0) (pe_op op_sub (pv 3) pe_int) (fun _ _ => rfl)) (pv 2) (nomark _))) (fun _ _ _ _ _ => (pe_tup (pa_cons (pv 3) (pa_cons (pv 2) pa_nil))))))), ?_⟩
  refine ⟨_, rfl, _, rfl, a, p, n, c, ts, rfl, ha, tw, p1, p2, fun y H1 e1 hy1 hy2 => ⟨y, rfl, ⟨_, sqL_at hy2⟩, fun D hD => ?_⟩⟩
  refine lcW hD (Wk.list (sqL_at hy2)) (small_of (by have := way_len n p; rw [iV_len]; omega)) (fun i acc H => WrsAt K H acc ((((way n p).take i).filter fun v => decide (lvl ts v < l)).map fun v => (v, l))) .nil (fun i acc H H' e h => e.wrs h) (fun i x H2 acc hi e hacc hlen y hR Nt Nf ht hnf => ?_) (fun H2 acc e hacc hR => ?_)
  · rw [List.getElem?_map] at y
    obtain ⟨u, hu, rfl⟩ := Option.map_eq_some_iff.mp y
    obtain ⟨u1, u2⟩ := way_mem (List.mem_of_getElem? hu)
    refine ⟨rfl, _, rfl, _, rfl, _, _, rfl, rfl, _, _, _, _, rfl, rfl, (e1.trans e).sqL ha, atI_int u1 (by omega), _, rfl, _, _, rfl, rfl, _, rfl, iteD (fun h => ?_) fun h => ?_⟩
    · refine ⟨_, rfl, _, rfl, le_small (Nat.le_of_ble_eq_true rfl), fun z hz => ht _ _ (same_up hz) ?_⟩
      rw [take_snoc hu, List.filter_append, List.map_append, List.filter_cons_of_pos (by simpa using h)]
      exact Paired.snoc ((off_mono (same_up hz)).wrs hR) (wr_off (same_up hz _ _ hacc) ⟨z, rfl, sqT_at upd_same⟩)
    · refine hnf _ (Same.refl _) ?_
      rw [take_snoc hu, List.filter_append, List.map_append, List.filter_cons_of_neg (by simpa using h)]
      simpa using hR
  · rw [iV_len, List.take_length] at hR
    exact q D acc H2 (e1.trans e) (e1.free hD) hacc (off_same.wrs hR)
def spLLower (K : PySem.W.Frag) : Sp := fun vs H Q _ => ∃ a v l n c ts, vs = [.ref a, .int v, .int l] ∧ SqL K H a (iV ts) ∧ TW n c ts ∧ 1 ≤ v ∧ v < 2 * n ∧ 0 ≤ l ∧ l ≤ c ∧ ∀ r xs H', Same H H' → H r = none → H' r = some (.lst xs) → WrsAt K H' xs (lowRow ts v l) → Q (.ref r) H'
theorem cut_last {xs : List V} {x : V} : cutV (xs ++ [x]) (some (-1)) none = [x] := by
  have h1 : HT.sIx (xs ++ [x]).length 0 (some (-1)) = xs.length := by
    show (if (-1 : Int) < 0 then (-1 + ((xs ++ [x]).length : Int)).toNat else min (-1 : Int).toNat (xs ++ [x]).length) = _
    rw [if_pos (by decide), List.length_append]
    show (-1 + ((xs.length + 1 : Nat) : Int)).toNat = _
    omega
  rw [cutV, h1, HT.sIx_none, List.drop_left, List.length_append]
  show [x].take (xs.length + 1 - xs.length) = [x]
  rw [show xs.length + 1 - xs.length = 1 by omega] <;> rfl
theorem ok_l_lower (T : Txt K mg) : C8.Cal P w K mg base 2 "_law_lower" (spLLower K) [] := by
  refine mkcal T.f_l_lower sc_l_lower (fun vs H Q E h => ?_) (fun _ _ _ _ _ _ us hl => match us, hl with | [_, _, _], _ => rfl) (fun f cdv A outer s H vs Q E hr h => ?_)
  · obtain ⟨a, v, l, n, c, ts, rfl, ha, tw, v1, v2, l1, l2, q⟩ := h
    rfl
  obtain ⟨a, v, l, n, c, ts, rfl, ha, tw, v1, v2, l1, l2, q⟩ := h
  have hn := tw.npos
  have hl := tw.len
  refine ⟨_, (pss_cons (ps_if (pt_cmpR (op_ge) (pv 2) (pe_ix (ix_listK K) (pv 0) (pe_op op_sub (pv 1) pe_int) (fun _ _ => rfl)) (nomark _)) (pss_one (ps_ret (pe_lst pa_nil))) pss_nil)
      (pss_cons (ps_par (i := 3) (j := 4) (by rfl) sc_l_lower.nd rfl rfl (by decide) rfl rfl (pa_cons (pe_lst (pa_cons (pe_tup (pa_cons (pv 1) (pa_cons (pv 2) pa_nil))) pa_nil)) (pa_cons (C8.pe_c (ok_l_write T) hr (by decide) rfl (pa_cons (pv 0) (pa_cons (pe_lst (pa_cons (pe_tup (pa_cons (pv 1) (pa_cons (pv 2) pa_nil))) pa_nil)) pa_nil))) pa_nil)) (by rfl))
      (pss_cons (ps_set (i := 1) sc_l_lower.nd rfl (Or.inl rfl) (pe_op op_fdiv (pv 1) pe_int))
      (pss_cons (ps_while PassesOwn.never (pt_cmpR (op_ge) (pv 1) pe_int (nomark _)) (pss_cons (ps_if (pt_cmpR (op_gt) (pe_ix (ix_listK K) (pv 4) (pe_op op_sub (pv 1) pe_int) (fun _ _ => rfl)) (C8.pe_c (ok_l_greater T) hr (by decide) rfl (pa_cons (pv 4) (pa_cons (pv 1) pa_nil))) (nomark _)) (pss_cons (ps_expr (pe_bm PySem.F.plainAttrs_list PySem.F.slot_list_append PySem.F.type_list_append mt_append (pv 3) (pa_cons (pe_tup (pa_cons (pv 1) (pa_cons (C8.pe_c (ok_l_greater T) hr (by decide) rfl (pa_cons (pv 4) (pa_cons (pv 1) pa_nil))) pa_nil))) pa_nil)))
      (pss_one (ps_set (i := 4) sc_l_lower.nd rfl (Or.inl rfl) (C8.pe_c (ok_l_write T) hr (by decide) rfl (pa_cons (pv 4) (pa_cons (pe_slice (sl_listK K) (pv 3) (po_some (pe_un un_neg pe_int)) po_none) pa_nil)))))) pss_nil)
      (pss_one (ps_set (i := 1) sc_l_lower.nd rfl (Or.inl rfl) (pe_op op_fdiv (pv 1) pe_int)))))
      (pss_one (ps_ret (pv 3))))))), ?_⟩
  refine ⟨_, rfl, _, rfl, _, rfl, _, _, rfl, rfl, _, _, _, _, rfl, rfl, ha, atI_int v1 (by omega), _, _, rfl, rfl, _, rfl, iteD (fun h => ?_) fun h => ?_⟩
  · have e0 : lowRow ts v l = [] := if_pos h
    rw [e0] at q
    exact ⟨le_small (Nat.le_of_ble_eq_true rfl), fun r hr => q r [] _ (same_up hr) hr upd_same .nil⟩
  have e0 : lowRow ts v l = (v, l) :: lowUp (put ts (v, l)) (v / 2) := if_neg h
  refine ⟨_, rfl, _, rfl, le_small (Nat.le_of_ble_eq_true rfl), fun p hp => ?_⟩
  have e1 := same_up (o := .tup [.int v, .int l]) hp
  refine ⟨le_small (Nat.le_of_ble_eq_true rfl), fun r hr => ?_⟩
  have hr0 := e1.free hr
  have e2 := e1.up (o := .lst [.ref p]) hr0
  have hr2 := upd_same (H := upd H p (.tup [.int v, .int l])) (a := r) (o := .lst [.ref p])
  have hp2 : WrAt K (upd (upd H p (.tup [.int v, .int l])) r (.lst [.ref p])) (.ref p) (v, l) := ⟨p, rfl, (same_up hr).sqT (sqT_at upd_same)⟩
  generalize upd (upd H p (.tup [.int v, .int l])) r (.lst [.ref p]) = H2 at e2 hr2 hp2 ⊢
  refine ⟨_, rfl, _, rfl, _, rfl, le_small (Nat.le_of_ble_eq_true rfl), fun p' hp' => ?_⟩
  have e3 := same_up (o := .tup [.int v, .int l]) hp'
  refine ⟨le_small (Nat.le_of_ble_eq_true rfl), fun r' hr' => ?_⟩
  have e4 := e3.up (o := .lst [.ref p']) (e3.free hr')
  refine ⟨a, r', ts, [(v, l)], rfl, .inl (e4.sqL (e2.sqL ha)), ⟨_, sqL_at upd_same, .cons ⟨p', rfl, (same_up hr').sqT (sqT_at upd_same)⟩ .nil⟩, fun w' hw' => ?_, fun x H3 e5 hx0 hx => ?_⟩
  · rw [List.mem_singleton.mp hw']
    exact ⟨v1, by show v ≤ _; omega⟩
  have e23 := e4.trans e5
  have e03 := e2.trans e23
  have hx0' : H x = none := (e2.trans e4).free hx0
  have hr3 := e23 _ _ hr2
  have hp3 := e23.wr hp2
  have hxr : x ≠ r := (ne_of_none (e4 _ _ hr2) hx0).symm
  refine ⟨_, _, rfl, ?_⟩
  refine ⟨_, rfl, _, _, rfl, rfl, ⟨by decide, by decide⟩, ?_⟩
  refine whileS (fun m σ H' => ∃ v' x' cur xs done, σ = [some (.ref a), some (.int v'), some (.int l), some (.ref r), some (.ref x')] ∧ m = v'.toNat ∧ v' < n ∧ H' r = some (.lst xs) ∧ WrsAt K H' xs done ∧ H' x' = some (.lst (iV cur)) ∧ x' ≠ r ∧ TW n c cur ∧ done ++ lowUp cur v' = lowRow ts v l ∧ (xs.length : Int) + v' ≤ 64 ∧ 0 ≤ v' ∧ Same H H') (v / 2).toNat ?_ ?_
  · refine ⟨v / 2, x, put ts (v, l), [.ref p], [(v, l)], rfl, rfl, by omega, hr3, .cons hp3 .nil, hx, hxr, tw.put ⟨l1, l2⟩, e0.symm, ?_, by omega, e03⟩
    show ((1 : Nat) : Int) + v / 2 ≤ 64
    omega
  · rintro m σ H4 ⟨v', x', cur, xs, done, rfl, rfl, w1, w2, w3, w4, w4n, w4t, w5, w6, w7, w8⟩ Kn kt kf
    have hcl := w4t.len
    refine ⟨_, rfl, _, _, rfl, rfl, _, rfl, ?_⟩
    by_cases hv : 1 ≤ v'
    · rw [decide_eq_true hv]
      refine kt _ fun N hN => ?_
      refine ⟨_, rfl, _, rfl, _, _, rfl, rfl, _, _, _, _, rfl, rfl, sqL_at w4, atI_int hv (by omega), _, rfl, _, rfl, x', v', cur, rfl, sqL_at w4, hv, by omega, _, _, rfl, rfl, _, rfl, iteD (fun g => ?_) fun g => ?_⟩
      · refine ⟨_, rfl, .inl ⟨rfl, _, sqL_at w2⟩, _, rfl, _, rfl, _, rfl, x', v', cur, rfl, sqL_at w4, hv, by omega, le_small (Nat.le_of_ble_eq_true rfl), fun p6 hp6 => ?_⟩
        have f1 := same_up (o := .tup [.int v', .int (gr cur v')]) hp6
        have w2' := f1 _ _ w2
        refine ⟨_, _, _, rfl, rfl, w2', small_of (by omega), ?_⟩
        have f2 : Same (off (upd H4 p6 (.tup [.int v', .int (gr cur v')])) r) (upd (upd H4 p6 (.tup [.int v', .int (gr cur v')])) r (.lst (xs ++ [.ref p6]))) := Ex.off Ex.refl.upx
        have w4' : (upd (upd H4 p6 (.tup [.int v', .int (gr cur v')])) r (.lst (xs ++ [.ref p6]))) x' = some (.lst (iV cur)) := (upd_ne w4n).trans (f1 _ _ w4)
        have w3' := f2.wrs (wrs_off w2' (f1.wrs w3))
        have wp := f2.wr (wr_off w2' (⟨p6, rfl, sqT_at upd_same⟩ : WrAt K (upd H4 p6 (.tup [.int v', .int (gr cur v')])) (.ref p6) (v', gr cur v')))
        have hr4 := upd_same (H := upd H4 p6 (.tup [.int v', .int (gr cur v')])) (a := r) (o := .lst (xs ++ [.ref p6]))
        have w8' : Same H (upd (upd H4 p6 (.tup [.int v', .int (gr cur v')])) r (.lst (xs ++ [.ref p6]))) := (w8.trans f1).up hr0
        generalize upd (upd H4 p6 (.tup [.int v', .int (gr cur v')])) r (.lst (xs ++ [.ref p6])) = H5 at w4' w3' wp hr4 w8' ⊢
        obtain ⟨g1, g2⟩ := gr_bound w4t hv w1
        refine ⟨_, rfl, _, rfl, _, rfl, _, rfl, _, _, rfl, sqL_at hr4, fun sl hsl => ?_⟩
        have e6 := same_up (o := .lst (cutV (xs ++ [.ref p6]) (some (-1)) none)) hsl
        have hsl2 := upd_same (H := H5) (a := sl) (o := .lst (cutV (xs ++ [.ref p6]) (some (-1)) none))
        generalize upd H5 sl (.lst (cutV (xs ++ [.ref p6]) (some (-1)) none)) = H6 at e6 hsl2 ⊢
        rw [cut_last] at hsl2
        refine ⟨x', sl, cur, [(v', gr cur v')], rfl, .inl (sqL_at (e6 _ _ w4')), ⟨_, sqL_at hsl2, .cons (e6.wr wp) .nil⟩, fun w' hw' => ?_, fun x2 H7 e7 hx2 hx7 => ?_⟩
        · rw [List.mem_singleton.mp hw']
          exact ⟨hv, by show v' ≤ _; omega⟩
        have e67 := e6.trans e7
        refine ⟨_, rfl, _, _, rfl, rfl, ⟨by decide, by decide⟩, hN (v' / 2).toNat _ _ (by omega) ⟨v' / 2, x2, put cur (v', gr cur v'), xs ++ [.ref p6], done ++ [(v', gr cur v')], rfl, rfl, by omega, e67 _ _ hr4, Paired.snoc (e67.wrs w3') (e67.wr wp), hx7, (ne_of_none (e6 _ _ hr4) hx2).symm, w4t.put ⟨g1, g2⟩, ?_, ?_, by omega, w8'.trans e67⟩⟩
        · rw [← w5, lowUp_lt hv g, List.append_assoc] <;> rfl
        · rw [List.length_append]
          show ((xs.length + 1 : Nat) : Int) + v' / 2 ≤ 64
          omega
      · refine ⟨_, rfl, _, _, rfl, rfl, ⟨by decide, by decide⟩, hN (v' / 2).toNat _ _ (by omega) ⟨v' / 2, x', cur, xs, done, rfl, rfl, by omega, w2, w3, w4, w4n, w4t, ?_, by omega, by omega, w8⟩⟩
        rw [← w5, lowUp_ge hv g]
    · rw [decide_eq_false hv]
      rw [lowUp_neg (by omega), List.append_nil] at w5
      subst w5
      exact kf _ ⟨_, rfl, q r xs H4 w8 hr0 w2 w3⟩
def spLUpright (K : PySem.W.Frag) : Sp := fun vs H Q _ => ∃ a n c ts, vs = [.ref a] ∧ SqL K H a (iV ts) ∧ TW n c ts ∧ Up n ts ∧ ∀ H', Same H H' → Q (.bl true) H'
theorem ok_l_is_upright (T : Txt K mg) : C8.Cal P w K mg base 1 "_law_is_upright" (spLUpright K) [] := by
  refine mkcal T.f_l_is_upright sc_l_is_upright (fun vs H Q E h => ?_) (fun _ _ _ _ _ _ us hl => match us, hl with | [_], _ => rfl) (fun f cdv A outer s H vs Q E hr h => ?_)
  · obtain ⟨a, n, c, ts, rfl, ha, tw, hu, q⟩ := h
    rfl
  obtain ⟨a, n, c, ts, rfl, ha, tw, hu, q⟩ := h
  have hn := tw.npos
  have hl := tw.len
  refine ⟨_, (pss_one (ps_ret (pe_cmpR (op_eqD hr.units) (pe_lc (own := [("_law_node", 1)]) (by rfl) sc_l_is_upright.nd (pi_range2 rfl T.m_range (pa_cons pe_int (pa_cons (pe_op op_add (pe_callB (call_lenK K) (by rfl) T.m_len (by decide +kernel) (pa_cons (pv 0) pa_nil)) pe_int) pa_nil))) (blkOk_by (own := [("_law_node", 1)]) (N := n_l_is_upright) (sc := defScope s_l_is_upright) (by decide +kernel)) (fun _ _ _ _ _ => (pg_name (i := 1) sc_l_is_upright.nd rfl (Or.inl rfl))) (fun _ _ _ _ _ => pts_one (pt_cmpR (op_gt) (pe_ix (ix_listK K) (pv 0) (pe_op op_sub (pv 1) pe_int) (fun _ _ => rfl)) (pe_ix (ix_listK K) (pv 0) (pe_op op_sub (pe_op op_fdiv (pv 1) pe_int) pe_int) (fun _ _ => rfl)) (nomark _))) (fun _ _ _ _ _ => (pv 1))) (pe_lst pa_nil) (nomark _)))), ?_⟩
  refine ⟨_, rfl, _, _, rfl, .inl ⟨_, ha, rfl⟩, _, _, rfl, rfl, _, _, rfl, ⟨by decide, by decide, by rw [iV_len]; omega, by rw [iV_len]; omega⟩, fun D hD => ?_⟩
  have hm : (((iV ts).length : Int) + 1 - 2).toNat = (2 * n - 2).toNat := by rw [iV_len]; omega
  refine lcF hD Wk.rng (List.range (2 * n - 2).toNat) (fun _ => V.non) (fun _ => false) (by rw [List.length_range]; exact hm) (small_of (by rw [iV_len]; omega)) (fun i u x H1 h1 e y Nt Nf ht hf => ?_) (fun H1 e h1 => ?_)
  · obtain ⟨rfl, hi⟩ := range_get h1
    subst y
    have h2 := atI_int (ts := ts) (v := 2 + (u : Int)) (by omega) (by omega)
    have h3 := atI_int (ts := ts) (v := (2 + (u : Int)) / 2) (by omega) (by omega)
    have h4 := hu (2 + (u : Int)) (by omega) (by omega)
    refine ⟨rfl, _, rfl, _, rfl, _, _, rfl, rfl, _, _, _, _, rfl, rfl, e.sqL ha, h2, _, rfl, _, rfl, _, _, rfl, rfl, ⟨by decide, by decide⟩, _, _, rfl, rfl, _, _, _, _, rfl, rfl, e.sqL ha, h3, _, _, rfl, rfl, _, rfl, iteD (fun h => ?_) fun _ => hf _ (Same.refl _) rfl⟩
    omega
  · have h2 : ((List.range (2 * n - 2).toNat).filter fun _ => false) = [] := List.filter_eq_nil_iff.mpr fun _ _ => Bool.false_ne_true
    rw [h2] at h1
    refine ⟨le_small (Nat.le_of_ble_eq_true rfl), fun p6 hp6 => ⟨.list [], .list [], .lst ((same_up hp6).sqL (sqL_at h1)) .nil, .lst (sqL_at upd_same) .nil, by decide +kernel, by decide +kernel, ?_⟩⟩
    have hev : PyData.eqv (.list []) (.list []) = true := by decide +kernel
    rw [hev]
    exact q _ (e.up (e.free hp6))
def spLMend (K : PySem.W.Frag) : Sp := fun vs H Q _ => ∃ a n c ts, vs = [.ref a] ∧ SeqI K H a ts ∧ TW n c ts ∧ ∀ r H', Same H H' → H r = none → H' r = some (.lst (iV (mend n ts))) → Q (.ref r) H'
theorem ok_l_mend (T : Txt K mg) : C8.Cal P w K mg base 2 "_law_mend" (spLMend K) [] := by
  refine mkcal T.f_l_mend sc_l_mend (fun vs H Q E h => ?_) (fun _ _ _ _ _ _ us hl => match us, hl with | [_], _ => rfl) (fun f cdv A outer s H vs Q E hr h => ?_)
  · obtain ⟨a, n, c, ts, rfl, ha, tw, q⟩ := h
    rfl
  obtain ⟨a, n, c, ts, rfl, ha, tw, q⟩ := h
  have hn := tw.npos
  have hl := tw.len
  refine ⟨_, (pss_cons (ps_set (i := 1) sc_l_mend.nd rfl (Or.inl rfl) (pe_callTy call_list_of (by rfl) T.m_list (by decide +kernel) (pa_cons (pv 0) pa_nil)))
      (pss_cons (ps_for PassesOwn.never rfl (pi_listK K (pe_listRg3 rfl rfl T.m_list rfl T.m_range (pa_cons (pe_op op_fdiv (pe_callB (call_lenK K) (by rfl) T.m_len (by decide +kernel) (pa_cons (pv 0) pa_nil)) pe_int) (pa_cons pe_int (pa_cons (pe_un un_neg pe_int) pa_nil))))) (pg_name (i := 2) sc_l_mend.nd rfl (Or.inl rfl)) (pss_one (ps_asg (C8.pe_c (ok_l_greater T) hr (by decide) rfl (pa_cons (pv 1) (pa_cons (pv 2) pa_nil))) (pg_sub (pv 1) (pe_op op_sub (pv 2) pe_int) set_list))))
      (pss_one (ps_ret (pv 1))))), ?_⟩
  refine ⟨_, rfl, a, _, rfl, ha, fun p0 hp0 => ?_⟩
  have e0 := same_up (o := .lst (iV ts)) hp0
  have hp1 := upd_same (H := H) (a := p0) (o := .lst (iV ts))
  generalize upd H p0 (.lst (iV ts)) = H1 at e0 hp1 ⊢
  have lenq : ∃ m : Nat, LenV K (.ref a) H1 m ∧ m = (iV ts).length := by
    rcases e0.seqI ha with h | h
    · exact ⟨_, .inl ⟨_, h, rfl⟩, rfl⟩
    · exact ⟨_, .inr ⟨_, h, rfl⟩, rfl⟩
  obtain ⟨m, hm, rfl⟩ := lenq
  have hlen : ((iV ts).length : Int) / 2 = n - 1 := by rw [iV_len]; omega
  have hrg : RgC (((iV ts).length : Int) / 2) 0 (-1) (n - 1 - 0).toNat := by
    rw [hlen]
    exact RgC.neg (by omega) (by omega) (by omega) (by omega)
  refine ⟨_, rfl, _, _, rfl, hm, _, _, rfl, rfl, ⟨by decide, by decide⟩, _, rfl, _, _, _, _, rfl, hrg, by omega, fun l hl0 => ?_⟩
  have el : ((List.range (n - 1 - 0).toNat).map fun (k : Nat) => V.int (((iV ts).length : Int) / 2 + k * -1)) = (List.range (n - 1 - 0).toNat).map fun (k : Nat) => V.int (n - 1 + k * -1) := by rw [hlen]
  have e1 := same_up (o := .lst ((List.range (n - 1 - 0).toNat).map fun (k : Nat) => V.int (((iV ts).length : Int) / 2 + k * -1))) hl0
  have hl2 := upd_same (H := H1) (a := l) (o := .lst ((List.range (n - 1 - 0).toNat).map fun (k : Nat) => V.int (((iV ts).length : Int) / 2 + k * -1)))
  generalize upd H1 l (.lst ((List.range (n - 1 - 0).toNat).map fun (k : Nat) => V.int (((iV ts).length : Int) / 2 + k * -1))) = H2 at e1 hl2 ⊢
  rw [el] at hl2
  have hp2 := e1 _ _ hp1
  have hne : l ≠ p0 := (ne_of_none hp1 hl0).symm
  refine ⟨_, rfl, ⟨_, sqL_at hl2⟩, ?_⟩
  refine for_list (xs := (List.range (n - 1 - 0).toNat).map fun (k : Nat) => V.int (n - 1 + k * -1)) (fun i σ H' => ∃ z cur, σ = [some (.ref a), some (.ref p0), z] ∧ H' p0 = some (.lst (iV cur)) ∧ TW n c cur ∧ mendTo ((n - 1).toNat - i) cur = mend n ts ∧ Ex p0 H2 H') ⟨none, ts, rfl, hp2, tw, rfl, Ex.refl⟩ ?_ ?_ ?_
  · rintro i σ H' hi ⟨z, cur, rfl, h1, h2, h3, h4⟩
    exact sqL_at (h4 _ _ hne hl2)
  · rintro i x σ H' hi ⟨z, cur, rfl, h1, h2, h3, h4⟩
    have hc := h2.len
    rw [List.getElem?_map] at hi
    obtain ⟨k, hk, rfl⟩ := Option.map_eq_some_iff.mp hi
    obtain ⟨rfl, hk2⟩ := range_get hk
    have v1 : 1 ≤ n - 1 + (k : Int) * -1 := by omega
    have v2 : n - 1 + (k : Int) * -1 < n := by omega
    generalize hv : n - 1 + (k : Int) * -1 = v at v1 v2
    refine ⟨_, rfl, _, rfl, p0, v, cur, rfl, sqL_at h1, v1, by omega, ?_⟩
    refine ⟨_, rfl, _, rfl, _, _, rfl, rfl, _, _, _, _, rfl, rfl, h1, ixN_int v1 (by rw [iV_len]; omega), ?_⟩
    refine ⟨_, put cur (v, gr cur v), rfl, ?_, h2.put (gr_bound h2 v1 v2), ?_, h4.upx⟩
    · rw [upd_same, ← iV_put] <;> rfl
    · rw [← h3]
      have e : (n - 1).toNat - k = ((n - 1).toNat - (k + 1)) + 1 := by omega
      have e2 : (((n - 1).toNat - (k + 1) + 1 : Nat) : Int) = v := by omega
      rw [e, mendTo, e2]
  · rintro σ H' ⟨z, cur, rfl, h1, h2, h3, h4⟩
    rw [List.length_map, List.length_range, show (n - 1).toNat - (n - 1 - 0).toNat = 0 by omega] at h3
    have hs : Same H H' := fun b o hb => h4 _ _ (ne_of_none hb hp0) (e1 _ _ (e0 b o hb))
    have h3' : cur = mend n ts := h3
    subst h3'
    exact ⟨_, rfl, q p0 H' hs hp0 h1⟩
end


end
/-! part P19 -/
section
/-! ### the walk: the law's disks -/
section
variable {J : It} {H1 : Hp} {n : Nat} {Y : Nat → V → Hp → Prop} {g : TG} {tb : TS} {σ : L2.St} {D : Ends}
theorem forWk (w : Wk J H1 n Y) (Pv : Nat → L2.St → Hp → Prop) (h0 : Pv 0 σ H1) (hsame : ∀ i σ H, Pv i σ H → Same H1 H)
    (hs : ∀ i x σ H H', i < n → Pv i σ H → Same H H' → Y i x H' → g x σ H' fun σ2 H2 => tb { D with nx := Pv (i + 1), ct := Pv (i + 1), bk := D.nx } σ2 H2) (hd : ∀ σ H, Pv n σ H → D.nx σ H) :
    ∃ W : Nat → Nat → L2.St → Hp → Prop, (∃ m, W 0 m σ H1) ∧ ∀ i m σ H, W i m σ H →
      (J.stop i H ∧ D.nx σ H) ∨ (J.go i H ∧ ∃ N : L2.St → Hp → Prop, (∀ σ' H', N σ' H' → ∃ m', m' < m ∧ W (i + 1) m' σ' H') ∧ ∀ x H', J.yld i H x H' → g x σ H' fun σ2 H2 => tb { D with nx := N, ct := N, bk := D.nx } σ2 H2) := by
  refine ⟨fun i m σ H => m = n - i ∧ i ≤ n ∧ Pv i σ H, ⟨n, by simp, Nat.zero_le _, h0⟩, ?_⟩
  rintro i m σ H ⟨rfl, hi, p⟩
  by_cases hlt : i < n
  · obtain ⟨w1, w2⟩ := w.step i H hlt (hsame _ _ _ p)
    refine .inr ⟨w1, Pv (i + 1), fun σ' H' p' => ⟨n - (i + 1), by omega, rfl, hlt, p'⟩, fun x H' y => ?_⟩
    obtain ⟨e1, hy⟩ := w2 x H' y
    exact hs i x σ H H' hlt p e1 hy
  · have e0 : i = n := by omega
    subst e0
    exact .inl ⟨w.stop H (hsame _ _ _ p), hd σ H p⟩
end
structure DOk (n c : Int) (D : Dk) : Prop where
  tw : TW n c D.base
  row : ∀ w ∈ D.row, WOk n c w
theorem DOk.now {n c : Int} {D : Dk} (h : DOk n c D) : TW n c D.now := h.tw.puts h.row
theorem DOk.aft1 {n c : Int} {D : Dk} (h : DOk n c D) {f : Bool} {w : Wr} (hw : WOk n c w) : DOk n c (aft1 f D w) := by
  have hr : ∀ u ∈ D.row ++ [w], WOk n c u := fun u hu => by
    rcases List.mem_append.mp hu with h1 | h1
    · exact h.row u h1
    · rw [List.mem_singleton.mp h1]; exact hw
  cases f
  · exact ⟨h.tw, hr⟩
  · exact ⟨h.tw.puts hr, fun u hu => by cases hu⟩
def aftI (f last : Bool) (len : Nat) : Dk → Nat → List Wr → Dk
  | D, _, [] => D
  | D, i, w :: ws => aftI f last len (aft1 (f && (last || decide ((i : Int) < (len : Int) - 1))) D w) (i + 1) ws
theorem aftI_last {f : Bool} {len : Nat} : ∀ (ws : List Wr) (D : Dk) (i : Nat), aftI f true len D i ws = afts f D ws
  | [], _, _ => rfl
  | w :: ws, D, i => by
    rw [aftI, Bool.true_or, Bool.and_true, aftI_last ws]
    rfl
theorem aftI_cut {f : Bool} {len : Nat} : ∀ (ws : List Wr) (w : Wr) (D : Dk) (i : Nat), i + ws.length + 1 = len → aftI f false len D i (ws ++ [w]) = add1 (afts f D ws) w
  | [], w, D, i, h => by
    have : ¬ ((i : Int) < (len : Int) - 1) := by simp at h; omega
    rw [List.nil_append, aftI, decide_eq_false this, Bool.or_false, Bool.and_false, aftI]
    rfl
  | u :: ws, w, D, i, h => by
    rw [List.length_cons] at h
    have : (i : Int) < (len : Int) - 1 := by omega
    rw [List.cons_append, aftI, decide_eq_true this, Bool.or_true, Bool.and_true, aftI_cut ws w _ _ (by omega)]
    rfl
theorem aftI_cutAt {f : Bool} {D : Dk} {ws : List Wr} {k : Int} (h1 : 1 ≤ k) (h2 : k ≤ ws.length) : aftI f false (ws.take k.toNat).length D 0 (ws.take k.toNat) = cutAt f D ws k := by
  have hk : (k - 1).toNat < ws.length := by omega
  have e : ws.take k.toNat = ws.take (k - 1).toNat ++ [ws[(k - 1).toNat]] := by
    rw [show k.toNat = (k - 1).toNat + 1 by omega]
    exact take_snoc (List.getElem?_eq_getElem hk)
  rw [e, aftI_cut _ _ _ _ (by rw [List.length_append, List.length_cons, List.length_nil]; omega)]
  unfold cutAt
  rw [List.getElem?_eq_getElem hk]
abbrev parV (p : Par) : List V := [side p.ra, side p.la, .bl p.fr, .bl p.fl, ordV p.io, .bl p.me]
def LDiskAt (K : PySem.W.Frag) (H : Hp) (d : Addr) (D : Dk) : Prop := ∃ b s xs, H d = some (.lst [.ref b, .ref s]) ∧ H b = some (.lst (iV D.base)) ∧ H s = some (.lst xs) ∧ WrsAt K H xs D.row
section
variable {K : PySem.W.Frag} {H H' : Hp}
theorem _root_.L2.Same.ldisk (e : Same H H') {d : Addr} {D : Dk} (h : LDiskAt K H d D) : LDiskAt K H' d D := by
  obtain ⟨b, s, xs, h1, h2, h3, h4⟩ := h
  exact ⟨b, s, xs, e _ _ h1, e _ _ h2, e _ _ h3, e.wrs h4⟩
theorem off_lst {z r : Addr} {o u : HO} (hz : H z = some o) (hr : H r = none) (h : H' r = some u) : off H' z r = some u := (off_ne (ne_of_none hz hr).symm).trans h
end
section
variable {P : Program} {w : World} {K : PySem.W.Frag} {mg : Str → Option Value} {base : Heap}
def spMade (K : PySem.W.Frag) : Sp := fun vs H Q _ => ∃ a p, vs = [.ref a] ∧ SqL K H a (parV p) ∧ ∀ s H', Same H H' → SetAt K H' s p → Q (.ref s) H'
theorem ok_l_made (T : Txt K mg) : C8.Cal P w K mg base 5 "_law_made" (spMade K) [] := by
  refine mkcal T.f_l_made sc_l_made (fun vs H Q E h => ?_) (fun _ _ _ _ _ _ us hl => match us, hl with | [_], _ => rfl) (fun f cdv A outer s H vs Q E hr h => ?_)
  · obtain ⟨a, p, rfl, ha, q⟩ := h
    rfl
  obtain ⟨a, p, rfl, ha, q⟩ := h
  refine ⟨_, (pss_one (ps_ret (pe_mkK (ok_Setting_init T) hr (by decide) rfl (pk_cons (pe_ix (ix_listK K) (pv 0) pe_int (fun _ _ => rfl)) (pk_cons (pe_ix (ix_listK K) (pv 0) pe_int (fun _ _ => rfl)) (pk_cons (pe_ix (ix_listK K) (pv 0) pe_int (fun _ _ => rfl)) (pk_cons (pe_ix (ix_listK K) (pv 0) pe_int (fun _ _ => rfl)) (pk_cons (pe_ix (ix_listK K) (pv 0) pe_int (fun _ _ => rfl)) (pk_cons (pe_ix (ix_listK K) (pv 0) pe_int (fun _ _ => rfl)) pk_nil))))))))), ?_⟩
  refine ⟨_, rfl, _, _, _, _, rfl, rfl, ha, (show atI _ (0 : Int) = some (side p.ra) from rfl), _, rfl, _, _, _, _, rfl, rfl, ha, (show atI _ (1 : Int) = some (side p.la) from rfl), _, rfl, _, _, _, _, rfl, rfl, ha, (show atI _ (2 : Int) = some (.bl p.fr) from rfl), _, rfl, _, _, _, _, rfl, rfl, ha, (show atI _ (3 : Int) = some (.bl p.fl) from rfl), _, rfl, _, _, _, _, rfl, rfl, ha, (show atI _ (4 : Int) = some (ordV p.io) from rfl), _, rfl, _, _, _, _, rfl, rfl, ha, (show atI _ (5 : Int) = some (.bl p.me) from rfl), rfl, rfl, fun x dx hx hdx hne => ?_⟩
  have e : Same H (upd (upd H dx (.own x)) x (.ins (cS K) dx [])) := (same_up hdx).up hx
  exact ⟨x, dx, p, rfl, upd_same, fun H' e' hs => ⟨rfl, q x H' (fun b o hb => e' b o (ne_of_none hb hx) (e b o hb)) hs⟩⟩
def spLDeedRows (K : PySem.W.Frag) : Sp := fun vs H Q _ => ∃ a t x p n c ts d, vs = [.ref a, .ref t, x] ∧ SqL K H a (parV p) ∧ SqL K H t (iV ts) ∧ TW n c ts ∧ DeedAt K H x d ∧ DeedOk n c d ∧ ∀ r xs H', Same H H' → H r = none → H' r = some (.lst xs) → WrsAt K H' xs (rows p n ts d) → Q (.ref r) H'
theorem ok_l_deed_rows (T : Txt K mg) : C8.Cal P w K mg base 3 "_law_deed_rows" (spLDeedRows K) [] := by
  refine mkcal T.f_l_deed_rows sc_l_deed_rows (fun vs H Q E h => ?_) (fun _ _ _ _ _ _ us hl => match us, hl with | [_, _, _], _ => rfl) (fun f cdv A outer s H vs Q E hr h => ?_)
  · obtain ⟨a, t, x, p, n, c, ts, d, rfl, ha, ht, tw, hx, hd, q⟩ := h
    rfl
  obtain ⟨a, t, x, p, n, c, ts, d, rfl, ha, ht, tw, hx, hd, q⟩ := h
  have hn := tw.npos
  have hl := tw.len
  obtain ⟨p1, p2, l1, l2⟩ := id hd
  obtain ⟨pt, rfl, hp⟩ := id hx
  refine ⟨_, (pss_cons (ps_asg (pv 2) (pg_tupK K (n := 3) rfl (pgs_cons (pg_name (i := 3) sc_l_deed_rows.nd rfl (Or.inl rfl)) (pgs_cons (pg_name (i := 4) sc_l_deed_rows.nd rfl (Or.inl rfl)) (pgs_cons (pg_name (i := 5) sc_l_deed_rows.nd rfl (Or.inl rfl)) pgs_nil)))))
      (pss_cons (ps_if (pt_cmpR (op_eq) (pv 3) pe_str (nomark _)) (pss_cons (ps_set (i := 6) sc_l_deed_rows.nd rfl (Or.inl rfl) (C8.pe_c (ok_l_raise T) hr (by decide) rfl (pa_cons (pv 1) (pa_cons (pv 4) (pa_cons (pv 5) pa_nil)))))
      (pss_one (ps_ret (pe_ifExp (pt_cmpR (op_eq) (pe_ix (ix_listK K) (pv 0) pe_int (fun _ _ => rfl)) pe_str (nomark _)) (pv 6) (pe_revL (pv 6)))))) pss_nil)
      (pss_cons (ps_set (i := 6) sc_l_deed_rows.nd rfl (Or.inl rfl) (C8.pe_c (ok_l_lower T) hr (by decide) rfl (pa_cons (pv 1) (pa_cons (pe_op op_add (pe_op op_add (pe_op op_fdiv (pe_callB (call_lenK K) (by rfl) T.m_len (by decide +kernel) (pa_cons (pv 1) pa_nil)) pe_int) pe_int) (pv 4)) (pa_cons (pv 5) pa_nil)))))
      (pss_one (ps_ret (pe_ifExp (pt_cmpR (op_eq) (pe_ix (ix_listK K) (pv 0) pe_int (fun _ _ => rfl)) pe_str (nomark _)) (pv 6) (pe_revL (pv 6)))))))), ?_⟩
  refine ⟨_, rfl, _, _, rfl, hp, rfl, _, _, rfl, _, _, rfl, _, _, rfl, rfl, ?_⟩
  obtain ⟨up, page, l⟩ := d
  obtain ⟨ra, la, fr, fl, io, me⟩ := p
  dsimp only at p1 p2 l1 l2
  cases up with
  | true =>
    refine ⟨_, rfl, rfl, true, rfl, iteT ?_⟩
    refine ⟨_, rfl, _, rfl, _, rfl, t, page, l, n, c, ts, rfl, ht, tw, p1, p2, fun r xs H1 e1 hr0 hr hw => ?_⟩
    refine ⟨_, rfl, _, _, _, _, rfl, rfl, e1.sqL ha, (show atI _ (0 : Int) = some (side ra) from rfl), ?_⟩
    cases ra with
    | true => exact ⟨rfl, true, rfl, iteT ⟨_, rfl, q r xs H1 e1 hr0 hr hw⟩⟩
    | false => exact ⟨rfl, false, rfl, iteF ⟨_, rfl, _, _, rfl, sqL_at hr, fun r2 hr2 => q r2 _ _ (e1.up (e1.free hr2)) (e1.free hr2) upd_same ((same_up hr2).wrs (Paired.rev hw))⟩⟩
  | false =>
    refine ⟨_, rfl, rfl, false, rfl, iteF ?_⟩
    have hv : (((iV ts).length : Int) / 2 + 1 + page) = n + page := by rw [iV_len]; omega
    refine ⟨_, rfl, _, rfl, _, _, rfl, .inl ⟨_, ht, rfl⟩, _, _, rfl, rfl, ⟨by decide, by decide⟩, _, _, rfl, rfl, _, rfl, _, _, rfl, rfl, _, rfl, t, n + page, l, n, c, ts, ?_, ht, tw, by omega, by omega, l1, l2, fun r xs H1 e1 hr0 hr hw => ?_⟩
    · rw [← hv] <;> rfl
    refine ⟨_, rfl, _, _, _, _, rfl, rfl, e1.sqL ha, (show atI _ (1 : Int) = some (side la) from rfl), ?_⟩
    cases la with
    | false => exact ⟨rfl, true, rfl, iteT ⟨_, rfl, q r xs H1 e1 hr0 hr hw⟩⟩
    | true => exact ⟨rfl, false, rfl, iteF ⟨_, rfl, _, _, rfl, sqL_at hr, fun r2 hr2 => q r2 _ _ (e1.up (e1.free hr2)) (e1.free hr2) upd_same ((same_up hr2).wrs (Paired.rev hw))⟩⟩
def spLNow (K : PySem.W.Frag) : Sp := fun vs H Q _ => ∃ d n c D, vs = [.ref d] ∧ LDiskAt K H d D ∧ DOk n c D ∧ ∀ r H', Same H H' → H r = none → H' r = some (.lst (iV D.now)) → Q (.ref r) H'
theorem DOk.le {n c : Int} {D : Dk} (h : DOk n c D) : ∀ w ∈ D.row, 1 ≤ w.1 ∧ w.1 ≤ D.base.length := fun w hw => by
  obtain ⟨h1, h2, _⟩ := h.row w hw
  have := h.tw.len
  exact ⟨h1, by omega⟩
theorem ok_l_now (T : Txt K mg) : C8.Cal P w K mg base 2 "_law_now" (spLNow K) [] := by
  refine mkcal T.f_l_now sc_l_now (fun vs H Q E h => ?_) (fun _ _ _ _ _ _ us hl => match us, hl with | [_], _ => rfl) (fun f cdv A outer s H vs Q E hr h => ?_)
  · obtain ⟨d, n, c, D, rfl, ⟨b, s, xs, hd, hb, hs, hw⟩, ok, q⟩ := h
    rfl
  obtain ⟨d, n, c, D, rfl, ⟨b, s, xs, hd, hb, hs, hw⟩, ok, q⟩ := h
  refine ⟨_, (pss_one (ps_ret (C8.pe_c (ok_l_write T) hr (by decide) rfl (pa_cons (pe_ix (ix_listK K) (pv 0) pe_int (fun _ _ => rfl)) (pa_cons (pe_ix (ix_listK K) (pv 0) pe_int (fun _ _ => rfl)) pa_nil))))), ?_⟩
  exact ⟨_, rfl, _, _, _, _, rfl, rfl, sqL_at hd, (show atI _ (0 : Int) = some (.ref b) from rfl), _, rfl, _, _, _, _, rfl, rfl, sqL_at hd, (show atI _ (1 : Int) = some (.ref s) from rfl), b, s, D.base, D.row, rfl, .inl (sqL_at hb), ⟨xs, sqL_at hs, hw⟩, ok.le, q⟩
def spLAfter (K : PySem.W.Frag) : Sp := fun vs H Q _ => ∃ a d r u last p n c D ws z zl, vs = [.ref a, .ref d, .ref r, wordV u, .bl last] ∧ SqL K H a (parV p) ∧ H z = some (.lst zl) ∧ LDiskAt K (off H z) d D ∧ DOk n c D ∧ RowL K H r ws ∧ (∀ w ∈ ws, WOk n c w) ∧ D.row.length + ws.length ≤ 100000 ∧
  ∀ d' H', Same H H' → H d' = none → LDiskAt K (off H' z) d' (aftI (if u then p.fr else p.fl) last ws.length D 0 ws) → Q (.ref d') H'
theorem ok_l_after (T : Txt K mg) : C8.Cal P w K mg base 2 "_law_after" (spLAfter K) [] := by
  refine mkcal T.f_l_after sc_l_after (fun vs H Q E h => ?_) (fun _ _ _ _ _ _ us hl => match us, hl with | [_, _, _, _, _], _ => rfl) (fun f cdv A outer s H vs Q E hr h => ?_)
  · obtain ⟨a, d, r, u, last, p, n, c, D, ws, z, zl, rfl, ha, hz, ⟨b, s, xs, hd, hb, hs, hw⟩, ok, ⟨ys, hr1, hr2⟩, wok, hsz, q⟩ := h
    rfl
  obtain ⟨a, d, r, u, last, p, n, c, D, ws, z, zl, rfl, ha, hz, ⟨b, s, xs, hd, hb, hs, hw⟩, ok, ⟨ys, hr1, hr2⟩, wok, hsz, q⟩ := h
  have hlen : ys.length = ws.length := Paired.length hr2
  have hbn := ok.tw.npos
  refine ⟨_, (pss_cons (ps_asg (pv 1) (pg_unl (n := 2) rfl (pgs_cons (pg_name (i := 5) sc_l_after.nd rfl (Or.inl rfl)) (pgs_cons (pg_name (i := 6) sc_l_after.nd rfl (Or.inl rfl)) pgs_nil))))
      (pss_cons (ps_for PassesOwn.never rfl (pi_enum (by rfl) T.m_enumerate (pa_cons (pv 2) pa_nil)) (pg_tupK K (n := 2) rfl (pgs_cons (pg_name (i := 7) sc_l_after.nd rfl (Or.inl rfl)) (pgs_cons (pg_name (i := 8) sc_l_after.nd rfl (Or.inl rfl)) pgs_nil))) (pss_cons (ps_set (i := 6) sc_l_after.nd rfl (Or.inl rfl) (pe_op op_cat (pv 6) (pe_lst (pa_cons (pv 8) pa_nil))))
      (pss_one (ps_if (PW.pt (pw_and (pt_val (pe_ix (ix_listK K) (pv 0) (pe_ifExp (pt_cmpR (op_eq) (pv 3) pe_str (nomark _)) pe_int pe_int) (fun _ _ => rfl))) (pw_and1 (PW.pt (pw_or (pt_val (pv 4)) (pw_or1 (pt_cmpR (op_lt) (pv 7) (pe_op op_sub (pe_callB (call_lenK K) (by rfl) T.m_len (by decide +kernel) (pa_cons (pv 2) pa_nil)) pe_int) (nomark _)))))))) (pss_one (ps_par (i := 5) (j := 6) (by rfl) sc_l_after.nd rfl rfl (by decide) rfl rfl (pa_cons (C8.pe_c (ok_l_write T) hr (by decide) rfl (pa_cons (pv 5) (pa_cons (pv 6) pa_nil))) (pa_cons (pe_lst pa_nil) pa_nil)) (by rfl))) pss_nil))))
      (pss_one (ps_ret (pe_lst (pa_cons (pv 5) (pa_cons (pv 6) pa_nil))))))), ?_⟩
  refine ⟨_, rfl, _, _, rfl, sqL_at (off_same _ _ hd), rfl, _, _, rfl, _, _, rfl, rfl, ?_⟩
  refine ⟨_, rfl, r, ys, rfl, hr1, ?_⟩
  refine forWk (Wk.enum hr1) (fun i σ H' => ∃ b' s' xs' Dc z7 z8, σ = [some (.ref a), some (.ref d), some (.ref r), some (wordV u), some (.bl last), some (.ref b'), some (.ref s'), z7, z8] ∧ off H' z b' = some (.lst (iV Dc.base)) ∧ off H' z s' = some (.lst xs') ∧ WrsAt K (off H' z) xs' Dc.row ∧ DOk n c Dc ∧ Dc.row.length ≤ D.row.length + i ∧ aftI (if u then p.fr else p.fl) last ws.length Dc i (ws.drop i) = aftI (if u then p.fr else p.fl) last ws.length D 0 ws ∧ Same H H') ⟨b, s, xs, D, none, none, rfl, hb, hs, hw, ok, Nat.le_refl _, rfl, Same.refl _⟩ (fun i σ H' ⟨_, _, _, _, _, _, _, _, _, _, _, _, _, h⟩ => h) ?_ ?_
  · rintro i x σ H1 H2 hi ⟨b', s', xs', Dc, z7, z8, rfl, h1, h2, h3, h4, h5, h6, h7⟩ e12 ⟨tt, v, rfl, htt, hv⟩
    obtain ⟨wr, hw1, pw, rfl, hpw⟩ := Paired.at hr2 hv
    have hwr := wok wr (List.mem_of_getElem? hw1)
    have e02 := h7.trans e12
    have hil : i < ws.length := by omega
    have hdrop : ws.drop i = wr :: ws.drop (i + 1) := by
      rw [List.drop_eq_getElem_cons hil]
      rw [List.getElem?_eq_getElem hil] at hw1
      rw [Option.some.inj hw1]
    refine ⟨_, _, rfl, sqT_at htt, rfl, _, _, rfl, _, _, rfl, rfl, ?_⟩
    have hz2 := e02 _ _ hz
    have h2' := e12 _ _ (off_same _ _ h2)
    have h1' := e12 _ _ (off_same _ _ h1)
    have hxl : xs'.length = Dc.row.length := Paired.length h3
    refine ⟨_, rfl, _, rfl, le_small (Nat.le_of_ble_eq_true rfl), fun l1 hl1 => ?_⟩
    have e3 := same_up (o := .lst [.ref pw]) hl1
    refine ⟨s', l1, _, _, rfl, rfl, e3 _ _ h2', upd_same, ?_, fun s2 hs2 => ?_⟩
    · rw [sizeLine_eq]
      show _ + 1 ≤ _
      omega
    have e4 := e3.up (o := .lst (xs' ++ [.ref pw])) (e3.free hs2)
    have hs2n : H2 s2 = none := e3.free hs2
    have hsv := upd_same (H := upd H2 l1 (.lst [.ref pw])) (a := s2) (o := .lst (xs' ++ [.ref pw]))
    generalize upd (upd H2 l1 (.lst [.ref pw])) s2 (.lst (xs' ++ [.ref pw])) = H4 at e4 hsv ⊢
    have e04 := e02.trans e4
    have hso : off H4 z s2 = some (.lst (xs' ++ [.ref pw])) := off_lst hz2 hs2n hsv
    have hbo : off H4 z b' = some (.lst (iV Dc.base)) := off_mono (e12.trans e4) _ _ h1
    have hwo : WrsAt K (off H4 z) (xs' ++ [.ref pw]) (Dc.row ++ [wr]) := Paired.snoc ((off_mono (e12.trans e4)).wrs h3) (wr_off (e04 _ _ hz) ⟨pw, rfl, e04.sqT hpw⟩)
    have hrl : (Dc.row ++ [wr]).length ≤ D.row.length + (i + 1) := by
      rw [List.length_append]
      show _ + 1 ≤ _
      omega
    generalize hf : (if u then p.fr else p.fl) = f at h6 q ⊢
    obtain ⟨Nx, hNx⟩ : ∃ Nx : L2.St → Hp → Prop, Nx = fun σ H' => ∃ b' s' xs' Dc z7 z8, σ = [some (V.ref a), some (.ref d), some (.ref r), some (wordV u), some (.bl last), some (.ref b'), some (.ref s'), z7, z8] ∧ off H' z b' = some (.lst (iV Dc.base)) ∧ off H' z s' = some (.lst xs') ∧ WrsAt K (off H' z) xs' Dc.row ∧ DOk n c Dc ∧ Dc.row.length ≤ D.row.length + (i + 1) ∧ aftI f last ws.length Dc (i + 1) (ws.drop (i + 1)) = aftI f last ws.length D 0 ws ∧ Same H H' := ⟨_, rfl⟩
    obtain ⟨σ9, hσ9⟩ : ∃ σ9 : L2.St, σ9 = [some (V.ref a), some (.ref d), some (.ref r), some (wordV u), some (.bl last), some (.ref b'), some (.ref s2), some (.int (i : Nat)), some (.ref pw)] := ⟨_, rfl⟩
    have hnoflush : aft1 (f && (last || decide ((i : Int) < (ws.length : Int) - 1))) Dc wr = add1 Dc wr → Nx σ9 H4 := by
      intro he
      rw [hNx, hσ9]
      refine ⟨b', s2, _, add1 Dc wr, _, _, rfl, hbo, hso, hwo, h4.aft1 (f := false) hwr, hrl, ?_, e04⟩
      rw [← h6, hdrop, aftI, he]
    have hflush : aft1 (f && (last || decide ((i : Int) < (ws.length : Int) - 1))) Dc wr = ⟨puts Dc.base (Dc.row ++ [wr]), []⟩ → ∀ Dn : Ends, Dn.nx = Nx → tPar 5 6 (tCons (tCall (spLWrite K) [] C8.E0 (tCons (tVar 5) (tCons (tVar 6) tNil))) (tCons (tLst tNil) tNil)) Dn σ9 H4 := by
      intro he Dn hDn
      rw [hσ9]
      have hdo := h4.aft1 (f := false) hwr
      refine ⟨_, rfl, _, rfl, b', s2, Dc.base, Dc.row ++ [wr], rfl, .inl (sqL_at (off_same _ _ hbo)), ⟨_, sqL_at hsv, off_same.wrs hwo⟩, hdo.le, fun b3 H5 e5 hb0 hb3 => ?_⟩
      refine ⟨le_small (Nat.le_of_ble_eq_true rfl), fun s3 hs3 => ⟨_, _, rfl, ?_⟩⟩
      rw [hDn, hNx]
      refine ⟨b3, s3, [], ⟨puts Dc.base (Dc.row ++ [wr]), []⟩, _, _, rfl, ?_, ?_, .nil, h4.aft1 (f := true) hwr, Nat.zero_le _, ?_, (e04.trans e5).up ((e04.trans e5).free hs3)⟩
      · exact off_lst (e04 _ _ hz) hb0 (same_up hs3 _ _ hb3)
      · exact off_lst (e04 _ _ hz) (e5.free hs3) upd_same
      · rw [← h6, hdrop, aftI, he]
    clear hw1 hdrop
    have fin : ∀ Dn : Ends, Dn.nx = Nx → ∀ b3 : Bool, b3 = f → if b3 = true then tOr (tB (tVar 4)) (tTest (tOp (rI0 fun i j => V.bl (decide (i < j))) (tVar 7) (tOp (rI0 fun i j => V.int (i - j)) (tCB (fun xs H Q => ∃ x n, xs = [x] ∧ LenV K x H n ∧ Q (.int n) H) (tCons (tVar 2) tNil)) (tC (.int 1))))) σ9 H4 (fun b H1 => if b = true then tPar 5 6 (tCons (tCall (spLWrite K) [] C8.E0 (tCons (tVar 5) (tCons (tVar 6) tNil))) (tCons (tLst tNil) tNil)) Dn σ9 H1 else Dn.nx σ9 H1) else Dn.nx σ9 H4 := by
      intro Dn hDn b3 hb3
      subst hb3
      rw [hDn]
      cases b3 with
      | false => exact iteF (hnoflush rfl)
      | true =>
        refine iteT ?_
        rw [hσ9]
        rw [hσ9] at hflush hnoflush
        cases last with
        | true => exact ⟨_, rfl, true, rfl, iteT (iteT (hflush rfl Dn hDn))⟩
        | false =>
          refine ⟨_, rfl, false, rfl, iteF ⟨_, rfl, _, rfl, _, _, rfl, .inl ⟨_, e04.sqL hr1, rfl⟩, _, _, rfl, rfl, _, _, rfl, rfl, _, rfl, ?_⟩⟩
          rw [hlen]
          by_cases hlt : (i : Int) < (ws.length : Int) - 1
          · rw [decide_eq_true hlt]
            exact iteT (hflush (by rw [decide_eq_true hlt] <;> rfl) Dn hDn)
          · rw [decide_eq_false hlt]
            exact iteF (hnoflush (by rw [decide_eq_false hlt] <;> rfl))
    rw [hσ9] at fin
    rw [hNx] at fin
    cases u with
    | true => exact ⟨_, rfl, _, rfl, rfl, true, rfl, iteT ⟨_, _, _, _, rfl, rfl, e04.sqL ha, (show atI (parV p) (2 : Int) = some (.bl p.fr) from rfl), p.fr, rfl, fin _ rfl p.fr hf⟩⟩
    | false => exact ⟨_, rfl, _, rfl, rfl, false, rfl, iteF ⟨_, _, _, _, rfl, rfl, e04.sqL ha, (show atI (parV p) (3 : Int) = some (.bl p.fl) from rfl), p.fl, rfl, fin _ rfl p.fl hf⟩⟩
  · rintro σ H1 ⟨b', s', xs', Dc, z7, z8, rfl, h1, h2, h3, h4, h5, h6, h7⟩
    rw [hlen, List.drop_length] at h6
    refine ⟨_, rfl, _, rfl, le_small (Nat.le_of_ble_eq_true rfl), fun l hl => q l _ (h7.up (h7.free hl)) (h7.free hl) ?_⟩
    rw [← h6]
    have e1 := off_mono (D := z) (same_up (o := .lst [.ref b', .ref s']) hl)
    exact ⟨b', s', xs', off_lst (h7 _ _ hz) hl upd_same, e1 _ _ h1, e1 _ _ h2, e1.wrs h3⟩
end


end
/-! part P20 -/
section
/-! ### the walk: the law's crashes and steps -/
def partD : Part → PyData
  | .flush => .tuple [.str "flush"]
  | .crash t => .tuple [.str "crash", .tuple (t.map PyData.int)]
  | .deed d => .tuple [.str (if d.up then "raise" else "lower"), .int d.page, .int d.lv]
  | .cut d k t => .tuple [.str "cut", .tuple [.str (if d.up then "raise" else "lower"), .int d.page, .int d.lv], .int k, .tuple (t.map PyData.int)]
theorem word_dp {K : PySem.W.Frag} {H : Hp} (u : Bool) : Dp K H (wordV u) (.str (if u then "raise" else "lower")) := by
  cases u
  · exact .str _
  · exact .str _
theorem deed_dp {K : PySem.W.Frag} {H : Hp} {x : V} {d : Deed} (h : DeedAt K H x d) : Dp K H x (.tuple [.str (if d.up then "raise" else "lower"), .int d.page, .int d.lv]) := by
  obtain ⟨p, rfl, hp⟩ := h
  exact .tup hp (.cons (word_dp _) (.cons (.int _) (.cons (.int _) .nil)))
theorem tup_dp {K : PySem.W.Frag} {H : Hp} {x : V} {t : List Int} (h : TupI K H x t) : Dp K H x (.tuple (t.map PyData.int)) := by
  obtain ⟨p, rfl, hp⟩ := h
  exact .tup hp (ints_dp t)
theorem part_dp {K : PySem.W.Frag} {H : Hp} {x : V} : ∀ {g : Part}, PartAt K H x g → Dp K H x (partD g)
  | .flush, ⟨p, h1, h2⟩ => by
    subst h1
    exact .tup h2 (.cons (.str _) .nil)
  | .crash t, ⟨p, y, h1, h2, h3⟩ => by
    subst h1
    exact .tup h2 (.cons (.str _) (.cons (tup_dp h3) .nil))
  | .deed d, h => deed_dp h
  | .cut d k t, ⟨p, y, z, h1, h2, h3, h4⟩ => by
    subst h1
    exact .tup h2 (.cons (.str _) (.cons (deed_dp h3) (.cons (.int _) (.cons (tup_dp h4) .nil))))
theorem shaped_of {d : PyData} (h1 : d.canLay0 = true) (h2 : d.depth ≤ 64) : SeqAt.shaped d = true := by
  show (d.canLay0 && decide (d.depth ≤ 64)) = true
  rw [Bool.and_eq_true]
  exact ⟨h1, decide_eq_true h2⟩
theorem ok_flush : PyData.strOk (Str.ofString "flush") = true := by decide +kernel
theorem ok_crash : PyData.strOk (Str.ofString "crash") = true := by decide +kernel
theorem ok_cut : PyData.strOk (Str.ofString "cut") = true := by decide +kernel
theorem ok_word (u : Bool) : PyData.strOk (if u then Str.ofString "raise" else Str.ofString "lower") = true := by
  cases u
  · show PyData.strOk (Str.ofString "lower") = true
    decide +kernel
  · show PyData.strOk (Str.ofString "raise") = true
    decide +kernel
theorem part_shaped (g : Part) : SeqAt.shaped (partD g) = true := by
  cases g with
  | flush => exact shaped_of (by simp [partD, PyData.canLay0, PyData.canLayAll0, ok_flush]) (by simp only [partD, PyData.depth, PyData.depthAll]; omega)
  | crash t =>
    have h := dep_ints t
    exact shaped_of (by simp [partD, PyData.canLay0, PyData.canLayAll0, lay_ints, ok_crash]) (by simp only [partD, PyData.depth, PyData.depthAll]; omega)
  | deed d => exact shaped_of (by simp only [partD, PyData.canLay0, PyData.canLayAll0, ok_word, Bool.and_true, Bool.and_self]) (by simp only [partD, PyData.depth, PyData.depthAll]; omega)
  | cut d k t =>
    have h := dep_ints t
    exact shaped_of (by simp only [partD, PyData.canLay0, PyData.canLayAll0, lay_ints, ok_cut, ok_word, Bool.and_true, Bool.and_self]) (by simp only [partD, PyData.depth, PyData.depthAll]; omega)
theorem str_eqv (a b : Str) : PyData.eqv (.str a) (.str b) = (a == b) := by simp [PyData.eqv]
theorem part_eqv (g : Part) : PyData.eqv (partD g) (.tuple [.str "flush"]) = (match g with
  | .flush => true
  | _ => false) := by
  cases g with
  | flush => decide +kernel
  | crash t =>
    have h : (("crash" : Str) == ("flush" : Str)) = false := by decide +kernel
    simp only [partD, PyData.eqv, PyData.eqvAll, h, Bool.false_and]
  | deed d =>
    simp [partD, PyData.eqv, PyData.eqvAll]
  | cut d k t =>
    have h : (("cut" : Str) == ("flush" : Str)) = false := by decide +kernel
    simp only [partD, PyData.eqv, PyData.eqvAll, h, Bool.false_and]
theorem afts_ok {n c : Int} {f : Bool} : ∀ {ws : List Wr} {D : Dk}, DOk n c D → (∀ w ∈ ws, WOk n c w) → DOk n c (afts f D ws)
  | [], _, h, _ => h
  | w :: ws, D, h, hw => afts_ok (ws := ws) (h.aft1 (hw w (List.mem_cons_self ..))) fun u hu => hw u (List.mem_cons_of_mem _ hu)
theorem cutAt_ok {n c : Int} {f : Bool} {D : Dk} {ws : List Wr} {k : Int} (h : DOk n c D) (hw : ∀ w ∈ ws, WOk n c w) : DOk n c (cutAt f D ws k) := by
  unfold cutAt
  cases e : ws[(k - 1).toNat]? with
  | none => exact h
  | some w => exact (afts_ok h fun u hu => hw u (List.mem_of_mem_take hu)).aft1 (f := false) (hw w (List.mem_of_getElem? e))
theorem cutAt_len {f : Bool} {D : Dk} {ws : List Wr} {k : Int} : (cutAt f D ws k).row.length ≤ D.row.length + ws.length + 1 := by
  unfold cutAt
  cases e : ws[(k - 1).toNat]? with
  | none => show D.row.length ≤ _; omega
  | some w =>
    have h := afts_len (f := f) (ws := ws.take (k - 1).toNat) (D := D)
    rw [List.length_take] at h
    show ((afts f D (ws.take (k - 1).toNat)).row ++ [w]).length ≤ _
    rw [List.length_append]
    show _ + 1 ≤ _
    omega
theorem dpall_of {K : PySem.W.Frag} {H : Hp} : ∀ (acc : List V) (f : Nat → List Int), (∀ (j : Nat) (x : V), acc[j]? = some x → ∃ r, x = .ref r ∧ SqL K H r (iV (f j))) → DpAll K H acc ((List.range acc.length).map fun j => PyData.list ((f j).map PyData.int))
  | [], f, _ => .nil
  | x :: acc, f, h => by
    rw [List.length_cons, List.range_succ_eq_map, List.map_cons, List.map_map]
    obtain ⟨r, hx, hr⟩ := h 0 x rfl
    subst hx
    exact .cons (.lst hr (ints_dp _)) (dpall_of acc (fun j => f (j + 1)) fun j y hy => h (j + 1) y (by simpa using hy))
theorem lay_lists {α : Type} (f : α → List Int) : ∀ l : List α, PyData.canLayAll0 (l.map fun j => PyData.list ((f j).map PyData.int)) = true
  | [] => by simp [PyData.canLayAll0]
  | a :: r => by simp [PyData.canLayAll0, PyData.canLay0, lay_ints, lay_lists f r]
theorem dep_lists {α : Type} (f : α → List Int) : ∀ l : List α, PyData.depthAll (l.map fun j => PyData.list ((f j).map PyData.int)) ≤ 2
  | [] => by simp [PyData.depthAll]
  | a :: r => by
    have h1 := dep_ints (f a)
    have h2 := dep_lists f r
    simp only [List.map_cons, PyData.depthAll, PyData.depth]
    omega
section
variable {P : Program} {w : World} {K : PySem.W.Frag} {mg : Str → Option Value} {base : Heap}
def spLClassRow (K : PySem.W.Frag) : Sp := fun vs H Q _ => ∃ x c m t, vs = [x, .int c, .int m] ∧ TupI K H x t ∧ (t.length : Int) = m ∧ t.length ≤ 100 ∧ (∀ y ∈ t, 0 ≤ y ∧ y ≤ c) ∧ ∀ H', Same H H' → Q (.bl true) H'
theorem ok_l_is_class_row (T : Txt K mg) : C8.Cal P w K mg base 1 "_law_is_class_row" (spLClassRow K) [] := by
  refine mkcal T.f_l_is_class_row sc_l_is_class_row (fun vs H Q E h => ?_) (fun _ _ _ _ _ _ us hl => match us, hl with | [_, _, _], _ => rfl) (fun f cdv A outer s H vs Q E hr h => ?_)
  · obtain ⟨x, c, m, t, rfl, ⟨p, rfl, hp⟩, hm, hz, hb, q⟩ := h
    rfl
  obtain ⟨x, c, m, t, rfl, ⟨p, rfl, hp⟩, hm, hz, hb, q⟩ := h
  refine ⟨_, (pss_cons (ps_if (PW.pt (pw_or (pt_not (pt_val (pe_callB (call_isiK K) (by rfl) T.m_isinstance (by decide +kernel) (pa_cons (pv 0) (pa_cons (pe_bltn (v := .ty "tuple") (by rfl) T.m_tuple (by decide +kernel) rfl) pa_nil))))) (pw_or1 (pt_cmpR (op_ne) (pe_callB (call_lenK K) (by rfl) T.m_len (by decide +kernel) (pa_cons (pv 0) pa_nil)) (pv 2) (nomark _))))) (pss_one (ps_ret pe_bl)) pss_nil)
      (pss_one (ps_ret (pe_cmpR (op_eqD hr.units) (pe_lc (own := [("_law_one", 3)]) (by rfl) sc_l_is_class_row.nd (pi_tup (pv 0)) (blkOk_by (own := [("_law_one", 3)]) (N := n_l_is_class_row) (sc := defScope s_l_is_class_row) (by decide +kernel)) (fun _ _ _ _ _ => (pg_name (i := 3) sc_l_is_class_row.nd rfl (Or.inl rfl))) (fun _ _ _ _ _ => pts_one (pt_not (pt_chain op_le op_le pe_int (pv 3) (pv 1)))) (fun _ _ _ _ _ => (pv 3))) (pe_lst pa_nil) (nomark _))))), ?_⟩
  refine ⟨_, rfl, _, _, _, _, true, rfl, .ty _, ty_tup hp, kit_ty (by decide +kernel), true, rfl, iteF ?_⟩
  refine ⟨_, rfl, _, _, rfl, .inr ⟨_, hp, rfl⟩, _, rfl, rfl, false, ?_, iteF ?_⟩
  · refine congrArg V.bl ?_
    rw [iV_len, hm, decide_eq_true rfl] <;> rfl
  refine ⟨_, rfl, p, rfl, ⟨_, hp⟩, fun D hD => ?_⟩
  refine lcF hD (Wk.tup hp) t (fun _ => V.non) (fun _ => false) iV_len (small_of (by rw [iV_len]; omega)) (fun i u x H1 h1 e y Nt Nf ht hf => ?_) (fun H1 e h1 => ?_)
  · rw [List.getElem?_map, h1] at y
    obtain rfl : x = .int u := (Option.some.inj y).symm
    obtain ⟨b1, b2⟩ := hb u (List.mem_of_getElem? h1)
    refine ⟨rfl, _, rfl, _, _, rfl, rfl, _, rfl, ?_⟩
    rw [decide_eq_true b1]
    refine iteT ⟨_, rfl, _, _, rfl, rfl, _, rfl, ?_⟩
    rw [decide_eq_true b2]
    exact iteF (hf _ (Same.refl _) rfl)
  · have h2 : (t.filter fun _ => false) = [] := List.filter_eq_nil_iff.mpr fun _ _ => Bool.false_ne_true
    rw [h2] at h1
    refine ⟨le_small (Nat.le_of_ble_eq_true rfl), fun p6 hp6 => ⟨.list [], .list [], .lst ((same_up hp6).sqL (sqL_at h1)) .nil, .lst (sqL_at upd_same) .nil, by decide +kernel, by decide +kernel, ?_⟩⟩
    have hev : PyData.eqv (.list []) (.list []) = true := by decide +kernel
    rw [hev]
    exact q _ (e.up (e.free hp6))
def spLCanHave (K : PySem.W.Frag) : Sp := fun vs H Q _ => ∃ io d x n c D t, vs = [ordV io, .ref d, x] ∧ LDiskAt K H d D ∧ TupI K H x t ∧ t.length = D.base.length ∧ DOk n c D ∧ D.row.length ≤ 100000 ∧ Can io D t ∧ ∀ H', Same H H' → Q (.bl true) H'
theorem ok_l_can_have (T : Txt K mg) : C8.Cal P w K mg base 2 "_law_can_have" (spLCanHave K) [] := by
  refine mkcal T.f_l_can_have sc_l_can_have (fun vs H Q E h => ?_) (fun _ _ _ _ _ _ us hl => match us, hl with | [_, _, _], _ => rfl) (fun f cdv A outer s H vs Q E hr h => ?_)
  · obtain ⟨io, d, x, n, c, D, t, rfl, ⟨b, s, xs, hd, hb, hs, hw⟩, ⟨p, rfl, hp⟩, hl, ok, hz, hc, q⟩ := h
    rfl
  obtain ⟨io, d, x, n, c, D, t, rfl, ⟨b, s, xs, hd, hb, hs, hw⟩, ⟨p, rfl, hp⟩, hl, ok, hz, hc, q⟩ := h
  have hxl : xs.length = D.row.length := Paired.length hw
  have hbl := ok.tw.len
  have hn := ok.tw.npos
  refine ⟨_, (pss_cons (ps_asg (pv 1) (pg_unl (n := 2) rfl (pgs_cons (pg_name (i := 3) sc_l_can_have.nd rfl (Or.inr rfl)) (pgs_cons (pg_name (i := 4) sc_l_can_have.nd rfl (Or.inr rfl)) pgs_nil))))
      (pss_cons (ps_if (pt_cmpR (op_eq) (pv 0) pe_str (nomark _)) (pss_one (ps_ret (pe_cmpR (op_inD (Nat.lt_of_le_of_lt (Nat.add_le_add_left (by decide : 65 ≤ 216) _) hr.un)) (pe_callTy call_list_of (by rfl) T.m_list (by decide +kernel) (pa_cons (pv 2) pa_nil)) (pe_lc (own := [("_law_at", 6)]) (by rfl) sc_l_can_have.nd (pi_range1 rfl T.m_range (pa_cons (pe_op op_add (pe_callB (call_lenK K) (by rfl) T.m_len (by decide +kernel) (pa_cons (pv 4) pa_nil)) pe_int) pa_nil)) (blkOk_by (own := [("_law_at", 6)]) (N := n_l_can_have) (sc := defScope s_l_can_have) (by decide +kernel)) (fun _ _ _ _ _ => (pg_name (i := 6) sc_l_can_have.nd rfl (Or.inl rfl))) (fun _ _ _ _ _ => pts_nil) (fun _ _ _ _ _ => (C8.pe_c (ok_l_write T) hr (by decide) rfl (pa_cons (pv 3) (pa_cons (pe_slice (sl_listK K) (pv 4) po_none (po_some (pv 6))) pa_nil))))) (by rfl)))) pss_nil)
      (pss_cons (ps_for PassesOwn.never rfl (pi_range2 rfl T.m_range (pa_cons pe_int (pa_cons (pe_op op_add (pe_callB (call_lenK K) (by rfl) T.m_len (by decide +kernel) (pa_cons (pv 3) pa_nil)) pe_int) pa_nil))) (pg_name (i := 5) sc_l_can_have.nd rfl (Or.inr rfl)) (pss_one (ps_if (pt_cmpR (op_notIn_seq) (pe_ix (ix_tupK K) (pv 2) (pe_op op_sub (pv 5) pe_int) (fun _ _ => rfl)) (pe_op op_cat (pe_lst (pa_cons (pe_ix (ix_listK K) (pv 3) (pe_op op_sub (pv 5) pe_int) (fun _ _ => rfl)) pa_nil)) (pe_lc (own := [("_law_one", 7), ("_law_level", 8)]) (by rfl) sc_l_can_have.nd (pi_listK K (pv 4)) (blkOk_by (own := [("_law_one", 7), ("_law_level", 8)]) (N := n_l_can_have) (sc := defScope s_l_can_have) (by decide +kernel)) (fun _ _ _ _ _ => (pg_tupK K (n := 2) rfl (pgs_cons (pg_name (i := 7) sc_l_can_have.nd rfl (Or.inl rfl)) (pgs_cons (pg_name (i := 8) sc_l_can_have.nd rfl (Or.inl rfl)) pgs_nil)))) (fun _ _ _ _ _ => pts_one (pt_cmpR (op_eq) (pv 7) (pv 5) (nomark _))) (fun _ _ _ _ _ => (pv 8)))) (by rfl)) (pss_one (ps_ret pe_bl)) pss_nil)))
      (pss_one (ps_ret pe_bl))))), ?_⟩
  refine ⟨_, rfl, _, _, rfl, sqL_at hd, rfl, _, _, rfl, _, _, rfl, rfl, ?_⟩
  cases io with
  | true =>
    refine ⟨_, rfl, rfl, true, rfl, iteT ?_⟩
    refine ⟨_, rfl, p, _, rfl, .inr hp, fun l hl0 => ?_⟩
    have e1 := same_up (o := .lst (iV t)) hl0
    have hlt := upd_same (H := H) (a := l) (o := .lst (iV t))
    generalize upd H l (.lst (iV t)) = H1 at e1 hlt ⊢
    refine ⟨_, rfl, _, _, rfl, .inl ⟨_, sqL_at (e1 _ _ hs), rfl⟩, _, _, rfl, rfl, _, rfl, by omega, by omega, fun L hL => ?_⟩
    have hm : (((xs.length : Int) + 1).toNat) = D.row.length + 1 := by omega
    refine lcR hL Wk.rng (small_of (by omega)) (fun i acc H => acc.length = i ∧ ∀ (j : Nat) (x : V), acc[j]? = some x → ∃ r, x = .ref r ∧ SqL K H r (iV (puts D.base (D.row.take j)))) ⟨rfl, fun j x h => by simp at h⟩ (fun i acc H H' e h => ⟨h.1, fun j x hx => by
      obtain ⟨r, h1, h2⟩ := h.2 j x hx
      exact ⟨r, h1, e.sqL h2⟩⟩) (fun i x H2 acc hi e hacc hlen y hR Nt ht => ?_) (fun H2 acc e hacc hR => ?_)
    · subst y
      have e02 := e1.trans e
      have hi2 : i ≤ D.row.length := by omega
      refine ⟨rfl, _, rfl, _, rfl, _, rfl, _, rfl, _, _, rfl, sqL_at (e02 _ _ hs), fun sl hsl => ?_⟩
      have hcut : cutV xs none (some (0 + (i : Int))) = xs.take i := by
        rw [Int.zero_add, cutV, HT.sIx_nat, HT.sIx_none, List.drop_zero, Nat.sub_zero, Nat.min_eq_left (by omega)]
      have e3 := same_up (o := .lst (cutV xs none (some (0 + (i : Int))))) hsl
      have hsl2 := upd_same (H := H2) (a := sl) (o := .lst (cutV xs none (some (0 + (i : Int)))))
      generalize upd H2 sl (.lst (cutV xs none (some (0 + (i : Int))))) = H3 at e3 hsl2 ⊢
      rw [hcut] at hsl2
      have e03 := e02.trans e3
      refine ⟨b, sl, D.base, D.row.take i, rfl, .inl (sqL_at (e03 _ _ hb)), ⟨_, sqL_at hsl2, e03.wrs (Paired.take' i hw)⟩, fun w' hw' => ok.le w' (List.mem_of_mem_take hw'), fun r H4 e4 hr0 hr => ht _ _ (e3.trans e4) ?_⟩
      have e34 : Same (off H2 L) (off H4 L) := off_mono (e3.trans e4)
      refine ⟨by rw [List.length_append, hR.1] <;> rfl, fun j x hx => ?_⟩
      by_cases hj : j < acc.length
      · rw [List.getElem?_append_left hj] at hx
        obtain ⟨r', h1, h2⟩ := hR.2 j x hx
        exact ⟨r', h1, e34.sqL h2⟩
      · rw [List.getElem?_append_right (by omega)] at hx
        have h1 : j - acc.length = 0 := by
          have := (List.getElem?_eq_some_iff.mp hx).1
          simp at this
          omega
        rw [h1] at hx
        have h2 : j = i := by
          have := hR.1
          omega
        subst h2
        have hne : r ≠ L := (ne_of_none (e3 _ _ hacc) hr0).symm
        exact ⟨r, (Option.some.inj hx).symm, sqL_at ((off_ne hne).trans hr)⟩
    · obtain ⟨hR1, hR2⟩ := hR
      have hds := dpall_of (K := K) (H := H2) acc (fun j => puts D.base (D.row.take j)) fun j x hx => by
        obtain ⟨r, h1, h2⟩ := hR2 j x hx
        exact ⟨r, h1, off_same.sqL h2⟩
      obtain ⟨i, hi, rfl⟩ := hc
      have hdl := dep_lists (fun j => puts D.base (D.row.take j)) (List.range acc.length)
      refine ⟨.list ((puts D.base (D.row.take i)).map PyData.int), _, .lst (sqL_at (e _ _ hlt)) (ints_dp _), .lst (sqL_at hacc) hds, shaped_of (by simp [PyData.canLay0, lay_ints]) (by have := dep_ints (puts D.base (D.row.take i)); simp only [PyData.depth]; omega), shaped_of (by simp only [PyData.canLay0]; exact lay_lists _ _) (by simp only [PyData.depth]; omega), ?_⟩
      have hany : (((List.range acc.length).map fun j => PyData.list ((puts D.base (D.row.take j)).map PyData.int)).any fun z => PyData.eqv z (.list ((puts D.base (D.row.take i)).map PyData.int))) = true := by
        rw [List.any_eq_true]
        refine ⟨_, List.mem_map_of_mem (List.mem_range.mpr (show i < acc.length by omega)), ?_⟩
        simp only [PyData.eqv]
        rw [eqvAll_ints]
        exact decide_eq_true rfl
      rw [hany]
      exact q _ (e1.trans e)
  | false =>
    refine ⟨_, rfl, rfl, false, rfl, iteF ?_⟩
    refine ⟨_, rfl, _, _, rfl, .inl ⟨_, sqL_at hb, rfl⟩, _, _, rfl, rfl, _, _, rfl, ⟨by decide, by decide, by rw [iV_len]; omega, by rw [iV_len]; omega⟩, ?_⟩
    have hm : (((iV D.base).length : Int) + 1 - 1).toNat = D.base.length := by rw [iV_len]; omega
    rw [hm]
    refine for_range (fun i σ H' => ∃ z5, σ = [some (.str "anyhow"), some (.ref d), some (.ref p), some (.ref b), some (.ref s), z5, none, none, none] ∧ Same H H') ⟨none, rfl, Same.refl _⟩ ?_ ?_
    · rintro i σ H1 hi ⟨z5, rfl, e1⟩
      have v1 : (1 : Int) ≤ 1 + (i : Int) := by omega
      have v2 : 1 + (i : Int) ≤ D.base.length := by omega
      generalize (1 : Int) + (i : Int) = v at v1 v2
      refine ⟨_, rfl, _, rfl, _, _, rfl, rfl, _, _, _, _, rfl, rfl, e1.sqT hp, atI_int v1 (by omega), ?_⟩
      refine ⟨_, rfl, _, rfl, _, _, rfl, rfl, _, _, _, _, rfl, rfl, sqL_at (e1 _ _ hb), atI_int v1 v2, le_small (Nat.le_of_ble_eq_true rfl), fun l1 hl1 => ?_⟩
      have e2 := e1.up (o := .lst [.int (lvl D.base v)]) (e1.free hl1)
      have hl2 := upd_same (H := H1) (a := l1) (o := .lst [.int (lvl D.base v)])
      have e12 := same_up (o := .lst [.int (lvl D.base v)]) hl1
      generalize upd H1 l1 (.lst [.int (lvl D.base v)]) = H2 at e2 hl2 e12 ⊢
      refine ⟨_, rfl, s, rfl, ⟨_, sqL_at (e2 _ _ hs)⟩, fun L hL => ?_⟩
      refine lcF hL (Wk.list (sqL_at (e2 _ _ hs))) D.row (fun w => V.int w.2) (fun w => decide (w.1 = v)) hxl (small_of (by omega)) (fun k u x H3 h1 e y Nt Nf ht hf => ?_) (fun H3 e3 h1 => ?_)
      · obtain ⟨u', hu', pz, rfl, hpz⟩ := Paired.at hw y
        rw [h1] at hu'
        cases hu'
        refine ⟨_, _, rfl, (e2.trans e).sqT hpz, rfl, _, _, rfl, _, _, rfl, rfl, rfl, ?_⟩
        refine ⟨_, rfl, _, rfl, rfl, ?_⟩
        by_cases huv : u.1 = v
        · refine ⟨true, congrArg V.bl (decide_eq_true (congrArg V.int huv)), iteT ⟨_, rfl, ht _ (Same.refl _) (decide_eq_true huv)⟩⟩
        · refine ⟨false, congrArg V.bl (decide_eq_false fun z => huv ?_), iteF (hf _ (Same.refl _) (decide_eq_false huv))⟩
          injection z
      · have h2 : (D.row.filter fun w => decide (w.1 = v)).map (fun w => V.int w.2) = iV ((D.row.filter fun w => decide (w.1 = v)).map (·.2)) := (List.map_map ..).symm
        rw [h2] at h1
        refine ⟨l1, L, _, _, rfl, rfl, e3 _ _ hl2, h1, ?_, fun l4 hl4 => ?_⟩
        · have := List.length_filter_le (fun w : Wr => decide (w.1 = v)) D.row
          rw [iV_len, List.length_map, sizeLine_eq]
          show 1 + _ ≤ _
          omega
        have hcat : [V.int (lvl D.base v)] ++ iV ((D.row.filter fun w => decide (w.1 = v)).map (·.2)) = iV (lvl D.base v :: (D.row.filter fun w => decide (w.1 = v)).map (·.2)) := rfl
        refine ⟨_, _, rfl, .inl (sqL_at upd_same), rfl, by rw [hcat]; exact flat_iV _, ?_⟩
        have hin : inV (.int (lvl t v)) ([V.int (lvl D.base v)] ++ iV ((D.row.filter fun w => decide (w.1 = v)).map (·.2))) = true := by
          rw [hcat]
          refine inV_mem ?_
          rcases (show ∀ v : Int, 1 ≤ v → v ≤ D.base.length → lvl t v = lvl D.base v ∨ ∃ w ∈ D.row, w.1 = v ∧ lvl t v = w.2 from hc) v v1 v2 with h | ⟨u, hu1, hu2, hu3⟩
          · rw [h]; exact List.mem_cons_self ..
          · rw [hu3]
            exact List.mem_cons_of_mem _ (List.mem_map_of_mem (List.mem_filter.mpr ⟨hu1, decide_eq_true hu2⟩))
        rw [hin]
        refine ⟨false, rfl, iteF ⟨_, rfl, ?_⟩⟩
        exact (e2.trans e3).up ((e2.trans e3).free hl4)
    · rintro σ H1 ⟨z5, rfl, e1⟩
      exact q H1 e1
def spLCrashed (K : PySem.W.Frag) : Sp := fun vs H Q _ => ∃ a d x p n c D t z zl, vs = [.ref a, .int c, .ref d, x] ∧ SqL K H a (parV p) ∧ H z = some (.lst zl) ∧ LDiskAt K (off H z) d D ∧ DOk n c D ∧ D.row.length ≤ 100000 ∧ TupI K H x t ∧ TW n c t ∧ Can p.io D t ∧ ∀ d' H', Same H H' → H d' = none → LDiskAt K (off H' z) d' (left p n t) → Q (.ref d') H'
theorem ok_l_crashed (T : Txt K mg) : C8.Cal P w K mg base 3 "_law_crashed" (spLCrashed K) [] := by
  refine mkcal T.f_l_crashed sc_l_crashed (fun vs H Q E h => ?_) (fun _ _ _ _ _ _ us hl => match us, hl with | [_, _, _, _], _ => rfl) (fun f cdv A outer s H vs Q E hr h => ?_)
  · obtain ⟨a, d, x, p, n, c, D, t, z, zl, rfl, ha, hz, hD, ok, hsz, hx, tw, hc, q⟩ := h
    rfl
  obtain ⟨a, d, x, p, n, c, D, t, z, zl, rfl, ha, hz, hD, ok, hsz, hx, tw, hc, q⟩ := h
  have hDH := off_same.ldisk hD
  obtain ⟨b, s, xs, hd, hb, hs, hw⟩ := id hDH
  have hbl := ok.tw.len
  have htl := tw.len
  have hn := tw.npos
  refine ⟨_, (pss_cons (ps_if (PW.pt (pw_or (pt_not (pt_val (C8.pe_c (ok_l_is_class_row T) hr (by decide) rfl (pa_cons (pv 3) (pa_cons (pv 1) (pa_cons (pe_callB (call_lenK K) (by rfl) T.m_len (by decide +kernel) (pa_cons (pe_ix (ix_listK K) (pv 2) pe_int (fun _ _ => rfl)) pa_nil)) pa_nil)))))) (pw_or1 (pt_not (pt_val (C8.pe_c (ok_l_can_have T) hr (by decide) rfl (pa_cons (pe_ix (ix_listK K) (pv 0) pe_int (fun _ _ => rfl)) (pa_cons (pv 2) (pa_cons (pv 3) pa_nil))))))))) (pss_one (ps_ret pe_non)) pss_nil)
      (pss_one (ps_ret (pe_lst (pa_cons (pe_ifExp (pt_val (pe_ix (ix_listK K) (pv 0) pe_int (fun _ _ => rfl))) (C8.pe_c (ok_l_mend T) hr (by decide) rfl (pa_cons (pv 3) pa_nil)) (pe_callTy call_list_of (by rfl) T.m_list (by decide +kernel) (pa_cons (pv 3) pa_nil))) (pa_cons (pe_lst pa_nil) pa_nil)))))), ?_⟩
  refine ⟨_, rfl, _, rfl, _, rfl, _, _, _, _, rfl, rfl, sqL_at hd, (show atI _ (0 : Int) = some (.ref b) from rfl), _, _, rfl, .inl ⟨_, sqL_at hb, rfl⟩, x, c, _, t, rfl, hx, by rw [iV_len]; omega, by omega, tw.ent, fun H1 e1 => ⟨true, rfl, iteF ?_⟩⟩
  refine ⟨_, rfl, _, _, _, _, rfl, rfl, e1.sqL ha, (show atI _ (4 : Int) = some (ordV p.io) from rfl), _, rfl, _, rfl, p.io, d, x, n, c, D, t, rfl, e1.ldisk hDH, e1.tupI hx, by omega, ok, hsz, hc, fun H2 e2 => ⟨true, rfl, iteF ?_⟩⟩
  have e12 := e1.trans e2
  have hx2 := e12.tupI hx
  obtain ⟨pt, rfl, hp⟩ := id hx2
  refine ⟨_, rfl, _, _, _, _, rfl, rfl, e12.sqL ha, (show atI _ (5 : Int) = some (.bl p.me) from rfl), p.me, rfl, ?_⟩
  have fin : ∀ r H3, Same H H3 → H r = none → H3 r = some (.lst (iV (if p.me then mend n t else t))) → ∀ l4, H3 l4 = none → ∀ l5, (upd H3 l4 (.lst [])) l5 = none → Q (.ref l5) (upd (upd H3 l4 (.lst [])) l5 (.lst [.ref r, .ref l4])) := by
    intro r H3 e3 hr0 hr l4 hl4 l5 hl5
    have f1 := same_up (o := .lst []) hl4
    have f2 := f1.up (o := .lst [.ref r, .ref l4]) (f1.free hl5)
    refine q l5 _ (e3.trans f2) (e3.free (f1.free hl5)) ⟨r, l4, [], off_lst hz (e3.free (f1.free hl5)) upd_same, off_lst hz hr0 (f2 _ _ hr), off_lst hz (e3.free hl4) ((same_up hl5) _ _ upd_same), .nil⟩
  cases hm : p.me with
  | true =>
    rw [hm] at fin
    refine iteT ⟨_, rfl, pt, n, c, t, rfl, .inr hp, tw, fun r H3 e3 hr0 hr => ⟨le_small (Nat.le_of_ble_eq_true rfl), fun l4 hl4 => ⟨le_small (Nat.le_of_ble_eq_true rfl), fun l5 hl5 => fin r H3 (e12.trans e3) (e12.free hr0) hr l4 hl4 l5 hl5⟩⟩⟩
  | false =>
    rw [hm] at fin
    refine iteF ⟨_, rfl, pt, _, rfl, .inr hp, fun r hr0 => ⟨le_small (Nat.le_of_ble_eq_true rfl), fun l4 hl4 => ⟨le_small (Nat.le_of_ble_eq_true rfl), fun l5 hl5 => fin r _ (e12.up (e12.free hr0)) (e12.free hr0) upd_same l4 hl4 l5 hl5⟩⟩⟩
def spLStep (K : PySem.W.Frag) : Sp := fun vs H Q _ => ∃ a d x p n c D g z zl, vs = [.ref a, .int c, .ref d, x] ∧ SqL K H a (parV p) ∧ H z = some (.lst zl) ∧ LDiskAt K (off H z) d D ∧ DOk n c D ∧ D.row.length ≤ 9000 ∧ PartAt K H x g ∧ PartOk p n c D g ∧ ∀ d' H', Same H H' → H d' = none → LDiskAt K (off H' z) d' (stepP p n D g) → Q (.ref d') H'
theorem ok_l_step (T : Txt K mg) : C8.Cal P w K mg base 4 "_law_step" (spLStep K) [] := by
  refine mkcal T.f_l_step sc_l_step (fun vs H Q E h => ?_) (fun _ _ _ _ _ _ us hl => match us, hl with | [_, _, _, _], _ => rfl) (fun f cdv A outer s H vs Q E hr h => ?_)
  · obtain ⟨a, d, x, p, n, c, D, g, z, zl, rfl, ha, hz, hD, ok, hsz, hg, hok, q⟩ := h
    rfl
  obtain ⟨a, d, x, p, n, c, D, g, z, zl, rfl, ha, hz, hD, ok, hsz, hg, hok, q⟩ := h
  have hDH := off_same.ldisk hD
  refine ⟨_, (pss_cons (ps_if (pt_cmpR (op_eqD hr.units) (pv 3) (pe_tup (pa_cons pe_str pa_nil)) (nomark _)) (pss_one (ps_ret (pe_lst (pa_cons (C8.pe_c (ok_l_now T) hr (by decide) rfl (pa_cons (pv 2) pa_nil)) (pa_cons (pe_lst pa_nil) pa_nil))))) pss_nil)
      (pss_cons (ps_if (pt_cmpR (op_eq) (pe_ix (ix_tupK K) (pv 3) pe_int (fun _ _ => rfl)) pe_str (nomark _)) (pss_one (ps_ret (C8.pe_c (ok_l_crashed T) hr (by decide) rfl (pa_cons (pv 0) (pa_cons (pv 1) (pa_cons (pv 2) (pa_cons (pe_ix (ix_tupK K) (pv 3) pe_int (fun _ _ => rfl)) pa_nil))))))) pss_nil)
      (pss_cons (ps_if (pt_cmpR (op_eq) (pe_ix (ix_tupK K) (pv 3) pe_int (fun _ _ => rfl)) pe_str (nomark _)) (pss_cons (ps_set (i := 4) sc_l_step.nd rfl (Or.inl rfl) (C8.pe_c (ok_l_deed_rows T) hr (by decide) rfl (pa_cons (pv 0) (pa_cons (C8.pe_c (ok_l_now T) hr (by decide) rfl (pa_cons (pv 2) pa_nil)) (pa_cons (pe_ix (ix_tupK K) (pv 3) pe_int (fun _ _ => rfl)) pa_nil)))))
      (pss_cons (ps_if (pt_not (pt_chain op_le op_le pe_int (pe_ix (ix_tupK K) (pv 3) pe_int (fun _ _ => rfl)) (pe_callB (call_lenK K) (by rfl) T.m_len (by decide +kernel) (pa_cons (pv 4) pa_nil)))) (pss_one (ps_ret pe_non)) pss_nil)
      (pss_cons (ps_set (i := 5) sc_l_step.nd rfl (Or.inl rfl) (C8.pe_c (ok_l_after T) hr (by decide) rfl (pa_cons (pv 0) (pa_cons (pv 2) (pa_cons (pe_slice (sl_listK K) (pv 4) po_none (po_some (pe_ix (ix_tupK K) (pv 3) pe_int (fun _ _ => rfl)))) (pa_cons (pe_ix (ix_tupK K) (pe_ix (ix_tupK K) (pv 3) pe_int (fun _ _ => rfl)) pe_int (fun _ _ => rfl)) (pa_cons pe_bl pa_nil)))))))
      (pss_one (ps_ret (C8.pe_c (ok_l_crashed T) hr (by decide) rfl (pa_cons (pv 0) (pa_cons (pv 1) (pa_cons (pv 5) (pa_cons (pe_ix (ix_tupK K) (pv 3) pe_int (fun _ _ => rfl)) pa_nil)))))))))) pss_nil)
      (pss_cons (ps_set (i := 4) sc_l_step.nd rfl (Or.inl rfl) (C8.pe_c (ok_l_deed_rows T) hr (by decide) rfl (pa_cons (pv 0) (pa_cons (C8.pe_c (ok_l_now T) hr (by decide) rfl (pa_cons (pv 2) pa_nil)) (pa_cons (pv 3) pa_nil)))))
      (pss_one (ps_ret (C8.pe_c (ok_l_after T) hr (by decide) rfl (pa_cons (pv 0) (pa_cons (pv 2) (pa_cons (pv 4) (pa_cons (pe_ix (ix_tupK K) (pv 3) pe_int (fun _ _ => rfl)) (pa_cons pe_bl pa_nil)))))))))))), ?_⟩
  refine ⟨_, rfl, le_small (Nat.le_of_ble_eq_true rfl), fun tp htp => ?_⟩
  have e1 := same_up (o := .tup [.str "flush"]) htp
  have htp2 := upd_same (H := H) (a := tp) (o := .tup [.str "flush"])
  generalize upd H tp (.tup [.str "flush"]) = H1 at e1 htp2 ⊢
  refine ⟨partD g, .tuple [.str "flush"], part_dp (e1.part hg), .tup (sqT_at htp2) (.cons (.str _) .nil), part_shaped g, by decide +kernel, ?_⟩
  rw [part_eqv]
  have hg1 := e1.part hg
  cases g with
  | flush =>
    refine ⟨true, rfl, iteT ?_⟩
    refine ⟨_, rfl, d, n, c, D, rfl, e1.ldisk hDH, ok, fun r H2 e2 hr0 hr => ⟨le_small (Nat.le_of_ble_eq_true rfl), fun l4 hl4 => ⟨le_small (Nat.le_of_ble_eq_true rfl), fun l5 hl5 => ?_⟩⟩⟩
    have e12 := e1.trans e2
    have f1 := same_up (o := .lst []) hl4
    have f2 := f1.up (o := .lst [.ref r, .ref l4]) (f1.free hl5)
    exact q l5 _ (e12.trans f2) (e12.free (f1.free hl5)) ⟨r, l4, [], off_lst hz (e12.free (f1.free hl5)) upd_same, off_lst hz (e1.free hr0) (f2 _ _ hr), off_lst hz (e12.free hl4) ((same_up hl5) _ _ upd_same), .nil⟩
  | crash t =>
    obtain ⟨pt, y, rfl, hp, hy⟩ := id hg1
    refine ⟨false, rfl, iteF ?_⟩
    refine ⟨_, rfl, _, _, _, _, rfl, rfl, hp, (show atI _ (0 : Int) = some (.str "crash") from rfl), rfl, true, rfl, iteT ?_⟩
    exact ⟨_, rfl, _, rfl, _, rfl, _, rfl, _, _, _, _, rfl, rfl, hp, (show atI _ (1 : Int) = some y from rfl), a, d, y, p, n, c, D, t, z, zl, rfl, e1.sqL ha, e1 _ _ hz, (off_mono e1).ldisk hD, ok, by omega, hy, hok.1, hok.2, fun d' H2 e2 hd0 hd' => q d' H2 (e1.trans e2) (e1.free hd0) hd'⟩
  | deed dd =>
    obtain ⟨pt, rfl, hp⟩ := id hg1
    have hstr : ∀ s : Str, (s = "crash" ∨ s = "cut") → scal (wordV dd.up) (.str s) = true ∧ decide (wordV dd.up = .str s) = false := by
      rintro s (rfl | rfl) <;> cases dd.up <;> exact ⟨rfl, by decide +kernel⟩
    refine ⟨false, rfl, iteF ?_⟩
    refine ⟨_, rfl, _, _, _, _, rfl, rfl, hp, (show atI _ (0 : Int) = some (wordV dd.up) from rfl), (hstr _ (.inl rfl)).1, false, congrArg V.bl (hstr _ (.inl rfl)).2, iteF ?_⟩
    refine ⟨_, rfl, _, _, _, _, rfl, rfl, hp, (show atI _ (0 : Int) = some (wordV dd.up) from rfl), (hstr _ (.inr rfl)).1, false, congrArg V.bl (hstr _ (.inr rfl)).2, iteF ?_⟩
    refine ⟨_, rfl, _, rfl, d, n, c, D, rfl, e1.ldisk hDH, ok, fun r H2 e2 hr0 hr => ?_⟩
    have e12 := e1.trans e2
    have hd2 := e2.deed hg1
    refine ⟨_, rfl, a, r, .ref pt, p, n, c, D.now, dd, rfl, e12.sqL ha, sqL_at hr, ok.now, hd2, hok, fun l xs H3 e3 hl0 hl hw => ?_⟩
    have e13 := e12.trans e3
    obtain ⟨ok1, ok2⟩ := rows_ok (p := p) ok.now hok
    refine ⟨_, rfl, _, rfl, _, rfl, _, rfl, _, _, _, _, rfl, rfl, (e2.trans e3).sqT hp, (show atI _ (0 : Int) = some (wordV dd.up) from rfl), a, d, l, dd.up, true, p, n, c, D, rows p n D.now dd, z, zl, rfl, e13.sqL ha, e13 _ _ hz, (off_mono e13).ldisk hD, ok, ⟨xs, sqL_at hl, hw⟩, ok2, by omega, fun d' H4 e4 hd0 hd' => q d' H4 (e13.trans e4) (e13.free hd0) ?_⟩
    rw [aftI_last] at hd'
    exact hd'
  | cut dd k t =>
    obtain ⟨pt, y, y2, rfl, hp, hy, hy2⟩ := id hg1
    obtain ⟨okd, k1, k2, tw, hc⟩ := hok
    obtain ⟨py, rfl, hpy⟩ := id hy
    obtain ⟨ok1, ok2⟩ := rows_ok (p := p) ok.now okd
    refine ⟨false, rfl, iteF ?_⟩
    refine ⟨_, rfl, _, _, _, _, rfl, rfl, hp, (show atI _ (0 : Int) = some (.str "cut") from rfl), rfl, false, rfl, iteF ?_⟩
    refine ⟨_, rfl, _, _, _, _, rfl, rfl, hp, (show atI _ (0 : Int) = some (.str "cut") from rfl), rfl, true, rfl, iteT ?_⟩
    refine ⟨_, rfl, _, rfl, d, n, c, D, rfl, e1.ldisk hDH, ok, fun r H2 e2 hr0 hr => ?_⟩
    have e12 := e1.trans e2
    refine ⟨_, rfl, _, _, _, _, rfl, rfl, e2.sqT hp, (show atI _ (1 : Int) = some (.ref py) from rfl), a, r, .ref py, p, n, c, D.now, dd, rfl, e12.sqL ha, sqL_at hr, ok.now, e2.deed hy, okd, fun l xs H3 e3 hl0 hl hw => ?_⟩
    have e13 := e12.trans e3
    have hlen : xs.length = (rows p n D.now dd).length := Paired.length hw
    have hp3 := (e2.trans e3).sqT hp
    refine ⟨_, rfl, _, _, _, _, rfl, rfl, hp3, (show atI _ (2 : Int) = some (.int k) from rfl), _, _, rfl, rfl, _, rfl, ?_⟩
    rw [decide_eq_true k1]
    refine iteT ⟨_, rfl, _, _, rfl, .inl ⟨_, sqL_at hl, rfl⟩, _, _, rfl, rfl, _, rfl, ?_⟩
    rw [decide_eq_true (show k ≤ (xs.length : Int) by omega)]
    refine iteF ?_
    refine ⟨_, rfl, _, rfl, _, rfl, _, rfl, _, _, _, _, rfl, rfl, hp3, (show atI _ (2 : Int) = some (.int k) from rfl), _, rfl, _, _, rfl, sqL_at hl, fun sl hsl => ?_⟩
    have hcut : cutV xs none (some k) = xs.take k.toNat := by
      have e : k = (k.toNat : Int) := by omega
      rw [cutV, e, HT.sIx_nat, HT.sIx_none, List.drop_zero, Nat.sub_zero, Int.toNat_natCast]
      congr 1
      omega
    have f1 := same_up (o := .lst (cutV xs none (some k))) hsl
    have hsl2 := upd_same (H := H3) (a := sl) (o := .lst (cutV xs none (some k)))
    generalize upd H3 sl (.lst (cutV xs none (some k))) = H4 at f1 hsl2 ⊢
    rw [hcut] at hsl2
    have e14 := e13.trans f1
    have hp4 := f1.sqT hp3
    have e24 := (e2.trans e3).trans f1
    refine ⟨_, rfl, _, _, _, _, rfl, rfl, hp4, (show atI _ (1 : Int) = some (.ref py) from rfl), _, _, _, _, rfl, rfl, e24.sqT hpy, (show atI _ (0 : Int) = some (wordV dd.up) from rfl), a, d, sl, dd.up, false, p, n, c, D, (rows p n D.now dd).take k.toNat, z, zl, rfl, e14.sqL ha, e14 _ _ hz, (off_mono e14).ldisk hD, ok, ⟨_, sqL_at hsl2, f1.wrs (Paired.take' _ hw)⟩, fun w' hw' => ok2 w' (List.mem_of_mem_take hw'), by rw [List.length_take]; omega, fun d' H5 e5 hd0 hd' => ?_⟩
    have hcl : (rows p n D.now dd).take k.toNat = (rows p n D.now dd).take k.toNat := rfl
    rw [show ((rows p n D.now dd).take k.toNat).length = ((rows p n D.now dd).take k.toNat).length from rfl, aftI_cutAt k1 k2] at hd'
    have e15 := e14.trans e5
    have hdo : DOk n c (cutAt (if dd.up then p.fr else p.fl) D (rows p n D.now dd) k) ∧ (cutAt (if dd.up then p.fr else p.fl) D (rows p n D.now dd) k).row.length ≤ 100000 := by
      exact ⟨cutAt_ok ok ok2, by have := cutAt_len (f := if dd.up then p.fr else p.fl) (D := D) (ws := rows p n D.now dd) (k := k); omega⟩
    exact ⟨_, rfl, _, rfl, _, rfl, _, rfl, _, _, _, _, rfl, rfl, e5.sqT hp4, (show atI _ (3 : Int) = some y2 from rfl), a, d', y2, p, n, c, _, t, z, zl, rfl, e15.sqL ha, e15 _ _ hz, hd', hdo.1, hdo.2, (e24.trans e5).tupI hy2, tw, hc, fun d2 H6 e6 hd20 hd2 => q d2 H6 (e15.trans e6) (e15.free hd20) hd2⟩
end


end
/-! part P21 -/
section
/-! ### the walk: the law's draws -/
theorem atI_of {xs : List V} {r : Int} (h0 : 0 ≤ r) (h : r.toNat < xs.length) : atI xs r = some xs[r.toNat] := by
  have e := atI_nat (xs := xs) (j := r.toNat) (List.getElem?_eq_getElem h)
  rwa [Int.toNat_of_nonneg h0] at e
def PoolAt (H : Hp) (z : Addr) : Prop := ∃ x y : Int, H z = some (.lst [.int x, .int y])
structure Po (z : Addr) (H H' : Hp) : Prop where
  same : Same (off H z) (off H' z)
  pool : PoolAt H' z
theorem Po.trans {z : Addr} {H H1 H2 : Hp} (a : Po z H H1) (b : Po z H1 H2) : Po z H H2 := ⟨a.same.trans b.same, b.pool⟩
theorem Po.refl {z : Addr} {H : Hp} (h : PoolAt H z) : Po z H H := ⟨Same.refl _, h⟩
theorem Po.of {z : Addr} {H H' : Hp} (h : PoolAt H z) (e : Same H H') : Po z H H' := ⟨off_mono e, by
  obtain ⟨x, y, h⟩ := h
  exact ⟨x, y, e _ _ h⟩⟩
theorem PoolAt.ne {z l : Addr} {H : Hp} (h : PoolAt H z) (hl : H l = none) : l ≠ z := by
  obtain ⟨x, y, h⟩ := h
  exact (ne_of_none h hl).symm
theorem Po.lst {z l : Addr} {H H' : Hp} {o : HO} (e : Po z H H') (h : H l = some o) (hne : l ≠ z) : H' l = some o := off_same _ _ (e.same _ _ ((off_ne hne).trans h))
theorem Po.none {z l : Addr} {H H' : Hp} (e : Po z H H') (hz : PoolAt H z) (h : H' l = Option.none) : H l = Option.none := by
  cases q : H l with
  | none => rfl
  | some o =>
    have hne : l ≠ z := e.pool.ne h
    rw [e.lst q hne] at h
    cases h
section
variable {P : Program} {w : World} {K : PySem.W.Frag} {mg : Str → Option Value} {base : Heap}
def spOpened (K : PySem.W.Frag) : Sp := fun vs H Q _ => ∃ a k ns, vs = [.ref a, .int k] ∧ SqL K H a (iV ns) ∧ 0 ≤ k ∧ ∀ z H', Same H H' → H z = none → PoolAt H' z → Q (.ref z) H'
theorem ok_l_opened (T : Txt K mg) : C8.Cal P w K mg base 1 "_law_opened" (spOpened K) [] := by
  refine mkcal T.f_l_opened sc_l_opened (fun vs H Q E h => ?_) (fun _ _ _ _ _ _ us hl => match us, hl with | [_, _], _ => rfl) (fun f cdv A outer s H vs Q E hr h => ?_)
  · obtain ⟨a, k, ns, rfl, ha, hk, q⟩ := h
    rfl
  obtain ⟨a, k, ns, rfl, ha, hk, q⟩ := h
  refine ⟨_, (pss_cons (ps_set (i := 2) sc_l_opened.nd rfl (Or.inl rfl) (pe_ifExp (pt_cmpR (op_lt) (pv 1) (pe_callB (call_lenK K) (by rfl) T.m_len (by decide +kernel) (pa_cons (pv 0) pa_nil)) (nomark _)) (pe_ix (ix_listK K) (pv 0) (pv 1) (fun _ _ => rfl)) pe_int))
      (pss_cons (ps_set (i := 3) sc_l_opened.nd rfl (Or.inl rfl) (pe_callB (call_max2 rfl) (by rfl) T.m_max (by decide +kernel) (pa_cons (pe_callTy call_int1 (by rfl) T.m_int (by decide +kernel) (pa_cons (pv 2) pa_nil)) (pa_cons (pe_callTy call_int1 (by rfl) T.m_int (by decide +kernel) (pa_cons (pe_op op_sub (pe_un un_neg pe_int) (pv 2)) pa_nil)) pa_nil))))
      (pss_one (ps_ret (pe_lst (pa_cons (pe_op op_mul (pv 3) (pe_callTy call_int1 (by rfl) T.m_int (by decide +kernel) (pa_cons (pe_cmpR (op_ge) (pv 3) (pe_op op_pow pe_int pe_int) (nomark _)) pa_nil))) (pa_cons (pe_op op_mod (pe_callTy call_int1 (by rfl) T.m_int (by decide +kernel) (pa_cons (pe_op op_mul (pe_op op_add (pe_op op_add (pe_op op_mod (pv 3) pe_int) (pe_op op_mul pe_int (pv 1))) pe_int) pe_int) pa_nil)) pe_int) pa_nil))))))), ?_⟩
  have fin : ∀ cell : Int, tSeq (tAsg (tCB (fun xs H Q => ∃ i j, xs = [V.int i, .int j] ∧ Q (.int (if j > i then j else i)) H) (tCons (tCB (fun xs H Q => (∃ i, xs = [V.int i] ∧ Q (.int i) H) ∨ ∃ k, xs = [.bl k] ∧ Q (.int (if k then 1 else 0)) H) (tCons (tVar 2) tNil)) (tCons (tCB (fun xs H Q => (∃ i, xs = [V.int i] ∧ Q (.int i) H) ∨ ∃ k, xs = [.bl k] ∧ Q (.int (if k then 1 else 0)) H) (tCons (tOp (rI0 fun i j => .int (i - j)) (tUn (rU fun i => .int (-i)) (tC (.int 1))) (tVar 2)) tNil)) tNil))) (gName 3))
      (tRet (tLst (tCons (tOp (rI CMul fun i j => .int (i * j)) (tVar 3) (tCB (fun xs H Q => (∃ i, xs = [V.int i] ∧ Q (.int i) H) ∨ ∃ k, xs = [.bl k] ∧ Q (.int (if k then 1 else 0)) H) (tCons (tOp (rI0 fun i j => .bl (decide (j ≤ i))) (tVar 3) (tOp (rI CPow fun i j => .int (i ^ j.toNat)) (tC (.int 10)) (tC (.int 18)))) tNil)))
        (tCons (tOp (rI (fun _ j => 0 < j) fun i j => .int (i % j)) (tCB (fun xs H Q => (∃ i, xs = [V.int i] ∧ Q (.int i) H) ∨ ∃ k, xs = [.bl k] ∧ Q (.int (if k then 1 else 0)) H) (tCons (tOp (rI CMul fun i j => .int (i * j)) (tOp (rI0 fun i j => .int (i + j)) (tOp (rI0 fun i j => .int (i + j)) (tOp (rI (fun _ j => 0 < j) fun i j => .int (i % j)) (tVar 3) (tC (.int 2147483629))) (tOp (rI CMul fun i j => .int (i * j)) (tC (.int 7919)) (tVar 1))) (tC (.int 17))) (tC (.int 48271))) tNil)) (tC (.int 2147483647))) tNil))))
      { nx := fun _ H' => Q .non H', rt := Q } [some (.ref a), some (.int k), some (.int cell), none] H := by
    intro cell
    refine ⟨_, rfl, .inl ⟨_, rfl, _, rfl, _, rfl, _, _, rfl, rfl, .inl ⟨_, rfl, _, _, rfl, ?_⟩⟩⟩
    generalize (if -1 - cell > cell then -1 - cell else cell) = great
    refine ⟨_, rfl, _, rfl, _, _, rfl, rfl, ⟨by decide, by decide, by decide⟩, _, _, rfl, rfl, .inr ⟨_, rfl, _, _, rfl, rfl, .inr ?_, ?_⟩⟩
    · split <;> exact ⟨by decide, by decide⟩
    refine ⟨_, rfl, _, _, rfl, rfl, (show (0 : Int) < 2147483629 by decide), _, rfl, _, _, rfl, rfl, .inl ⟨by decide, by decide⟩, _, _, rfl, rfl, _, _, rfl, rfl, _, _, rfl, rfl, .inr ⟨by decide, by decide⟩, .inl ⟨_, rfl, _, _, rfl, rfl, (show (0 : Int) < 2147483647 by decide), le_small (Nat.le_of_ble_eq_true rfl), fun z hz => ?_⟩⟩
    exact q z _ (same_up hz) hz ⟨_, _, upd_same⟩
  refine ⟨_, rfl, _, rfl, _, _, rfl, .inl ⟨_, ha, rfl⟩, _, _, rfl, rfl, _, rfl, ?_⟩
  by_cases hlt : k < ((iV ns).length : Int)
  · rw [decide_eq_true hlt]
    have hk2 : k.toNat < ns.length := by rw [iV_len] at hlt; omega
    have hat : atI (iV ns) k = some (.int ns[k.toNat]) := by
      have e := atI_of (xs := iV ns) hk (by rw [iV_len]; exact hk2)
      rw [e, List.getElem_map]
    exact iteT ⟨_, rfl, _, rfl, _, _, _, _, rfl, rfl, ha, hat, fin _⟩
  · rw [decide_eq_false hlt]
    exact iteF (fin 5)
def spDraw (K : PySem.W.Frag) : Sp := fun vs H Q _ => ∃ z m, vs = [.ref z, .int m] ∧ PoolAt H z ∧ 0 < m ∧ m < 1073741824 ∧ ∀ r H', 0 ≤ r → r < m → Po z H H' → Q (.int r) H'
theorem ok_l_draw (T : Txt K mg) : C8.Cal P w K mg base 1 "_law_draw" (spDraw K) [] := by
  refine mkcal T.f_l_draw sc_l_draw (fun vs H Q E h => ?_) (fun _ _ _ _ _ _ us hl => match us, hl with | [_, _], _ => rfl) (fun f cdv A outer s H vs Q E hr h => ?_)
  · obtain ⟨z, m, rfl, ⟨x, y, hz⟩, m0, m1, q⟩ := h
    rfl
  obtain ⟨z, m, rfl, ⟨x, y, hz⟩, m0, m1, q⟩ := h
  refine ⟨_, (pss_cons (ps_if (pt_cmpR (op_gt) (pe_ix (ix_listK K) (pv 0) pe_int (fun _ _ => rfl)) pe_int (nomark _)) (pss_cons (ps_set (i := 2) sc_l_draw.nd rfl (Or.inl rfl) (pe_op op_mod (pe_callTy call_int1 (by rfl) T.m_int (by decide +kernel) (pa_cons (pe_ix (ix_listK K) (pv 0) pe_int (fun _ _ => rfl)) pa_nil)) (pv 1)))
      (pss_cons (ps_asg (pe_op op_fdiv (pe_ix (ix_listK K) (pv 0) pe_int (fun _ _ => rfl)) (pv 1)) (pg_sub (pv 0) pe_int set_list))
      (pss_one (ps_ret (pv 2))))) pss_nil)
      (pss_cons (ps_asg (pe_op op_mod (pe_callTy call_int1 (by rfl) T.m_int (by decide +kernel) (pa_cons (pe_op op_add (pe_op op_mul (pe_ix (ix_listK K) (pv 0) pe_int (fun _ _ => rfl)) pe_int) pe_int) pa_nil)) pe_int) (pg_sub (pv 0) pe_int set_list))
      (pss_one (ps_ret (pe_op op_mod (pe_op op_fdiv (pe_op op_mod (pe_callTy call_int1 (by rfl) T.m_int (by decide +kernel) (pa_cons (pe_op op_mul (pe_ix (ix_listK K) (pv 0) pe_int (fun _ _ => rfl)) (pe_ix (ix_listK K) (pv 0) pe_int (fun _ _ => rfl))) pa_nil)) pe_int) pe_int) (pv 1)))))), ?_⟩
  refine ⟨_, rfl, _, _, _, _, rfl, rfl, sqL_at hz, (show atI _ (0 : Int) = some (.int x) from rfl), _, _, rfl, rfl, _, rfl, iteD (fun hx => ?_) fun hx => ?_⟩
  · refine ⟨_, rfl, _, _, _, _, rfl, rfl, sqL_at hz, (show atI _ (0 : Int) = some (.int x) from rfl), .inl ⟨_, rfl, _, rfl, _, _, rfl, rfl, m0, ?_⟩⟩
    refine ⟨_, rfl, _, _, _, _, rfl, rfl, sqL_at hz, (show atI _ (0 : Int) = some (.int x) from rfl), _, rfl, _, _, rfl, rfl, ⟨m0, m1⟩, _, rfl, _, _, _, _, rfl, rfl, hz, rfl, ?_⟩
    refine ⟨_, rfl, q _ _ (Int.emod_nonneg _ (by omega)) (Int.emod_lt_of_pos _ m0) ⟨?_, _, _, upd_same⟩⟩
    rw [off_upd]
    exact Same.refl _
  · refine ⟨_, rfl, _, _, _, _, rfl, rfl, sqL_at hz, (show atI _ (1 : Int) = some (.int y) from rfl), _, _, rfl, rfl, .inr ⟨by decide, by decide⟩, _, _, rfl, rfl, .inl ⟨_, rfl, _, _, rfl, rfl, (show (0 : Int) < 2147483647 by decide), ?_⟩⟩
    refine ⟨_, rfl, _, _, _, _, rfl, rfl, hz, rfl, ?_⟩
    have h1 : 0 ≤ (y * 39373 + 7) % 2147483647 := Int.emod_nonneg _ (by decide)
    have h2 : (y * 39373 + 7) % 2147483647 < 2147483647 := Int.emod_lt_of_pos _ (by decide)
    generalize hG : upd H z _ = H1
    have hz2 : H1 z = some (.lst [.int x, .int ((y * 39373 + 7) % 2147483647)]) := by
      rw [← hG]
      exact upd_same
    have e : Same (off H z) (off H1 z) := by
      rw [← hG, off_upd]
      exact Same.refl _
    clear hG
    generalize (y * 39373 + 7) % 2147483647 = y' at h1 h2 hz2
    refine ⟨_, rfl, _, _, _, _, rfl, rfl, sqL_at hz2, (show atI _ (1 : Int) = some (.int y') from rfl), _, rfl, _, _, _, _, rfl, rfl, sqL_at hz2, (show atI _ (1 : Int) = some (.int y') from rfl), _, _, rfl, rfl, .inl ⟨by omega, by omega⟩, .inl ⟨_, rfl, _, _, rfl, rfl, (show (0 : Int) < 2147483629 by decide), _, _, rfl, rfl, ⟨by decide, by decide⟩, _, rfl, _, _, rfl, rfl, m0, ?_⟩⟩
    exact q _ _ (Int.emod_nonneg _ (by omega)) (Int.emod_lt_of_pos _ m0) ⟨e, _, _, hz2⟩
def spPick (K : PySem.W.Frag) : Sp := fun vs H Q _ => ∃ z l xs, vs = [.ref z, .ref l] ∧ PoolAt H z ∧ SqL K (off H z) l xs ∧ 0 < xs.length ∧ xs.length < 1073741824 ∧ ∀ (i : Nat) x H', xs[i]? = some x → Po z H H' → Q x H'
theorem ok_l_pick (T : Txt K mg) : C8.Cal P w K mg base 2 "_law_pick" (spPick K) [] := by
  refine mkcal T.f_l_pick sc_l_pick (fun vs H Q E h => ?_) (fun _ _ _ _ _ _ us hl => match us, hl with | [_, _], _ => rfl) (fun f cdv A outer s H vs Q E hr h => ?_)
  · obtain ⟨z, l, xs, rfl, hz, hl, h0, h1, q⟩ := h
    rfl
  obtain ⟨z, l, xs, rfl, hz, hl, h0, h1, q⟩ := h
  refine ⟨_, (pss_one (ps_ret (pe_ix (ix_listK K) (pv 1) (C8.pe_c (ok_l_draw T) hr (by decide) rfl (pa_cons (pv 0) (pa_cons (pe_callB (call_lenK K) (by rfl) T.m_len (by decide +kernel) (pa_cons (pv 1) pa_nil)) pa_nil))) (fun _ _ => rfl)))), ?_⟩
  refine ⟨_, rfl, _, rfl, _, rfl, _, _, rfl, .inl ⟨_, off_same.sqL hl, rfl⟩, z, _, rfl, hz, by omega, by omega, fun r H' r0 r1 po => ?_⟩
  have hr : r.toNat < xs.length := by omega
  have hat := atI_of r0 hr
  exact ⟨_, _, _, _, rfl, rfl, off_same.sqL (po.same.sqL hl), hat, q r.toNat _ _ (List.getElem?_eq_getElem hr) po⟩
def spDrawnDeed (K : PySem.W.Frag) : Sp := fun vs H Q _ => ∃ z n c, vs = [.ref z, .int n, .int c] ∧ PoolAt H z ∧ 1 ≤ n ∧ n ≤ 32 ∧ 1 ≤ c ∧ c ≤ 8 ∧ ∀ x d H', Po z H H' → DeedAt K (off H' z) x d → DeedOk n c d → Q x H'
theorem ok_l_drawn_deed (T : Txt K mg) : C8.Cal P w K mg base 3 "_law_drawn_deed" (spDrawnDeed K) [] := by
  refine mkcal T.f_l_drawn_deed sc_l_drawn_deed (fun vs H Q E h => ?_) (fun _ _ _ _ _ _ us hl => match us, hl with | [_, _, _], _ => rfl) (fun f cdv A outer s H vs Q E hr h => ?_)
  · obtain ⟨z, n, c, rfl, hz, n1, n2, c1, c2, q⟩ := h
    rfl
  obtain ⟨z, n, c, rfl, hz, n1, n2, c1, c2, q⟩ := h
  refine ⟨_, (pss_one (ps_ret (pe_tup (pa_cons (C8.pe_c (ok_l_pick T) hr (by decide) rfl (pa_cons (pv 0) (pa_cons (pe_lst (pa_cons pe_str (pa_cons pe_str pa_nil))) pa_nil))) (pa_cons (C8.pe_c (ok_l_draw T) hr (by decide) rfl (pa_cons (pv 0) (pa_cons (pv 1) pa_nil))) (pa_cons (C8.pe_c (ok_l_draw T) hr (by decide) rfl (pa_cons (pv 0) (pa_cons (pe_op op_add (pv 2) pe_int) pa_nil))) pa_nil)))))), ?_⟩
  refine ⟨_, rfl, le_small (Nat.le_of_ble_eq_true rfl), fun l hl => ?_⟩
  have e1 := same_up (o := .lst [.str "raise", .str "lower"]) hl
  have hne := hz.ne hl
  have po1 := Po.of hz e1
  refine ⟨z, l, [.str "raise", .str "lower"], rfl, po1.pool, sqL_at ((off_ne hne).trans upd_same), by decide, by decide, fun i x H2 hi po2 => ?_⟩
  obtain ⟨u, hu⟩ : ∃ u, x = wordV u := by
    rcases i with _ | _ | i
    · exact ⟨true, (Option.some.inj hi).symm⟩
    · exact ⟨false, (Option.some.inj hi).symm⟩
    · simp at hi
  subst hu
  refine ⟨_, rfl, _, rfl, z, n, rfl, po2.pool, by omega, by omega, fun r H3 r0 r1 po3 => ?_⟩
  refine ⟨_, rfl, _, rfl, _, _, rfl, rfl, z, c + 1, rfl, po3.pool, by omega, by omega, fun r2 H4 r20 r21 po4 => ?_⟩
  refine ⟨le_small (Nat.le_of_ble_eq_true rfl), fun t ht => ?_⟩
  have po5 := Po.of po4.pool (same_up (o := .tup [wordV u, .int r, .int r2]) ht)
  refine q (.ref t) ⟨u, r, r2⟩ _ (po1.trans (po2.trans (po3.trans (po4.trans po5)))) ⟨t, rfl, sqT_at ((off_ne (po4.pool.ne ht)).trans upd_same)⟩ ⟨r0, r1, r20, by show r2 ≤ c; omega⟩
end


end
/-! part P22 -/
section
/-! ### the walk: the law's draws, second part -/
theorem Po.up {z D : Addr} {H H' : Hp} {o : HO} (e : Po z H H') (hz : PoolAt H z) (hD : H D = Option.none) : Po z H (upd H' D o) := by
  have hne := hz.ne hD
  refine ⟨fun b u hb => ?_, ?_⟩
  · have h1 := e.same b u hb
    have hbD : b ≠ D := by
      intro h
      rw [h, off_ne hne, hD] at hb
      cases hb
    have hbz : b ≠ z := by
      intro h
      rw [h, off_self] at hb
      cases hb
    rw [off_ne hbz] at h1 ⊢
    rw [upd_ne hbD]
    exact h1
  · obtain ⟨x, y, h⟩ := e.pool
    exact ⟨x, y, (upd_ne hne.symm).trans h⟩
theorem lcPo {z D : Addr} {H1 : Hp} {n : Nat} {g : TG} {te : TE} {vs : List Nat} {σ : L2.St} {Qd : Hp → Prop} (hz : PoolAt H1 z) (hD : H1 D = none) (hsz : n < sizeLine) (R : Nat → List V → Prop) (h0 : R 0 [])
    (hs : ∀ i H acc, i < n → Po z H1 H → R i acc → ∀ Nt : V → Hp → Prop, (∀ y H4, Po z H H4 → R (i + 1) (acc ++ [y]) → Nt y H4) → g (.int (0 + (i : Nat))) (wipe σ vs) H fun σ2 H2 => wipe σ2 vs = wipe σ vs ∧ te σ2 H2 Nt)
    (hd : ∀ H acc, Po z H1 H → H D = some (.lst acc) → R n acc → Qd H) : LcGoal (Itr 0 n) H1 g tYes te vs σ D Qd := by
  refine ⟨fun i m H => m = n - i ∧ i ≤ n ∧ Po z H1 H ∧ ∃ acc, H D = some (.lst acc) ∧ acc.length ≤ i ∧ R i acc, ⟨n, by simp, Nat.zero_le _, (Po.refl hz).up hz hD, [], upd_same, Nat.le_refl _, h0⟩, ?_⟩
  rintro i m H ⟨rfl, hi, e, acc, hacc, hl, hr⟩
  by_cases hlt : i < n
  · refine .inr ⟨hlt, fun H' => Po z H1 H' ∧ ∃ acc, H' D = some (.lst acc) ∧ acc.length ≤ i + 1 ∧ R (i + 1) acc, fun H' ⟨e', q⟩ => ⟨n - (i + 1), by omega, rfl, hlt, e', q⟩, fun x H' y => ?_⟩
    obtain ⟨rfl, rfl⟩ := y
    refine hs i H' acc hlt e hr _ fun y H4 e4 r4 => ?_
    have hD4 := e4.lst hacc (hz.ne hD)
    exact ⟨acc, hD4, by omega, (e.trans e4).up hz hD, acc ++ [y], upd_same, by rw [List.length_append]; exact Nat.succ_le_succ hl, r4⟩
  · have e0 : i = n := by omega
    subst e0
    exact .inl ⟨Nat.le_refl _, hd H acc e hacc hr⟩
theorem two_of {A : V → Prop} {acc : List V} (h1 : acc.length = 2) (h2 : ∀ v ∈ acc, A v) : ∃ x y, acc = [x, y] ∧ A x ∧ A y := by
  match acc, h1 with
  | [x, y], _ => exact ⟨x, y, rfl, h2 x (List.mem_cons_self ..), h2 y (List.mem_cons_of_mem _ (List.mem_cons_self ..))⟩
theorem lvl_app_le {ts : List Int} {x v : Int} (h1 : 1 ≤ v) (h2 : v ≤ ts.length) : lvl (ts ++ [x]) v = lvl ts v := by
  unfold lvl
  rw [List.getD_eq_getElem?_getD, List.getD_eq_getElem?_getD, List.getElem?_append_left (by omega)]
theorem lvl_app_last {ts : List Int} {x : Int} : lvl (ts ++ [x]) ((ts.length : Int) + 1) = x := by
  unfold lvl
  rw [List.getD_eq_getElem?_getD, show ((ts.length : Int) + 1 - 1).toNat = ts.length by omega, List.getElem?_append_right (Nat.le_refl _)]
  simp
theorem mem_lvl {ts : List Int} {x : Int} (h : x ∈ ts) : ∃ v : Int, 1 ≤ v ∧ v ≤ ts.length ∧ x = lvl ts v := by
  obtain ⟨i, hi, rfl⟩ := List.mem_iff_getElem.mp h
  refine ⟨(i : Int) + 1, by omega, by omega, ?_⟩
  unfold lvl
  rw [List.getD_eq_getElem?_getD, show ((i : Int) + 1 - 1).toNat = i by omega, List.getElem?_eq_getElem hi] <;> rfl
section
variable {P : Program} {w : World} {K : PySem.W.Frag} {mg : Str → Option Value} {base : Heap}
def spParts (K : PySem.W.Frag) : Sp := fun vs H Q _ => ∃ z, vs = [.ref z] ∧ PoolAt H z ∧ ∀ a p H', Po z H H' → H a = none → H' a = some (.lst (parV p)) → Q (.ref a) H'
theorem ok_l_parts (T : Txt K mg) : C8.Cal P w K mg base 3 "_law_parts" (spParts K) [] := by
  refine mkcal T.f_l_parts sc_l_parts (fun vs H Q E h => ?_) (fun _ _ _ _ _ _ us hl => match us, hl with | [_], _ => rfl) (fun f cdv A outer s H vs Q E hr h => ?_)
  · obtain ⟨z, rfl, hz, q⟩ := h
    rfl
  obtain ⟨z, rfl, hz, q⟩ := h
  refine ⟨_, (pss_cons (ps_setLc (i := 1) (own := [("_law_step_here", 3)]) (by rfl) sc_l_parts.nd rfl rfl (sw_true rfl rfl rfl (by decide +kernel)) (pi_range1 rfl T.m_range (pa_cons pe_int pa_nil)) (blkOk_by (own := [("_law_step_here", 3)]) (N := n_l_parts) (sc := defScope s_l_parts) (by decide +kernel)) (fun _ _ _ _ _ => (pg_name (i := 3) sc_l_parts.nd rfl (Or.inl rfl))) (fun _ _ _ _ _ => pts_nil) (fun _ _ _ _ _ => (C8.pe_c (ok_l_pick T) hr (by decide) rfl (pa_cons (pv 0) (pa_cons (pe_lst (pa_cons pe_str (pa_cons pe_str pa_nil))) pa_nil)))))
      (pss_cons (ps_setLc (i := 2) (own := [("_law_step_here", 3)]) (by rfl) sc_l_parts.nd rfl rfl (sw_true rfl rfl rfl (by decide +kernel)) (pi_range1 rfl T.m_range (pa_cons pe_int pa_nil)) (blkOk_by (own := [("_law_step_here", 3)]) (N := n_l_parts) (sc := defScope s_l_parts) (by decide +kernel)) (fun _ _ _ _ _ => (pg_name (i := 3) sc_l_parts.nd rfl (Or.inl rfl))) (fun _ _ _ _ _ => pts_nil) (fun _ _ _ _ _ => (pe_cmpR (op_eq) (C8.pe_c (ok_l_draw T) hr (by decide) rfl (pa_cons (pv 0) (pa_cons pe_int pa_nil))) pe_int (nomark _))))
      (pss_one (ps_ret (pe_op op_cat (pe_op op_cat (pv 1) (pv 2)) (pe_lst (pa_cons (C8.pe_c (ok_l_pick T) hr (by decide) rfl (pa_cons (pv 0) (pa_cons (pe_lst (pa_cons pe_str (pa_cons pe_str pa_nil))) pa_nil))) (pa_cons (pe_cmpR (op_eq) (C8.pe_c (ok_l_draw T) hr (by decide) rfl (pa_cons (pv 0) (pa_cons pe_int pa_nil))) pe_int (nomark _)) pa_nil)))))))), ?_⟩
  refine ⟨_, rfl, by decide, by decide, fun D hD => ?_⟩
  refine lcPo (n := 2) hz hD (by decide) (fun i acc => acc.length = i ∧ ∀ v ∈ acc, ∃ b, v = side b) ⟨rfl, fun v h => by cases h⟩ (fun i H1 acc hi e hR Nt ht => ?_) (fun H1 acc1 e1 hD1 hR1 => ?_)
  · refine ⟨rfl, _, rfl, le_small (Nat.le_of_ble_eq_true rfl), fun l hl => ?_⟩
    have e1 := same_up (o := .lst [.str "above", .str "below"]) hl
    have po1 := Po.of e.pool e1
    refine ⟨z, l, [.str "above", .str "below"], rfl, po1.pool, sqL_at ((off_ne (e.pool.ne hl)).trans upd_same), by decide, by decide, fun j x H2 hj po2 => ht x H2 (po1.trans po2) ⟨by rw [List.length_append, hR.1] <;> rfl, fun v hv => ?_⟩⟩
    rcases List.mem_append.mp hv with h | h
    · exact hR.2 v h
    · rw [List.mem_singleton.mp h]
      rcases j with _ | _ | j
      · exact ⟨true, (Option.some.inj hj).symm⟩
      · exact ⟨false, (Option.some.inj hj).symm⟩
      · simp at hj
  obtain ⟨x1, x2, rfl, ⟨b1, rfl⟩, ⟨b2, rfl⟩⟩ := two_of hR1.1 hR1.2
  have hDz := hz.ne hD
  refine ⟨_, rfl, by decide, by decide, fun C hC => ?_⟩
  refine lcPo (n := 2) e1.pool hC (by decide) (fun i acc => acc.length = i ∧ ∀ v ∈ acc, ∃ b, v = .bl b) ⟨rfl, fun v h => by cases h⟩ (fun i H2 acc hi e hR Nt ht => ?_) (fun H2 acc2 e2 hC2 hR2 => ?_)
  · refine ⟨rfl, _, rfl, z, 2, rfl, e.pool, by decide, by decide, fun r H3 r0 r1 po => ⟨rfl, ht _ _ po ⟨by rw [List.length_append, hR.1] <;> rfl, fun v hv => ?_⟩⟩⟩
    rcases List.mem_append.mp hv with h | h
    · exact hR.2 v h
    · exact ⟨_, List.mem_singleton.mp h⟩
  obtain ⟨y1, y2, rfl, ⟨b3, rfl⟩, ⟨b4, rfl⟩⟩ := two_of hR2.1 hR2.2
  have hD2 := e2.lst hD1 hDz
  have hz2 := e2.pool
  refine ⟨_, rfl, _, rfl, D, C, _, _, rfl, rfl, hD2, hC2, le_small (Nat.le_of_ble_eq_true rfl), fun p1 hp1 => ?_⟩
  have po3 := Po.of hz2 (same_up (o := .lst ([side b1, side b2] ++ [.bl b3, .bl b4])) hp1)
  have hp1z := hz2.ne hp1
  have hv1 := upd_same (H := H2) (a := p1) (o := .lst ([side b1, side b2] ++ [.bl b3, .bl b4]))
  generalize upd H2 p1 (.lst ([side b1, side b2] ++ [.bl b3, .bl b4])) = H3 at po3 hv1 ⊢
  refine ⟨_, rfl, le_small (Nat.le_of_ble_eq_true rfl), fun l hl => ?_⟩
  have po4 := Po.of po3.pool (same_up (o := .lst [.str "anyhow", .str "in order"]) hl)
  refine ⟨z, l, [.str "anyhow", .str "in order"], rfl, po4.pool, sqL_at ((off_ne (po3.pool.ne hl)).trans upd_same), by decide, by decide, fun j x H5 hj po5 => ?_⟩
  obtain ⟨b5, rfl⟩ : ∃ b, x = ordV b := by
    rcases j with _ | _ | j
    · exact ⟨false, (Option.some.inj hj).symm⟩
    · exact ⟨true, (Option.some.inj hj).symm⟩
    · simp at hj
  refine ⟨_, rfl, z, 3, rfl, po5.pool, by decide, by decide, fun r H6 r0 r1 po6 => ⟨rfl, le_small (Nat.le_of_ble_eq_true rfl), fun l7 hl7 => ?_⟩⟩
  have po7 := Po.of po6.pool (same_up (o := .lst [ordV b5, .bl (decide (V.int r = .int 0))]) hl7)
  have po37 := po4.trans (po5.trans (po6.trans po7))
  refine ⟨p1, l7, _, _, rfl, rfl, po37.lst hv1 hp1z, upd_same, le_small (Nat.le_of_ble_eq_true rfl), fun p8 hp8 => ?_⟩
  have po8 := Po.of po7.pool (same_up (o := .lst (([side b1, side b2] ++ [.bl b3, .bl b4]) ++ [ordV b5, .bl (decide (V.int r = .int 0))])) hp8)
  have po08 := e1.trans (e2.trans (po3.trans (po37.trans po8)))
  refine q p8 ⟨b1, b2, b3, b4, b5, decide (V.int r = .int 0)⟩ _ po08 ?_ upd_same
  exact (e1.trans (e2.trans (po3.trans po37))).none hz hp8
def spGoodParts (K : PySem.W.Frag) : Sp := fun vs H Q _ => ∃ z, vs = [.ref z] ∧ PoolAt H z ∧ ∀ a p H', Po z H H' → H a = none → H' a = some (.lst (parV p)) → GoodP p → Q (.ref a) H'
theorem ok_l_good_parts (T : Txt K mg) : C8.Cal P w K mg base 4 "_law_good_parts" (spGoodParts K) [] := by
  refine mkcal T.f_l_good_parts sc_l_good_parts (fun vs H Q E h => ?_) (fun _ _ _ _ _ _ us hl => match us, hl with | [_], _ => rfl) (fun f cdv A outer s H vs Q E hr h => ?_)
  · obtain ⟨z, rfl, hz, q⟩ := h
    rfl
  obtain ⟨z, rfl, hz, q⟩ := h
  refine ⟨_, (pss_cons (ps_set (i := 1) sc_l_good_parts.nd rfl (Or.inl rfl) (C8.pe_c (ok_l_parts T) hr (by decide) rfl (pa_cons (pv 0) pa_nil)))
      (pss_cons (ps_if (pt_not (pt_val (pe_ix (ix_listK K) (pv 1) pe_int (fun _ _ => rfl)))) (pss_cons (ps_asg (pe_tup (pa_cons pe_str (pa_cons pe_str pa_nil))) (pg_tupK K (n := 2) rfl (pgs_cons (pg_sub (pv 1) pe_int set_list) (pgs_cons (pg_sub (pv 1) pe_int set_list) pgs_nil))))
      (pss_one (ps_if (pt_cmpR (op_eq) (pe_ix (ix_listK K) (pv 1) pe_int (fun _ _ => rfl)) pe_str (nomark _)) (pss_one (ps_asg (pe_tup (pa_cons pe_bl (pa_cons pe_bl pa_nil))) (pg_tupK K (n := 2) rfl (pgs_cons (pg_sub (pv 1) pe_int set_list) (pgs_cons (pg_sub (pv 1) pe_int set_list) pgs_nil))))) pss_nil))) pss_nil)
      (pss_one (ps_ret (pv 1))))), ?_⟩
  refine ⟨_, rfl, z, rfl, hz, fun a p H1 e1 ha0 ha => ?_⟩
  obtain ⟨ra, la, fr, fl, io, me⟩ := p
  refine ⟨_, rfl, _, _, _, _, rfl, rfl, sqL_at ha, (show atI _ (5 : Int) = some (.bl me) from rfl), me, rfl, ?_⟩
  cases me with
  | true => exact iteF ⟨_, rfl, q a ⟨ra, la, fr, fl, io, true⟩ H1 e1 ha0 ha fun h => nomatch h⟩
  | false =>
    refine iteT ?_
    refine ⟨le_small (Nat.le_of_ble_eq_true rfl), fun t ht => ?_⟩
    have po2 := Po.of e1.pool (same_up (o := .tup [.str "above", .str "below"]) ht)
    have ha2 := same_up (o := .tup [.str "above", .str "below"]) ht _ _ ha
    have ht2 := upd_same (H := H1) (a := t) (o := .tup [.str "above", .str "below"])
    generalize upd H1 t (.tup [.str "above", .str "below"]) = H2 at po2 ha2 ht2 ⊢
    have e02 := e1.trans po2
    refine ⟨t, _, rfl, sqT_at ht2, rfl, _, _, rfl, ?_⟩
    refine ⟨_, rfl, _, _, _, _, rfl, rfl, ha2, rfl, _, _, rfl, ?_⟩
    refine ⟨_, rfl, _, _, _, _, rfl, rfl, upd_same, rfl, rfl, ?_⟩
    generalize hG : upd (upd H2 a _) a _ = H3
    have e03 : Po z H H3 := by
      rw [← hG]
      exact (e02.up hz ha0).up hz ha0
    have ha3 : H3 a = some (.lst (parV ⟨true, false, fr, fl, io, false⟩)) := by
      rw [← hG]
      exact upd_same
    clear hG
    refine ⟨_, rfl, _, _, _, _, rfl, rfl, sqL_at ha3, (show atI _ (4 : Int) = some (ordV io) from rfl), ?_⟩
    cases io with
    | true => exact ⟨rfl, false, rfl, iteF ⟨_, rfl, q a ⟨true, false, fr, fl, true, false⟩ H3 e03 ha0 ha3 fun _ => ⟨rfl, rfl, fun h => nomatch h⟩⟩⟩
    | false =>
      refine ⟨rfl, true, rfl, iteT ?_⟩
      refine ⟨le_small (Nat.le_of_ble_eq_true rfl), fun t4 ht4 => ?_⟩
      have po4 := Po.of e03.pool (same_up (o := .tup [.bl true, .bl true]) ht4)
      have ha4 := same_up (o := .tup [.bl true, .bl true]) ht4 _ _ ha3
      have ht5 := upd_same (H := H3) (a := t4) (o := .tup [.bl true, .bl true])
      generalize upd H3 t4 (.tup [.bl true, .bl true]) = H4 at po4 ha4 ht5 ⊢
      refine ⟨t4, _, rfl, sqT_at ht5, rfl, _, _, rfl, ?_⟩
      refine ⟨_, rfl, _, _, _, _, rfl, rfl, ha4, rfl, _, _, rfl, ?_⟩
      refine ⟨_, rfl, _, _, _, _, rfl, rfl, upd_same, rfl, rfl, ?_⟩
      exact ⟨_, rfl, q a ⟨true, false, true, true, false, false⟩ _ (((e03.trans po4).up hz ha0).up hz ha0) ha0 upd_same fun _ => ⟨rfl, rfl, fun _ => ⟨rfl, rfl⟩⟩⟩
def spDrawnTold (K : PySem.W.Frag) : Sp := fun vs H Q _ => ∃ z n c, vs = [.ref z, .int n, .int c, .bl true] ∧ PoolAt H z ∧ (n = 2 ∨ n = 4 ∨ n = 8 ∨ n = 16 ∨ n = 32) ∧ 1 ≤ c ∧ c ≤ 8 ∧ ∀ l ts H', Po z H H' → H l = none → H' l = some (.lst (iV ts)) → TW n c ts → Up n ts → Q (.ref l) H'
theorem ok_l_drawn_told (T : Txt K mg) : C8.Cal P w K mg base 2 "_law_drawn_told" (spDrawnTold K) [] := by
  refine mkcal T.f_l_drawn_told sc_l_drawn_told (fun vs H Q E h => ?_) (fun _ _ _ _ _ _ us hl => match us, hl with | [_, _, _, _], _ => rfl) (fun f cdv A outer s H vs Q E hr h => ?_)
  · obtain ⟨z, n, c, rfl, hz, n5, c1, c2, q⟩ := h
    rfl
  obtain ⟨z, n, c, rfl, hz, n5, c1, c2, q⟩ := h
  have hn : 2 ≤ n ∧ n ≤ 32 := by omega
  refine ⟨_, (pss_cons (ps_set (i := 4) sc_l_drawn_told.nd rfl (Or.inl rfl) (pe_lst pa_nil))
      (pss_cons (ps_for PassesOwn.never rfl (pi_range2 rfl T.m_range (pa_cons pe_int (pa_cons (pe_op op_mul pe_int (pv 1)) pa_nil))) (pg_name (i := 5) sc_l_drawn_told.nd rfl (Or.inl rfl)) (pss_cons (ps_set (i := 6) sc_l_drawn_told.nd rfl (Or.inl rfl) (pe_ifExp (PW.pt (pw_and (pt_val (pv 3)) (pw_and1 (pt_cmpR (op_gt) (pv 5) pe_int (nomark _))))) (pe_ix (ix_listK K) (pv 4) (pe_op op_sub (pe_op op_fdiv (pv 5) pe_int) pe_int) (fun _ _ => rfl)) (pv 2)))
      (pss_one (ps_expr (pe_bm PySem.F.plainAttrs_list PySem.F.slot_list_append PySem.F.type_list_append mt_append (pv 4) (pa_cons (pe_op op_sub (pv 6) (C8.pe_c (ok_l_draw T) hr (by decide) rfl (pa_cons (pv 0) (pa_cons (pe_op op_add (pv 6) pe_int) pa_nil)))) pa_nil))))))
      (pss_one (ps_ret (pv 4))))), ?_⟩
  refine ⟨le_small (Nat.le_of_ble_eq_true rfl), fun l hl => ?_⟩
  have po1 := Po.of hz (same_up (o := .lst []) hl)
  have hlz := hz.ne hl
  refine ⟨_, rfl, _, _, rfl, rfl, .inl ⟨by decide, by decide⟩, _, _, rfl, ⟨by decide, by decide, by omega, by omega⟩, ?_⟩
  refine for_range (fun i σ H' => ∃ z5 z6 ts, σ = [some (.ref z), some (.int n), some (.int c), some (.bl true), some (.ref l), z5, z6] ∧ H' l = some (.lst (iV ts)) ∧ ts.length = i ∧ (∀ x ∈ ts, 0 ≤ x ∧ x ≤ c) ∧ (∀ v : Int, 2 ≤ v → v ≤ i → lvl ts v ≤ lvl ts (v / 2)) ∧ Po z H H') ⟨none, none, [], rfl, upd_same, rfl, fun x h => (by cases h), fun v h1 h2 => (by omega), po1⟩ ?_ ?_
  · rintro i σ H1 hi ⟨z5, z6, ts, rfl, h1, h2, h3, h4, h5⟩
    have hts : (ts.length : Int) = i := by omega
    have fin : ∀ most : Int, 0 ≤ most → most ≤ c → (2 ≤ 1 + (i : Int) → most = lvl ts ((1 + (i : Int)) / 2)) →
        tDrop (tBM K "list" rAppend (tVar 4) (tCons (tOp (rI0 fun i j => .int (i - j)) (tVar 6) (tCall (spDraw K) [] C8.E0 (tCons (tVar 0) (tCons (tOp (rI0 fun i j => .int (i + j)) (tVar 6) (tC (.int 1))) tNil)))) tNil))
          { nx := fun σ H' => ∃ z5 z6 ts, σ = [some (.ref z), some (.int n), some (.int c), some (.bl true), some (.ref l), z5, z6] ∧ H' l = some (.lst (iV ts)) ∧ ts.length = i + 1 ∧ (∀ x ∈ ts, 0 ≤ x ∧ x ≤ c) ∧ (∀ v : Int, 2 ≤ v → v ≤ (i + 1 : Nat) → lvl ts v ≤ lvl ts (v / 2)) ∧ Po z H H', rt := Q } [some (.ref z), some (.int n), some (.int c), some (.bl true), some (.ref l), some (.int (1 + (i : Int))), some (.int most)] H1 := by
      intro most m0 m1 hm
      refine ⟨_, rfl, .inl ⟨rfl, _, sqL_at h1⟩, _, rfl, _, rfl, _, rfl, _, _, rfl, rfl, z, most + 1, rfl, h5.pool, by omega, by omega, fun r H2 r0 r1 po2 => ⟨_, _, rfl, rfl, ?_⟩⟩
      have h1' := po2.lst h1 hlz
      refine ⟨_, _, _, rfl, rfl, h1', small_of (by rw [iV_len]; omega), _, _, ts ++ [most - r], rfl, ?_, by rw [List.length_append, h2] <;> rfl, fun x hx => ?_, fun v hv1 hv2 => ?_, (h5.trans po2).up hz hl⟩
      · rw [upd_same, iV_app] <;> rfl
      · rcases List.mem_append.mp hx with h | h
        · exact h3 x h
        · rw [List.mem_singleton.mp h]
          omega
      · by_cases hlast : v = (i : Int) + 1
        · have e1 : lvl (ts ++ [most - r]) v = most - r := by
            rw [hlast, ← hts]
            exact lvl_app_last
          have e2 : lvl (ts ++ [most - r]) (v / 2) = lvl ts (v / 2) := lvl_app_le (by omega) (by omega)
          have e3 := hm (by omega)
          rw [e1, e2, hlast, show (i : Int) + 1 = 1 + (i : Int) by omega, ← e3]
          omega
        · rw [lvl_app_le (by omega) (by omega), lvl_app_le (by omega) (by omega)]
          exact h4 v hv1 (by omega)
    refine ⟨_, rfl, true, rfl, iteT ⟨_, rfl, _, _, rfl, rfl, _, rfl, ?_⟩⟩
    by_cases hi1 : 1 < 1 + (i : Int)
    · rw [decide_eq_true hi1]
      have hb := h3 _ (lvl_mem (ts := ts) (v := (1 + (i : Int)) / 2) (by omega) (by omega))
      exact iteT ⟨_, rfl, _, rfl, _, _, rfl, rfl, ⟨by decide, by decide⟩, _, _, rfl, rfl, _, _, _, _, rfl, rfl, sqL_at h1, atI_int (by omega) (by omega), fin _ hb.1 hb.2 fun _ => rfl⟩
    · rw [decide_eq_false hi1]
      exact iteF ⟨_, rfl, fin c (by omega) (Int.le_refl _) fun h => absurd h (by omega)⟩
  · rintro σ H1 ⟨z5, z6, ts, rfl, h1, h2, h3, h4, h5⟩
    refine ⟨_, rfl, q l ts H1 h5 hl h1 ⟨n5, by omega, c1, c2, h3⟩ fun v hv1 hv2 => h4 v hv1 (by omega)⟩
end


end
/-! part P23 -/
section
/-! ### the walk: the law's drawn parts -/
theorem tw_of {n c : Int} {D : Dk} {ts : List Int} (ok : DOk n c D) (hl : ts.length = D.base.length) (h : ∀ v : Int, 1 ≤ v → v ≤ D.base.length → WrittenIn D v (lvl ts v)) : TW n c ts := by
  refine ⟨ok.tw.n5, by rw [hl]; exact ok.tw.len, ok.tw.c1, ok.tw.c8, fun x hx => ?_⟩
  obtain ⟨v, v1, v2, rfl⟩ := mem_lvl hx
  rcases h v v1 (by omega) with h1 | ⟨u, hu, _, h3⟩
  · rw [h1]
    have := ok.tw.len
    exact ok.tw.lvl v1 (by omega)
  · rw [h3]
    exact (ok.row u hu).2.2
def wrD (w : Wr) : PyData := .tuple [.int w.1, .int w.2]
theorem wrs_dp {K : PySem.W.Frag} {H : Hp} : ∀ {xs : List V} {ws : List Wr}, WrsAt K H xs ws → DpAll K H xs (ws.map wrD)
  | _, _, .nil => .nil
  | _, _, .cons ⟨p, h1, h2⟩ t => by
    subst h1
    exact .cons (.tup h2 (.cons (.int _) (.cons (.int _) .nil))) (wrs_dp t)
theorem lay_wrs : ∀ ws : List Wr, PyData.canLayAll0 (ws.map wrD) = true
  | [] => by simp [PyData.canLayAll0]
  | w :: r => by simp [PyData.canLayAll0, PyData.canLay0, wrD, lay_wrs r]
theorem dep_wrs : ∀ ws : List Wr, PyData.depthAll (ws.map wrD) ≤ 2
  | [] => by simp [PyData.depthAll]
  | w :: r => by
    have := dep_wrs r
    simp only [List.map_cons, PyData.depthAll, PyData.depth, wrD]
    omega
theorem wrs_shaped (ws : List Wr) : SeqAt.shaped (.list (ws.map wrD)) = true :=
  shaped_of (by simp only [PyData.canLay0]; exact lay_wrs ws) (by have := dep_wrs ws; simp only [PyData.depth]; omega)
theorem wrs_ne (ws : List Wr) : (!PyData.eqv (.list (ws.map wrD)) (.list [])) = decide (0 < ws.length) := by
  cases ws with
  | nil => simp [PyData.eqv, PyData.eqvAll]
  | cons w r => simp [PyData.eqv, PyData.eqvAll]
section
variable {P : Program} {w : World} {K : PySem.W.Frag} {mg : Str → Option Value} {base : Heap}
def spSomeLeft (K : PySem.W.Frag) : Sp := fun vs H Q _ => ∃ z io d n c D, vs = [.ref z, ordV io, .ref d] ∧ PoolAt H z ∧ LDiskAt K (off H z) d D ∧ DOk n c D ∧ D.row.length ≤ 100000 ∧ ∀ x t H', Po z H H' → TupI K (off H' z) x t → TW n c t → Can io D t → Q x H'
theorem ok_l_some_left (T : Txt K mg) : C8.Cal P w K mg base 3 "_law_some_left" (spSomeLeft K) [] := by
  refine mkcal T.f_l_some_left sc_l_some_left (fun vs H Q E h => ?_) (fun _ _ _ _ _ _ us hl => match us, hl with | [_, _, _], _ => rfl) (fun f cdv A outer s H vs Q E hr h => ?_)
  · obtain ⟨z, io, d, n, c, D, rfl, hz, ⟨b, s, xs, hd, hb, hs, hw⟩, ok, hsz, q⟩ := h
    rfl
  obtain ⟨z, io, d, n, c, D, rfl, hz, ⟨b, s, xs, hd, hb, hs, hw⟩, ok, hsz, q⟩ := h
  have hxl : xs.length = D.row.length := Paired.length hw
  have hbl := ok.tw.len
  have hn := ok.tw.npos
  refine ⟨_, (pss_cons (ps_asg (pv 2) (pg_unl (n := 2) rfl (pgs_cons (pg_name (i := 3) sc_l_some_left.nd rfl (Or.inl rfl)) (pgs_cons (pg_name (i := 4) sc_l_some_left.nd rfl (Or.inl rfl)) pgs_nil))))
      (pss_cons (ps_if (pt_cmpR (op_eq) (pv 1) pe_str (nomark _)) (pss_one (ps_ret (pe_tupleOf rfl T.m_tuple (C8.pe_c (ok_l_write T) hr (by decide) rfl (pa_cons (pv 3) (pa_cons (pe_slice (sl_listK K) (pv 4) po_none (po_some (C8.pe_c (ok_l_draw T) hr (by decide) rfl (pa_cons (pv 0) (pa_cons (pe_op op_add (pe_callB (call_lenK K) (by rfl) T.m_len (by decide +kernel) (pa_cons (pv 4) pa_nil)) pe_int) pa_nil))))) pa_nil)))))) pss_nil)
      (pss_cons (ps_set (i := 5) sc_l_some_left.nd rfl (Or.inl rfl) (pe_lst pa_nil))
      (pss_cons (ps_for PassesOwn.never rfl (pi_range2 rfl T.m_range (pa_cons pe_int (pa_cons (pe_op op_add (pe_callB (call_lenK K) (by rfl) T.m_len (by decide +kernel) (pa_cons (pv 3) pa_nil)) pe_int) pa_nil))) (pg_name (i := 6) sc_l_some_left.nd rfl (Or.inr rfl)) (pss_one (ps_expr (pe_bm PySem.F.plainAttrs_list PySem.F.slot_list_append PySem.F.type_list_append mt_append (pv 5) (pa_cons (C8.pe_c (ok_l_pick T) hr (by decide) rfl (pa_cons (pv 0) (pa_cons (pe_op op_cat (pe_lst (pa_cons (pe_ix (ix_listK K) (pv 3) (pe_op op_sub (pv 6) pe_int) (fun _ _ => rfl)) pa_nil)) (pe_lc (own := [("_law_one", 7), ("_law_level", 8)]) (by rfl) sc_l_some_left.nd (pi_listK K (pv 4)) (blkOk_by (own := [("_law_one", 7), ("_law_level", 8)]) (N := n_l_some_left) (sc := defScope s_l_some_left) (by decide +kernel)) (fun _ _ _ _ _ => (pg_tupK K (n := 2) rfl (pgs_cons (pg_name (i := 7) sc_l_some_left.nd rfl (Or.inl rfl)) (pgs_cons (pg_name (i := 8) sc_l_some_left.nd rfl (Or.inl rfl)) pgs_nil)))) (fun _ _ _ _ _ => pts_one (pt_cmpR (op_eq) (pv 7) (pv 6) (nomark _))) (fun _ _ _ _ _ => (pv 8)))) pa_nil))) pa_nil)))))
      (pss_one (ps_ret (pe_tupleOf rfl T.m_tuple (pv 5)))))))), ?_⟩
  refine ⟨_, rfl, _, _, rfl, sqL_at (off_same _ _ hd), rfl, _, _, rfl, _, _, rfl, rfl, ?_⟩
  cases io with
  | true =>
    refine ⟨_, rfl, rfl, true, rfl, iteT ?_⟩
    refine ⟨_, rfl, _, rfl, _, rfl, _, rfl, _, _, rfl, .inl ⟨_, sqL_at (off_same _ _ hs), rfl⟩, _, _, rfl, rfl, z, _, rfl, hz, by omega, by omega, fun r H1 r0 r1 po1 => ⟨_, rfl, ?_⟩⟩
    have hs1 := po1.same _ _ hs
    have hb1 := po1.same _ _ hb
    refine ⟨s, xs, rfl, sqL_at (off_same _ _ hs1), fun sl hsl => ?_⟩
    have hcut : cutV xs none (some r) = xs.take r.toNat := by
      have e : r = (r.toNat : Int) := by omega
      rw [cutV, e, HT.sIx_nat, HT.sIx_none, List.drop_zero, Nat.sub_zero, Int.toNat_natCast, Nat.min_eq_left (by omega)]
    have e2 := same_up (o := .lst (cutV xs none (some r))) hsl
    have po2 := Po.of po1.pool e2
    have hsl2 := upd_same (H := H1) (a := sl) (o := .lst (cutV xs none (some r)))
    generalize upd H1 sl (.lst (cutV xs none (some r))) = H2 at e2 po2 hsl2 ⊢
    rw [hcut] at hsl2
    have po02 := po1.trans po2
    refine ⟨b, sl, D.base, D.row.take r.toNat, rfl, .inl (sqL_at (off_same _ _ (po02.same _ _ hb))), ⟨_, sqL_at hsl2, off_same.wrs (po02.same.wrs (Paired.take' _ hw))⟩, fun w' hw' => ok.le w' (List.mem_of_mem_take hw'), fun l H3 e3 hl0 hl => ?_⟩
    have po3 := Po.of po2.pool e3
    refine .inl ⟨l, _, rfl, sqL_at hl, fun t ht => ?_⟩
    have po4 := Po.of po3.pool (same_up (o := .tup (iV (puts D.base (D.row.take r.toNat)))) ht)
    refine q (.ref t) _ _ (po02.trans (po3.trans po4)) ⟨t, rfl, sqT_at ((off_ne (po3.pool.ne ht)).trans upd_same)⟩ (ok.tw.puts fun w' hw' => ok.row w' (List.mem_of_mem_take hw')) ⟨r.toNat, by omega, rfl⟩
  | false =>
    refine ⟨_, rfl, rfl, false, rfl, iteF ?_⟩
    refine ⟨le_small (Nat.le_of_ble_eq_true rfl), fun l hl => ?_⟩
    have po1 := Po.of hz (same_up (o := .lst []) hl)
    have hlz := hz.ne hl
    have hb1 := po1.same _ _ hb
    refine ⟨_, rfl, _, _, rfl, .inl ⟨_, sqL_at (off_same _ _ hb1), rfl⟩, _, _, rfl, rfl, _, _, rfl, ⟨by decide, by decide, by rw [iV_len]; omega, by rw [iV_len]; omega⟩, ?_⟩
    have hm : (((iV D.base).length : Int) + 1 - 1).toNat = D.base.length := by rw [iV_len]; omega
    rw [hm]
    refine for_range (fun i σ H' => ∃ z6 ts, σ = [some (.ref z), some (.str "anyhow"), some (.ref d), some (.ref b), some (.ref s), some (.ref l), z6, none, none] ∧ H' l = some (.lst (iV ts)) ∧ ts.length = i ∧ (∀ v : Int, 1 ≤ v → v ≤ i → WrittenIn D v (lvl ts v)) ∧ Po z H H') ⟨none, [], rfl, upd_same, rfl, fun v h1 h2 => (by omega), po1⟩ ?_ ?_
    · rintro i σ H1 hi ⟨z6, ts, rfl, h1, h2, h3, h4⟩
      have v1 : (1 : Int) ≤ 1 + (i : Int) := by omega
      have v2 : 1 + (i : Int) ≤ D.base.length := by omega
      have hvi : (1 : Int) + (i : Int) = (i : Int) + 1 := by omega
      generalize (1 : Int) + (i : Int) = v at v1 v2 hvi
      have hb2 := h4.same _ _ hb
      have hs2 := h4.same _ _ hs
      have hw2 := h4.same.wrs hw
      refine ⟨_, rfl, .inl ⟨rfl, _, sqL_at h1⟩, ?_⟩
      refine ⟨_, rfl, _, rfl, _, rfl, _, _, rfl, rfl, _, _, _, _, rfl, rfl, sqL_at (off_same _ _ hb2), atI_int v1 v2, le_small (Nat.le_of_ble_eq_true rfl), fun l1 hl1 => ?_⟩
      have e2 := same_up (o := .lst [.int (lvl D.base v)]) hl1
      have po2 := Po.of h4.pool e2
      have hl2 := upd_same (H := H1) (a := l1) (o := .lst [.int (lvl D.base v)])
      generalize upd H1 l1 (.lst [.int (lvl D.base v)]) = H2 at e2 po2 hl2 ⊢
      refine ⟨_, rfl, s, rfl, ⟨_, sqL_at (e2 _ _ (off_same _ _ hs2))⟩, fun L hL => ?_⟩
      refine lcF hL (Wk.list (sqL_at (e2 _ _ (off_same _ _ hs2)))) D.row (fun w => V.int w.2) (fun w => decide (w.1 = v)) hxl (small_of (by omega)) (fun k u x H3 k1 e y Nt Nf ht hf => ?_) (fun H3 e3 k1 => ?_)
      · obtain ⟨u', hu', pz, rfl, hpz⟩ := Paired.at hw2 y
        rw [k1] at hu'
        cases hu'
        refine ⟨_, _, rfl, (e2.trans e).sqT (off_same.sqT hpz), rfl, _, _, rfl, _, _, rfl, rfl, rfl, ?_⟩
        refine ⟨_, rfl, _, rfl, rfl, ?_⟩
        by_cases huv : u.1 = v
        · refine ⟨true, congrArg V.bl (decide_eq_true (congrArg V.int huv)), iteT ⟨_, rfl, ht _ (Same.refl _) (decide_eq_true huv)⟩⟩
        · refine ⟨false, congrArg V.bl (decide_eq_false fun z => huv ?_), iteF (hf _ (Same.refl _) (decide_eq_false huv))⟩
          injection z
      · have k2 : (D.row.filter fun w => decide (w.1 = v)).map (fun w => V.int w.2) = iV ((D.row.filter fun w => decide (w.1 = v)).map (·.2)) := (List.map_map ..).symm
        rw [k2] at k1
        have hfl := List.length_filter_le (fun w : Wr => decide (w.1 = v)) D.row
        refine ⟨l1, L, _, _, rfl, rfl, e3 _ _ hl2, k1, ?_, fun l4 hl4 => ?_⟩
        · rw [iV_len, List.length_map, sizeLine_eq]
          show 1 + _ ≤ _
          omega
        have hcat : [V.int (lvl D.base v)] ++ iV ((D.row.filter fun w => decide (w.1 = v)).map (·.2)) = iV (lvl D.base v :: (D.row.filter fun w => decide (w.1 = v)).map (·.2)) := rfl
        have po3 := Po.of po2.pool e3
        have po4 := Po.of po3.pool (same_up (o := .lst ([V.int (lvl D.base v)] ++ iV ((D.row.filter fun w => decide (w.1 = v)).map (·.2)))) hl4)
        have hlen4 : ([V.int (lvl D.base v)] ++ iV ((D.row.filter fun w => decide (w.1 = v)).map (·.2))).length = 1 + (D.row.filter fun w => decide (w.1 = v)).length := by rw [List.length_append, iV_len, List.length_map] <;> rfl
        have po14 := po2.trans (po3.trans po4)
        refine ⟨z, l4, _, rfl, po4.pool, sqL_at ((off_ne (po3.pool.ne hl4)).trans upd_same), by rw [hlen4]; omega, by rw [hlen4]; omega, fun j x H5 hj po5 => ?_⟩
        rw [hcat, List.getElem?_map] at hj
        obtain ⟨y, hy, rfl⟩ := Option.map_eq_some_iff.mp hj
        have hwr : WrittenIn D v y := by
          rcases List.mem_cons.mp (List.mem_of_getElem? hy) with h | h
          · exact .inl h
          · obtain ⟨u, hu, hu2⟩ := List.mem_map.mp h
            obtain ⟨hu3, hu4⟩ := List.mem_filter.mp hu
            exact .inr ⟨u, hu3, of_decide_eq_true hu4, hu2.symm⟩
        have po15 := po14.trans po5
        have h1' := po15.lst h1 hlz
        refine ⟨_, _, _, rfl, rfl, h1', small_of (by rw [iV_len]; omega), _, ts ++ [y], rfl, ?_, by rw [List.length_append, h2] <;> rfl, fun v' hv1 hv2 => ?_, (h4.trans po15).up hz hl⟩
        · rw [upd_same, iV_app] <;> rfl
        · by_cases hlast : v' = (i : Int) + 1
          · have : lvl (ts ++ [y]) v' = y := by
              rw [hlast, ← h2]
              exact lvl_app_last
            rw [this, hlast, ← hvi]
            exact hwr
          · rw [lvl_app_le hv1 (by omega)]
            exact h3 v' hv1 (by omega)
    · rintro σ H1 ⟨z6, ts, rfl, h1, h2, h3, h4⟩
      refine ⟨_, rfl, .inl ⟨l, _, rfl, sqL_at h1, fun t ht => ?_⟩⟩
      have po2 := Po.of h4.pool (same_up (o := .tup (iV ts)) ht)
      exact q (.ref t) ts _ (h4.trans po2) ⟨t, rfl, sqT_at ((off_ne (h4.pool.ne ht)).trans upd_same)⟩ (tw_of ok h2 h3) h3
def spDrawnPart (K : PySem.W.Frag) : Sp := fun vs H Q _ => ∃ z a n c d p D, vs = [.ref z, .ref a, .int n, .int c, .ref d] ∧ PoolAt H z ∧ off H z a = some (.lst (parV p)) ∧ LDiskAt K (off H z) d D ∧ DOk n c D ∧ D.row.length ≤ 9000 ∧ ∀ x g H', Po z H H' → PartAt K (off H' z) x g → PartOk p n c D g → Q x H'
theorem ok_l_drawn_part (T : Txt K mg) : C8.Cal P w K mg base 5 "_law_drawn_part" (spDrawnPart K) [] := by
  refine mkcal T.f_l_drawn_part sc_l_drawn_part (fun vs H Q E h => ?_) (fun _ _ _ _ _ _ us hl => match us, hl with | [_, _, _, _, _], _ => rfl) (fun f cdv A outer s H vs Q E hr h => ?_)
  · obtain ⟨z, a, n, c, d, p, D, rfl, hz, ha, hD, ok, hsz, q⟩ := h
    rfl
  obtain ⟨z, a, n, c, d, p, D, rfl, hz, ha, hD, ok, hsz, q⟩ := h
  have hn := ok.tw.npos
  refine ⟨_, (pss_cons (ps_par (i := 5) (j := 6) (by rfl) sc_l_drawn_part.nd rfl rfl (by decide) rfl rfl (pa_cons (C8.pe_c (ok_l_draw T) hr (by decide) rfl (pa_cons (pv 0) (pa_cons pe_int pa_nil))) (pa_cons (C8.pe_c (ok_l_drawn_deed T) hr (by decide) rfl (pa_cons (pv 0) (pa_cons (pv 2) (pa_cons (pv 3) pa_nil)))) pa_nil)) (by rfl))
      (pss_cons (ps_if (pt_cmpR (op_eq) (pv 5) pe_int (nomark _)) (pss_one (ps_ret (pe_tup (pa_cons pe_str pa_nil)))) pss_nil)
      (pss_cons (ps_if (pt_cmpR (op_eq) (pv 5) pe_int (nomark _)) (pss_one (ps_ret (pe_tup (pa_cons pe_str (pa_cons (C8.pe_c (ok_l_some_left T) hr (by decide) rfl (pa_cons (pv 0) (pa_cons (pe_ix (ix_listK K) (pv 1) pe_int (fun _ _ => rfl)) (pa_cons (pv 4) pa_nil)))) pa_nil))))) pss_nil)
      (pss_cons (ps_set (i := 7) sc_l_drawn_part.nd rfl (Or.inl rfl) (C8.pe_c (ok_l_deed_rows T) hr (by decide) rfl (pa_cons (pv 1) (pa_cons (C8.pe_c (ok_l_now T) hr (by decide) rfl (pa_cons (pv 4) pa_nil)) (pa_cons (pv 6) pa_nil)))))
      (pss_cons (ps_if (PW.pt (pw_and (pt_cmpR (op_lt) (pv 5) pe_int (nomark _)) (pw_and1 (pt_cmpR (op_neD hr.units) (pv 7) (pe_lst pa_nil) (nomark _))))) (pss_cons (ps_set (i := 8) sc_l_drawn_part.nd rfl (Or.inl rfl) (pe_op op_add pe_int (C8.pe_c (ok_l_draw T) hr (by decide) rfl (pa_cons (pv 0) (pa_cons (pe_callB (call_lenK K) (by rfl) T.m_len (by decide +kernel) (pa_cons (pv 7) pa_nil)) pa_nil)))))
      (pss_cons (ps_set (i := 9) sc_l_drawn_part.nd rfl (Or.inl rfl) (C8.pe_c (ok_l_after T) hr (by decide) rfl (pa_cons (pv 1) (pa_cons (pv 4) (pa_cons (pe_slice (sl_listK K) (pv 7) po_none (po_some (pv 8))) (pa_cons (pe_ix (ix_tupK K) (pv 6) pe_int (fun _ _ => rfl)) (pa_cons pe_bl pa_nil)))))))
      (pss_one (ps_ret (pe_tup (pa_cons pe_str (pa_cons (pv 6) (pa_cons (pv 8) (pa_cons (C8.pe_c (ok_l_some_left T) hr (by decide) rfl (pa_cons (pv 0) (pa_cons (pe_ix (ix_listK K) (pv 1) pe_int (fun _ _ => rfl)) (pa_cons (pv 9) pa_nil)))) pa_nil))))))))) pss_nil)
      (pss_one (ps_ret (pv 6)))))))), ?_⟩
  refine ⟨_, rfl, z, 8, rfl, hz, by decide, by decide, fun r H1 r0 r1 po1 => ?_⟩
  refine ⟨_, rfl, _, rfl, _, rfl, z, n, c, rfl, po1.pool, by omega, by omega, ok.tw.c1, ok.tw.c8, fun x dd H2 po2 hdd okd => ⟨_, _, rfl, ?_⟩⟩
  have po02 := po1.trans po2
  refine ⟨_, rfl, rfl, ?_⟩
  by_cases hr0 : r = 0
  · refine ⟨true, congrArg V.bl (decide_eq_true (congrArg V.int hr0)), iteT ⟨le_small (Nat.le_of_ble_eq_true rfl), fun t ht => ?_⟩⟩
    have po3 := Po.of po02.pool (same_up (o := .tup [.str "flush"]) ht)
    exact q (.ref t) .flush _ (po02.trans po3) ⟨t, rfl, sqT_at ((off_ne (po02.pool.ne ht)).trans upd_same)⟩ True.intro
  refine ⟨false, congrArg V.bl (decide_eq_false fun h => hr0 (by injection h)), iteF ?_⟩
  refine ⟨_, rfl, rfl, ?_⟩
  by_cases hr1 : r = 1
  · refine ⟨true, congrArg V.bl (decide_eq_true (congrArg V.int hr1)), iteT ?_⟩
    refine ⟨_, rfl, _, rfl, _, _, _, _, rfl, rfl, sqL_at (off_same _ _ (po02.same _ _ ha)), (show atI _ (4 : Int) = some (ordV p.io) from rfl), _, rfl, z, p.io, d, n, c, D, rfl, po02.pool, po02.same.ldisk hD, ok, by omega, fun y t H3 po3 hy tw hc => ⟨le_small (Nat.le_of_ble_eq_true rfl), fun tp htp => ?_⟩⟩
    have e4 := same_up (o := .tup [.str "crash", y]) htp
    have po4 := Po.of po3.pool e4
    exact q (.ref tp) (.crash t) _ (po02.trans (po3.trans po4)) ⟨tp, y, rfl, sqT_at ((off_ne (po3.pool.ne htp)).trans upd_same), po4.same.tupI hy⟩ ⟨tw, hc⟩
  refine ⟨false, congrArg V.bl (decide_eq_false fun h => hr1 (by injection h)), iteF ?_⟩
  have hD2 := po02.same.ldisk hD
  refine ⟨_, rfl, _, rfl, d, n, c, D, rfl, off_same.ldisk hD2, ok, fun nw H3 e3 hnw0 hnw => ?_⟩
  have po3 := Po.of po02.pool e3
  have po03 := po02.trans po3
  refine ⟨_, rfl, a, nw, x, p, n, c, D.now, dd, rfl, sqL_at (off_same _ _ (po03.same _ _ ha)), sqL_at hnw, ok.now, off_same.deed (po3.same.deed hdd), okd, fun l xs H4 e4 hl0 hl hw => ?_⟩
  have po4 := Po.of po3.pool e4
  have po04 := po03.trans po4
  have hlz := po3.pool.ne hl0
  have hlen : xs.length = (rows p n D.now dd).length := Paired.length hw
  obtain ⟨ok1, ok2⟩ := rows_ok (p := p) ok.now okd
  have hdd4 := (po3.trans po4).same.deed hdd
  have fin : ∀ H5, Po z H4 H5 → Q x H5 := fun H5 po5 => q x (.deed dd) H5 (po04.trans po5) (po5.same.deed hdd4) okd
  refine ⟨_, rfl, _, _, rfl, rfl, _, rfl, ?_⟩
  by_cases hr4 : r < 4
  · rw [decide_eq_true hr4]
    refine iteT ?_
    refine ⟨_, rfl, le_small (Nat.le_of_ble_eq_true rfl), fun em hem => ?_⟩
    have e5 := same_up (o := .lst []) hem
    have po5 := Po.of po4.pool e5
    have hl5 := e5 _ _ hl
    have hem5 := upd_same (H := H4) (a := em) (o := .lst [])
    generalize upd H4 em (.lst []) = H5 at e5 po5 hl5 hem5 ⊢
    have hw5 := e5.wrs hw
    refine ⟨.list ((rows p n D.now dd).map wrD), .list [], .lst (sqL_at hl5) (wrs_dp hw5), .lst (sqL_at hem5) .nil, wrs_shaped _, by decide +kernel, ?_⟩
    rw [show (!PyData.eqv (.list ((rows p n D.now dd).map wrD)) (.list [])) = decide (0 < (rows p n D.now dd).length) from wrs_ne _]
    by_cases hrow : 0 < (rows p n D.now dd).length
    · rw [decide_eq_true hrow]
      refine ⟨true, rfl, iteT ?_⟩
      refine ⟨_, rfl, _, rfl, _, _, rfl, .inl ⟨_, sqL_at hl5, rfl⟩, z, _, rfl, po5.pool, by omega, by omega, fun k H6 k0 k1 po6 => ⟨_, _, rfl, rfl, ?_⟩⟩
      have po56 := po5.trans po6
      have po06 := po04.trans po56
      have hl6 := po6.lst hl5 hlz
      have hw6 : WrsAt K (off H6 z) xs (rows p n D.now dd) := po6.same.wrs (by
        obtain ⟨zx, zy, hzp⟩ := po5.pool
        exact wrs_off hzp hw5)
      have hkk : (1 : Int) ≤ 1 + k := by omega
      have hkk2 : 1 + k ≤ (rows p n D.now dd).length := by omega
      have hdd6 := po56.same.deed hdd4
      obtain ⟨pd, rfl, hpd⟩ := id hdd6
      refine ⟨_, rfl, _, rfl, _, rfl, _, rfl, _, rfl, _, _, rfl, sqL_at hl6, fun sl hsl => ?_⟩
      have hcut : cutV xs none (some (1 + k)) = xs.take (1 + k).toNat := by
        have e : (1 + k) = ((1 + k).toNat : Int) := by omega
        rw [cutV, e, HT.sIx_nat, HT.sIx_none, List.drop_zero, Nat.sub_zero, Int.toNat_natCast, Nat.min_eq_left (by omega)]
      have e7 := same_up (o := .lst (cutV xs none (some (1 + k)))) hsl
      have po7 := Po.of po6.pool e7
      have hsl2 := upd_same (H := H6) (a := sl) (o := .lst (cutV xs none (some (1 + k))))
      generalize upd H6 sl (.lst (cutV xs none (some (1 + k)))) = H7 at e7 po7 hsl2 ⊢
      rw [hcut] at hsl2
      have po07 := po06.trans po7
      obtain ⟨zx, zy, hz7⟩ := id po7.pool
      refine ⟨_, rfl, _, _, _, _, rfl, rfl, off_same.sqT (po7.same.sqT hpd), (show atI _ (0 : Int) = some (wordV dd.up) from rfl), a, d, sl, dd.up, false, p, n, c, D, (rows p n D.now dd).take (1 + k).toNat, z, _, rfl, sqL_at (off_same _ _ (po07.same _ _ ha)), hz7, po07.same.ldisk hD, ok, ⟨_, sqL_at hsl2, off_same.wrs (po7.same.wrs (Paired.take' _ hw6))⟩, fun w' hw' => ok2 w' (List.mem_of_mem_take hw'), by rw [List.length_take]; omega, fun d' H8 e8 hd0 hd' => ?_⟩
      have po8 := Po.of po7.pool e8
      rw [aftI_cutAt hkk hkk2] at hd'
      have hcok : DOk n c (cutAt (p.fls dd) D (rows p n D.now dd) (1 + k)) := cutAt_ok ok ok2
      have hclen := cutAt_len (f := p.fls dd) (D := D) (ws := rows p n D.now dd) (k := (1 + k))
      have po08 := po07.trans po8
      refine ⟨_, rfl, _, rfl, _, rfl, _, rfl, _, _, _, _, rfl, rfl, sqL_at (off_same _ _ (po08.same _ _ ha)), (show atI _ (4 : Int) = some (ordV p.io) from rfl), _, rfl, z, p.io, d', n, c, cutAt (p.fls dd) D (rows p n D.now dd) (1 + k), rfl, po8.pool, hd', hcok, by omega, fun y t H9 po9 hy tw hc => ⟨le_small (Nat.le_of_ble_eq_true rfl), fun tp htp => ?_⟩⟩
      have e10 := same_up (o := .tup [.str "cut", .ref pd, .int (1 + k), y]) htp
      have po10 := Po.of po9.pool e10
      exact q (.ref tp) (.cut dd (1 + k) t) _ (po08.trans (po9.trans po10)) ⟨tp, .ref pd, y, rfl, sqT_at ((off_ne (po9.pool.ne htp)).trans upd_same), (po7.trans (po8.trans (po9.trans po10))).same.deed hdd6, po10.same.tupI hy⟩ ⟨okd, hkk, hkk2, tw, hc⟩
    · rw [decide_eq_false hrow]
      exact ⟨false, rfl, iteF ⟨_, rfl, fin _ po5⟩⟩
  · rw [decide_eq_false hr4]
    exact iteF (iteF ⟨_, rfl, fin _ (Po.refl po4.pool)⟩)
end


end
/-! part P24 -/
section
/-! ### plain: what stays upright -/
theorem lvl_put {ts : List Int} {w : Wr} {u : Int} (h1 : 1 ≤ w.1) (h2 : w.1 ≤ ts.length) (hu : 1 ≤ u) : lvl (put ts w) u = if u = w.1 then w.2 else lvl ts u := by
  unfold lvl put
  rw [List.getD_eq_getElem?_getD, List.getD_eq_getElem?_getD, List.getElem?_set]
  by_cases h : u = w.1
  · rw [if_pos h, h, if_pos rfl, if_pos (by omega)] <;> rfl
  · rw [if_neg h, if_neg (by omega)]
def PrefUp (n : Int) (ts : List Int) (ws : List Wr) : Prop := ∀ i, i ≤ ws.length → Up n (puts ts (ws.take i))
theorem PrefUp.nil {n : Int} {ts : List Int} (h : Up n ts) : PrefUp n ts [] := fun i _ => by
  rw [List.take_nil]
  exact h
theorem PrefUp.full {n : Int} {ts : List Int} {ws : List Wr} (h : PrefUp n ts ws) : Up n (puts ts ws) := by
  have := h ws.length (Nat.le_refl _)
  rwa [List.take_length] at this
theorem PrefUp.cons {n : Int} {ts : List Int} {w : Wr} {ws : List Wr} (h : Up n ts) (h2 : PrefUp n (put ts w) ws) : PrefUp n ts (w :: ws) := fun i hi => by
  cases i with
  | zero => exact h
  | succ i => exact h2 i (by simpa using hi)
theorem PrefUp.snoc {n : Int} {ts : List Int} {w : Wr} {ws : List Wr} (h : PrefUp n ts ws) (h2 : Up n (put (puts ts ws) w)) : PrefUp n ts (ws ++ [w]) := fun i hi => by
  by_cases hl : i ≤ ws.length
  · rw [List.take_append_of_le_length hl]
    exact h i hl
  · have e : i = (ws ++ [w]).length := by
      rw [List.length_append] at hi ⊢
      simp at hi ⊢
      omega
    rw [e, List.take_length, puts_snoc]
    exact h2
theorem raise_up {n c : Int} {ts : List Int} (tw : TW n c ts) (hu : Up n ts) (l : Int) : ∀ (k : Nat) {x : Int}, x.toNat ≤ k → x < 2 * n →
    PrefUp n ts (((up x).reverse.filter fun v => decide (lvl ts v < l)).map fun v => (v, l)) ∧ (∀ u ∈ up x, l ≤ lvl (puts ts (((up x).reverse.filter fun v => decide (lvl ts v < l)).map fun v => (v, l))) u) ∧
      (∀ u : Int, x < u → 1 ≤ u → lvl (puts ts (((up x).reverse.filter fun v => decide (lvl ts v < l)).map fun v => (v, l))) u = lvl ts u)
  | k, x, hk, hx => by
    have htl := tw.len
    by_cases h1 : x < 1
    · rw [up_neg h1]
      exact ⟨.nil hu, fun u h => (by cases h), fun _ _ _ => rfl⟩
    · cases k with
      | zero => omega
      | succ k =>
        obtain ⟨i1, i2, i3⟩ := raise_up tw hu l k (x := x / 2) (by omega) (by omega)
        rw [up_pos (by omega), List.reverse_cons, List.filter_append, List.map_append]
        generalize hF : (((up (x / 2)).reverse.filter fun v => decide (lvl ts v < l)).map fun v => ((v, l) : Wr)) = F at i1 i2 i3
        have hFl : (puts ts F).length = ts.length := puts_length
        by_cases hl : lvl ts x < l
        · rw [List.filter_cons_of_pos (by simpa using hl), List.filter_nil, List.map_cons, List.map_nil, puts_snoc]
          have hput : ∀ u : Int, 1 ≤ u → lvl (put (puts ts F) (x, l)) u = if u = x then l else lvl (puts ts F) u := fun u hu1 => lvl_put (w := (x, l)) (by show 1 ≤ x; omega) (by show x ≤ _; omega) hu1
          have hupF := i1.full
          refine ⟨i1.snoc fun v v2 vn => ?_, fun u h => ?_, fun u hxu hu1 => ?_⟩
          · rw [hput v (by omega), hput (v / 2) (by omega)]
            by_cases hvx : v = x
            · rw [if_pos hvx, if_neg (by omega), hvx]
              exact i2 _ (by rw [up_pos (by omega)]; exact List.mem_cons_self ..)
            · rw [if_neg hvx]
              by_cases hv2 : v / 2 = x
              · rw [if_pos hv2]
                have h3 := i3 v (by omega) (by omega)
                have h4 := hu v v2 vn
                rw [hv2] at h4
                omega
              · rw [if_neg hv2]
                exact hupF v v2 vn
          · rcases List.mem_cons.mp h with rfl | h
            · rw [hput u (by omega), if_pos rfl]
              exact Int.le_refl _
            · have hb := up_mem _ (Nat.le_refl _) h
              rw [hput u (by omega), if_neg (by omega)]
              exact i2 u h
          · rw [hput u hu1, if_neg (by omega)]
            exact i3 u (by omega) hu1
        · rw [List.filter_cons_of_neg (by simpa using hl), List.filter_nil, List.map_nil, List.append_nil]
          refine ⟨i1, fun u h => ?_, fun u hxu hu1 => i3 u (by omega) hu1⟩
          rcases List.mem_cons.mp h with rfl | h
          · rw [i3 u (by omega) (by omega)]
            omega
          · exact i2 u h
theorem raiseRow_up {n c : Int} {ts : List Int} (tw : TW n c ts) (hu : Up n ts) {p l : Int} (p2 : p < n) : PrefUp n ts (raiseRow ts n p l) :=
  (raise_up tw hu l _ (Nat.le_refl _) (x := n + p) (by omega)).1
theorem lowUp_up {n c : Int} : ∀ (k : Nat) {ts : List Int} {v : Int}, v.toNat ≤ k → v < n → TW n c ts → Up n ts → PrefUp n ts (lowUp ts v)
  | k, ts, v, hk, hv, tw, hu => by
    have htl := tw.len
    by_cases h1 : v < 1
    · rw [lowUp_neg h1]; exact .nil hu
    · cases k with
      | zero => omega
      | succ k =>
        by_cases hg : gr ts v < lvl ts v
        · rw [lowUp_lt (by omega) hg]
          have hput : ∀ u : Int, 1 ≤ u → lvl (put ts (v, gr ts v)) u = if u = v then gr ts v else lvl ts u := fun u hu1 => lvl_put (w := (v, gr ts v)) (by show 1 ≤ v; omega) (by show v ≤ _; omega) hu1
          refine .cons hu (lowUp_up k (by omega) (by omega) (tw.put (gr_bound tw (by omega) hv)) fun u u2 un => ?_)
          rw [hput u (by omega), hput (u / 2) (by omega)]
          have h3 := hu u u2 un
          by_cases huv : u = v
          · rw [if_pos huv, if_neg (by omega)]
            rw [huv] at h3 ⊢
            omega
          · rw [if_neg huv]
            by_cases hu2 : u / 2 = v
            · rw [if_pos hu2]
              have : u = 2 * v ∨ u = 2 * v + 1 := by omega
              unfold gr
              rcases this with h | h <;> rw [h] <;> split <;> omega
            · rw [if_neg hu2]
              exact h3
        · rw [lowUp_ge (by omega) hg]
          exact lowUp_up k (by omega) (by omega) tw hu
theorem lowRow_up {n c : Int} {ts : List Int} (tw : TW n c ts) (hu : Up n ts) {v l : Int} (v1 : n ≤ v) (v2 : v < 2 * n) (l1 : 0 ≤ l) (l2 : l ≤ c) : PrefUp n ts (lowRow ts v l) := by
  have hn := tw.npos
  have htl := tw.len
  unfold lowRow
  split
  · exact .nil hu
  · rename_i h
    have hput : ∀ u : Int, 1 ≤ u → lvl (put ts (v, l)) u = if u = v then l else lvl ts u := fun u hu1 => lvl_put (w := (v, l)) (by show 1 ≤ v; omega) (by show v ≤ _; omega) hu1
    refine .cons hu (lowUp_up _ (Nat.le_refl _) (by omega) (tw.put ⟨l1, l2⟩) fun u u2 un => ?_)
    rw [hput u (by omega), hput (u / 2) (by omega)]
    have h3 := hu u u2 un
    by_cases huv : u = v
    · rw [if_pos huv, if_neg (by omega)]
      rw [huv] at h3 ⊢
      omega
    · rw [if_neg huv, if_neg (by omega)]
      exact h3
/-! nodes of a row are apart: written backwards it tells the same -/
theorem put_comm {ts : List Int} {w u : Wr} (h1 : 1 ≤ w.1) (h2 : 1 ≤ u.1) (h : w.1 ≠ u.1) : put (put ts w) u = put (put ts u) w := by
  unfold put
  exact List.set_comm _ _ (by omega)
theorem puts_put {w : Wr} (h1 : 1 ≤ w.1) : ∀ {ws : List Wr} {ts : List Int}, (∀ u ∈ ws, 1 ≤ u.1 ∧ u.1 ≠ w.1) → puts (put ts w) ws = put (puts ts ws) w
  | [], _, _ => rfl
  | u :: ws, ts, h => by
    obtain ⟨h2, h3⟩ := h u (List.mem_cons_self ..)
    show puts (put (put ts w) u) ws = put (puts (put ts u) ws) w
    rw [put_comm h1 h2 (Ne.symm h3)]
    exact puts_put h1 fun x hx => h x (List.mem_cons_of_mem _ hx)
theorem puts_rev : ∀ {ws : List Wr} {ts : List Int}, (∀ w ∈ ws, 1 ≤ w.1) → ws.Pairwise (fun a b => a.1 ≠ b.1) → puts ts ws.reverse = puts ts ws
  | [], _, _, _ => rfl
  | w :: ws, ts, h, hp => by
    obtain ⟨p1, p2⟩ := List.pairwise_cons.mp hp
    have h1 := h w (List.mem_cons_self ..)
    rw [List.reverse_cons, puts_snoc, puts_rev (fun u hu => h u (List.mem_cons_of_mem _ hu)) p2]
    exact (puts_put h1 fun u hu => ⟨h u (List.mem_cons_of_mem _ hu), Ne.symm (p1 u hu)⟩).symm
theorem up_sorted : ∀ (k : Nat) {x : Int}, x.toNat ≤ k → (up x).Pairwise (· > ·)
  | k, x, hk => by
    by_cases h1 : x < 1
    · rw [up_neg h1]; exact .nil
    · cases k with
      | zero => omega
      | succ k =>
        rw [up_pos (by omega)]
        refine List.pairwise_cons.mpr ⟨fun u hu => ?_, up_sorted k (by omega)⟩
        have := up_mem _ (Nat.le_refl _) hu
        omega
theorem raiseRow_apart {ts : List Int} {n p l : Int} : (raiseRow ts n p l).Pairwise (fun a b => a.1 ≠ b.1) := by
  unfold raiseRow way
  refine List.pairwise_map.mpr (List.Pairwise.filter _ (List.pairwise_reverse.mpr ((up_sorted _ (Nat.le_refl _)).imp fun h => ?_)))
  show _ ≠ _
  omega
theorem lowUp_lt_of : ∀ (k : Nat) {ts : List Int} {v : Int}, v.toNat ≤ k → ∀ w ∈ lowUp ts v, 1 ≤ w.1 ∧ w.1 ≤ v
  | k, ts, v, hk, w, hw => by
    by_cases h1 : v < 1
    · rw [lowUp_neg h1] at hw; cases hw
    · cases k with
      | zero => omega
      | succ k =>
        by_cases hg : gr ts v < lvl ts v
        · rw [lowUp_lt (by omega) hg] at hw
          rcases List.mem_cons.mp hw with rfl | hw
          · exact ⟨by show 1 ≤ v; omega, Int.le_refl _⟩
          · have := lowUp_lt_of k (by omega) w hw
            omega
        · rw [lowUp_ge (by omega) hg] at hw
          have := lowUp_lt_of k (by omega) w hw
          omega
theorem lowUp_apart : ∀ (k : Nat) {ts : List Int} {v : Int}, v.toNat ≤ k → (lowUp ts v).Pairwise (fun a b => a.1 ≠ b.1)
  | k, ts, v, hk => by
    by_cases h1 : v < 1
    · rw [lowUp_neg h1]; exact .nil
    · cases k with
      | zero => omega
      | succ k =>
        by_cases hg : gr ts v < lvl ts v
        · rw [lowUp_lt (by omega) hg]
          refine List.pairwise_cons.mpr ⟨fun u hu => ?_, lowUp_apart k (by omega)⟩
          have := lowUp_lt_of _ (Nat.le_refl _) u hu
          show v ≠ u.1
          omega
        · rw [lowUp_ge (by omega) hg]
          exact lowUp_apart k (by omega)
theorem lowRow_apart {ts : List Int} {v l : Int} (h : 1 ≤ v) : (lowRow ts v l).Pairwise (fun a b => a.1 ≠ b.1) := by
  unfold lowRow
  split
  · exact .nil
  · refine List.pairwise_cons.mpr ⟨fun u hu => ?_, lowUp_apart _ (Nat.le_refl _)⟩
    have := lowUp_lt_of _ (Nat.le_refl _) u hu
    show v ≠ u.1
    omega
theorem rows_full {p : Par} {n c : Int} {ts : List Int} {d : Deed} (tw : TW n c ts) (hu : Up n ts) (hd : DeedOk n c d) : Up n (puts ts (rows p n ts d)) := by
  obtain ⟨p1, p2, l1, l2⟩ := id hd
  have hn := tw.npos
  have hr := (raiseRow_up tw hu (p := d.page) (l := d.lv) p2).full
  have hl := (lowRow_up tw hu (v := n + d.page) (l := d.lv) (by omega) (by omega) l1 l2).full
  unfold rows
  split
  · split
    · exact hr
    · rw [puts_rev (fun w hw => ((raise_ok tw hd).2 w hw).1) raiseRow_apart]
      exact hr
  · split
    · rw [puts_rev (fun w hw => ((low_ok tw (by omega) (by omega) l1 l2).2 w hw).1) (lowRow_apart (by omega))]
      exact hl
    · exact hl
theorem rows_pref {p : Par} {n c : Int} {ts : List Int} {d : Deed} (tw : TW n c ts) (hu : Up n ts) (hd : DeedOk n c d) (h1 : p.ra = true) (h2 : p.la = false) : PrefUp n ts (rows p n ts d) := by
  obtain ⟨p1, p2, l1, l2⟩ := id hd
  have hn := tw.npos
  unfold rows
  rw [h1, h2, if_pos rfl, if_neg Bool.false_ne_true]
  split
  · exact raiseRow_up tw hu p2
  · exact lowRow_up tw hu (by omega) (by omega) l1 l2
/-! the cleaning makes upright -/
theorem mendTo_tw {n c : Int} : ∀ (k : Nat) {ts : List Int}, (k : Int) < n → TW n c ts → TW n c (mendTo k ts)
  | 0, _, _, tw => tw
  | k + 1, ts, hk, tw => mendTo_tw k (by omega) (tw.put (gr_bound tw (by omega) (by omega)))
theorem gr_put_other {ts : List Int} {w : Wr} {u : Int} (h1 : 1 ≤ w.1) (h2 : w.1 ≤ ts.length) (hu : 1 ≤ u) (h3 : 2 * u ≠ w.1) (h4 : 2 * u + 1 ≠ w.1) : gr (put ts w) u = gr ts u := by
  unfold gr
  rw [lvl_put h1 h2 (by omega), lvl_put h1 h2 (by omega), if_neg h3, if_neg h4]
theorem mendTo_gr {n c : Int} : ∀ (k : Nat) {ts : List Int}, (k : Int) < n → TW n c ts → (∀ u : Int, (k : Int) < u → u < n → lvl ts u = gr ts u) → ∀ u : Int, 1 ≤ u → u < n → lvl (mendTo k ts) u = gr (mendTo k ts) u
  | 0, _, _, _, h => fun u h1 h2 => h u (by omega) h2
  | k + 1, ts, hk, tw, h => by
    have htl := tw.len
    refine mendTo_gr k (by omega) (tw.put (gr_bound tw (by omega) (by omega))) fun u h1 h2 => ?_
    have hput : ∀ x : Int, 1 ≤ x → lvl (put ts (((k + 1 : Nat) : Int), gr ts ((k + 1 : Nat) : Int))) x = if x = ((k + 1 : Nat) : Int) then gr ts ((k + 1 : Nat) : Int) else lvl ts x := fun x hx => lvl_put (w := (((k + 1 : Nat) : Int), gr ts ((k + 1 : Nat) : Int))) (by show (1 : Int) ≤ ((k + 1 : Nat) : Int); omega) (by show ((k + 1 : Nat) : Int) ≤ _; omega) hx
    have hgr := gr_put_other (ts := ts) (w := (((k + 1 : Nat) : Int), gr ts ((k + 1 : Nat) : Int))) (u := u) (by show (1 : Int) ≤ ((k + 1 : Nat) : Int); omega) (by show ((k + 1 : Nat) : Int) ≤ _; omega) (by omega) (by show 2 * u ≠ ((k + 1 : Nat) : Int); omega) (by show 2 * u + 1 ≠ ((k + 1 : Nat) : Int); omega)
    rw [hgr, hput u (by omega)]
    by_cases hu : u = ((k + 1 : Nat) : Int)
    · rw [if_pos hu, hu]
    · rw [if_neg hu]
      exact h u (by omega) h2
theorem mend_up {n c : Int} {ts : List Int} (tw : TW n c ts) : TW n c (mend n ts) ∧ Up n (mend n ts) := by
  have hn := tw.npos
  refine ⟨mendTo_tw _ (by omega) tw, fun v v2 vn => ?_⟩
  have h := mendTo_gr (n - 1).toNat (by omega) tw (fun u h1 h2 => by omega) (v / 2) (by omega) (by omega)
  show lvl (mendTo (n - 1).toNat ts) v ≤ lvl (mendTo (n - 1).toNat ts) (v / 2)
  rw [h]
  have : v = 2 * (v / 2) ∨ v = 2 * (v / 2) + 1 := by omega
  unfold gr
  rcases this with e | e
  · rw [← e]
    split <;> omega
  · rw [← e]
    split <;> omega
/-! runs -/
theorem aft1_now {f : Bool} {D : Dk} {w : Wr} : (aft1 f D w).now = put D.now w := by
  cases f
  · show puts D.base (D.row ++ [w]) = _
    rw [puts_snoc] <;> rfl
  · show puts (puts D.base (D.row ++ [w])) [] = _
    rw [puts_snoc] <;> rfl
theorem afts_now {f : Bool} : ∀ {ws : List Wr} {D : Dk}, (afts f D ws).now = puts D.now ws
  | [], _ => rfl
  | w :: ws, D => by
    show (afts f (aft1 f D w) ws).now = puts (put D.now w) ws
    rw [afts_now, aft1_now]
/-- what the disk can have in order is upright -/
def IoUp (n : Int) (D : Dk) : Prop := PrefUp n D.base D.row
/-- .. anyhow: nothing is pending -/
def AnyUp (n : Int) (D : Dk) : Prop := D.row = [] ∧ Up n D.base
theorem IoUp.aft1 {n : Int} {f : Bool} {D : Dk} {w : Wr} (h : IoUp n D) (h2 : Up n (put D.now w)) : IoUp n (aft1 f D w) := by
  cases f
  · exact PrefUp.snoc h h2
  · refine PrefUp.nil ?_
    show Up n (puts D.base (D.row ++ [w]))
    rw [puts_snoc]
    exact h2
theorem IoUp.afts {n : Int} {f : Bool} : ∀ {ws : List Wr} {D : Dk}, IoUp n D → PrefUp n D.now ws → IoUp n (afts f D ws)
  | [], _, h, _ => h
  | w :: ws, D, h, hp => by
    refine IoUp.afts (ws := ws) (h.aft1 (hp 1 (by simp))) fun i hi => ?_
    rw [aft1_now]
    exact hp (i + 1) (by simpa using hi)
theorem IoUp.cutAt {n : Int} {f : Bool} {ws : List Wr} {D : Dk} {k : Int} (h : IoUp n D) (hp : PrefUp n D.now ws) : IoUp n (cutAt f D ws k) := by
  unfold R47.cutAt
  cases e : ws[(k - 1).toNat]? with
  | none => exact h
  | some w =>
    have hk := (List.getElem?_eq_some_iff.mp e).1
    refine IoUp.aft1 (f := false) (h.afts fun i hi => ?_) ?_
    · rw [List.length_take] at hi
      rw [List.take_take, Nat.min_eq_left (by omega)]
      exact hp i (by omega)
    · rw [afts_now, ← puts_snoc, ← take_snoc e]
      exact hp _ (by omega)
theorem AnyUp.afts {n : Int} : ∀ {ws : List Wr} {D : Dk}, AnyUp n D → PrefUp n D.now ws → AnyUp n (afts true D ws)
  | [], _, h, _ => h
  | w :: ws, D, h, hp => by
    have h1 : AnyUp n (R47.aft1 true D w) := by
      refine ⟨rfl, ?_⟩
      show Up n (puts D.base (D.row ++ [w]))
      rw [puts_snoc]
      exact hp 1 (by simp)
    refine AnyUp.afts (ws := ws) h1 fun i hi => ?_
    rw [aft1_now]
    exact hp (i + 1) (by simpa using hi)
theorem ext_lvl {a b : List Int} (hl : a.length = b.length) (h : ∀ v : Int, 1 ≤ v → v ≤ a.length → lvl a v = lvl b v) : a = b := by
  refine List.ext_getElem hl fun i h1 h2 => ?_
  have := h ((i : Int) + 1) (by omega) (by omega)
  unfold lvl at this
  rw [List.getD_eq_getElem?_getD, List.getD_eq_getElem?_getD, show ((i : Int) + 1 - 1).toNat = i by omega, List.getElem?_eq_getElem h1, List.getElem?_eq_getElem h2] at this
  exact this
theorem can_io {n : Int} {D : Dk} {t : List Int} (h : IoUp n D) (hc : Can true D t) : Up n t := by
  obtain ⟨i, hi, rfl⟩ := hc
  exact h i hi
theorem can_any0 {n c : Int} {D : Dk} {t : List Int} (ok : DOk n c D) (h : AnyUp n D) (tw : TW n c t) (hc : Can false D t) : Up n t := by
  have e : t = D.base := by
    have h1 := tw.len
    have h2 := ok.tw.len
    refine ext_lvl (by omega) fun v v1 v2 => ?_
    rcases (show ∀ v : Int, 1 ≤ v → v ≤ D.base.length → lvl t v = lvl D.base v ∨ ∃ w ∈ D.row, w.1 = v ∧ lvl t v = w.2 from hc) v v1 (by omega) with h3 | ⟨w, hw, _⟩
    · exact h3
    · rw [h.1] at hw; cases hw
  rw [e]
  exact h.2
theorem can_any1 {n c : Int} {D : Dk} {w : Wr} {t : List Int} (ok : DOk n c D) (h : AnyUp n D) (hw : WOk n c w) (h2 : Up n (put D.base w)) (tw : TW n c t) (hc : Can false (add1 D w) t) : Up n t := by
  have h1 := tw.len
  have h3 := ok.tw.len
  obtain ⟨w1, w2, _⟩ := hw
  have hput : ∀ v : Int, 1 ≤ v → lvl (put D.base w) v = if v = w.1 then w.2 else lvl D.base v := fun v hv => lvl_put w1 (by omega) hv
  have hc2 : ∀ v : Int, 1 ≤ v → v ≤ D.base.length → lvl t v = lvl D.base v ∨ (w.1 = v ∧ lvl t v = w.2) := fun v v1 v2 => by
    rcases (show ∀ v : Int, 1 ≤ v → v ≤ D.base.length → lvl t v = lvl D.base v ∨ ∃ u ∈ D.row ++ [w], u.1 = v ∧ lvl t v = u.2 from hc) v v1 v2 with h4 | ⟨u, hu, h5⟩
    · exact .inl h4
    · rw [h.1, List.nil_append, List.mem_singleton] at hu
      subst hu
      exact .inr h5
  by_cases hw1 : lvl t w.1 = lvl D.base w.1
  · have e : t = D.base := ext_lvl (by omega) fun v v1 v2 => by
      rcases hc2 v v1 (by omega) with h4 | ⟨h4, h5⟩
      · exact h4
      · rw [← h4]; exact hw1
    rw [e]
    exact h.2
  · have e : t = put D.base w := ext_lvl (by rw [put_length]; omega) fun v v1 v2 => by
      rw [hput v v1]
      by_cases hv : v = w.1
      · rw [if_pos hv]
        rcases hc2 v v1 (by omega) with h4 | ⟨h4, h5⟩
        · rw [hv] at h4
          exact absurd h4 hw1
        · exact h5
      · rw [if_neg hv]
        rcases hc2 v v1 (by omega) with h4 | ⟨h4, _⟩
        · exact h4
        · exact absurd h4.symm hv
    rw [e]
    exact h2
def GoodD (p : Par) (n : Int) (D : Dk) : Prop := Up n D.now ∧ (p.me = false → if p.io then IoUp n D else AnyUp n D)
theorem left_good {p : Par} {n c : Int} {t : List Int} (tw : TW n c t) (h : p.me = false → Up n t) : DOk n c (left p n t) ∧ GoodD p n (left p n t) := by
  cases hm : p.me with
  | true =>
    have e : left p n t = ⟨mend n t, []⟩ := by unfold left; rw [hm] <;> rfl
    obtain ⟨h1, h2⟩ := mend_up tw
    rw [e]
    exact ⟨⟨h1, fun w hw => by cases hw⟩, h2, fun h => by rw [hm] at h; cases h⟩
  | false =>
    have e : left p n t = ⟨t, []⟩ := by unfold left; rw [hm] <;> rfl
    have hu := h hm
    rw [e]
    refine ⟨⟨tw, fun w hw => by cases hw⟩, hu, fun _ => ?_⟩
    cases p.io
    · exact ⟨rfl, hu⟩
    · exact PrefUp.nil hu
theorem step_good {p : Par} {n c : Int} {D : Dk} {g : Part} (gp : GoodP p) (ok : DOk n c D) (h : GoodD p n D) (hg : PartOk p n c D g) : DOk n c (stepP p n D g) ∧ GoodD p n (stepP p n D g) ∧ (stepP p n D g).row.length ≤ D.row.length + 64 := by
  obtain ⟨hu, hgd⟩ := h
  cases g with
  | flush =>
    refine ⟨⟨ok.now, fun w hw => by cases hw⟩, ⟨hu, fun hm => ?_⟩, Nat.zero_le _⟩
    cases p.io
    · exact ⟨rfl, hu⟩
    · exact PrefUp.nil hu
  | crash t =>
    obtain ⟨tw, hc⟩ := hg
    have hl := left_good (p := p) tw fun hm => by
      have h1 := hgd hm
      cases hio : p.io with
      | true =>
        rw [hio] at h1 hc
        exact can_io h1 hc
      | false =>
        rw [hio] at h1 hc
        exact can_any0 ok h1 tw hc
    exact ⟨hl.1, hl.2, Nat.zero_le _⟩
  | deed d =>
    obtain ⟨ok1, ok2⟩ := rows_ok (p := p) ok.now hg
    have hl := afts_len (f := p.fls d) (ws := rows p n D.now d) (D := D)
    refine ⟨afts_ok ok ok2, ⟨?_, fun hm => ?_⟩, by show (afts (p.fls d) D (rows p n D.now d)).row.length ≤ _; omega⟩
    · show Up n (afts (p.fls d) D (rows p n D.now d)).now
      rw [afts_now]
      exact rows_full ok.now hu hg
    · have h1 := hgd hm
      obtain ⟨g1, g2, g3⟩ := gp hm
      have hp := rows_pref ok.now hu hg g1 g2
      cases hio : p.io with
      | true =>
        rw [hio] at h1
        exact IoUp.afts h1 hp
      | false =>
        rw [hio] at h1
        obtain ⟨g4, g5⟩ := g3 hio
        have hf : p.fls d = true := by
          unfold Par.fls
          rw [g4, g5]
          split <;> rfl
        show AnyUp n (afts (p.fls d) D (rows p n D.now d))
        rw [hf]
        exact AnyUp.afts h1 hp
  | cut d k t =>
    obtain ⟨okd, k1, k2, tw, hc⟩ := hg
    obtain ⟨ok1, ok2⟩ := rows_ok (p := p) ok.now okd
    have hl := left_good (p := p) tw fun hm => by
      have h1 := hgd hm
      obtain ⟨g1, g2, g3⟩ := gp hm
      have hp := rows_pref ok.now hu okd g1 g2
      cases hio : p.io with
      | true =>
        rw [hio] at h1 hc
        exact can_io (IoUp.cutAt h1 hp) hc
      | false =>
        rw [hio] at h1 hc
        obtain ⟨g4, g5⟩ := g3 hio
        have hf : p.fls d = true := by
          unfold Par.fls
          rw [g4, g5]
          split <;> rfl
        rw [hf] at hc
        have hk : (k - 1).toNat < (rows p n D.now d).length := by omega
        have e : cutAt true D (rows p n D.now d) k = add1 (afts true D ((rows p n D.now d).take (k - 1).toNat)) (rows p n D.now d)[(k - 1).toNat] := by
          unfold R47.cutAt
          rw [List.getElem?_eq_getElem hk]
        rw [e] at hc
        have hpt : PrefUp n D.now ((rows p n D.now d).take (k - 1).toNat) := fun i hi => by
          rw [List.length_take] at hi
          rw [List.take_take, Nat.min_eq_left (by omega)]
          exact hp i (by omega)
        have ha := AnyUp.afts h1 hpt
        have hok := afts_ok (f := true) (ws := (rows p n D.now d).take (k - 1).toNat) ok fun w hw => ok2 w (List.mem_of_mem_take hw : w ∈ rows p n D.now d)
        refine can_any1 hok ha (ok2 _ (List.getElem_mem hk)) ?_ tw hc
        have hnow : ∀ E : Dk, E.row = [] → E.base = E.now := fun E hE => by
          unfold Dk.now
          rw [hE] <;> rfl
        rw [hnow _ ha.1, afts_now, ← puts_snoc, ← take_snoc (List.getElem?_eq_getElem hk)]
        exact hp _ (by omega)
    exact ⟨hl.1, hl.2, Nat.zero_le _⟩
theorem run_good {p : Par} {n c : Int} (gp : GoodP p) : ∀ {run : List Part} {D : Dk}, DOk n c D → GoodD p n D → RunOk p n c D run → DOk n c (runP p n D run) ∧ GoodD p n (runP p n D run) ∧ (runP p n D run).row.length ≤ D.row.length + 64 * run.length
  | [], _, ok, h, _ => ⟨ok, h, by simp [runP]⟩
  | g :: r, D, ok, h, hr => by
    obtain ⟨h1, h2, h3⟩ := hr
    obtain ⟨s1, s2, s3⟩ := step_good gp ok h h1
    obtain ⟨r1, r2, r3⟩ := run_good gp (run := r) s1 s2 h3
    refine ⟨r1, r2, ?_⟩
    rw [List.length_cons]
    show (runP p n (stepP p n D g) r).row.length ≤ _
    omega
theorem RunOk.snoc {p : Par} {n c : Int} {g : Part} : ∀ {run : List Part} {D : Dk}, RunOk p n c D run → PartOk p n c (runP p n D run) g → (runP p n D run).row.length ≤ 9000 → RunOk p n c D (run ++ [g])
  | [], _, _, h1, h2 => ⟨h1, h2, True.intro⟩
  | x :: r, D, h, h1, h2 => ⟨h.1, h.2.1, RunOk.snoc (run := r) h.2.2 h1 h2⟩
theorem RunOk.take {p : Par} {n c : Int} : ∀ {run : List Part} {D : Dk} (k : Nat), RunOk p n c D run → RunOk p n c D (run.take k)
  | _, _, 0, _ => True.intro
  | [], _, _ + 1, h => h
  | x :: r, D, k + 1, h => ⟨h.1, h.2.1, RunOk.take (run := r) k h.2.2⟩


end
/-! part P25 -/
section
/-! ### the walk: the law -/
theorem Po.old {z : Addr} {H0 H1 H' : Hp} (e : Same H0 H1) (h : H0 z = Option.none) (p : Po z H1 H') : Same H0 H' := fun b o hb => p.lst (e b o hb) (ne_of_none hb h)
section
variable {P : Program} {w : World} {K : PySem.W.Frag} {mg : Str → Option Value} {base : Heap}
theorem four_n {j : Nat} {x : V} (h : ([.int 2, .int 4, .int 8, .int 16] : List V)[j]? = some x) : ∃ n : Int, x = .int n ∧ (n = 2 ∨ n = 4 ∨ n = 8 ∨ n = 16) := by
  rcases j with _ | _ | _ | _ | j
  · exact ⟨2, (Option.some.inj h).symm, .inl rfl⟩
  · exact ⟨4, (Option.some.inj h).symm, .inr (.inl rfl)⟩
  · exact ⟨8, (Option.some.inj h).symm, .inr (.inr (.inl rfl))⟩
  · exact ⟨16, (Option.some.inj h).symm, .inr (.inr (.inr rfl))⟩
  · simp at h
def spLaw (K : PySem.W.Frag) : Sp := fun vs H Q _ => ∃ a ns, vs = [.ref a] ∧ SqL K H a (iV ns) ∧ ∀ H', Q (.bl true) H'
theorem fn_law (T : Txt K mg) {f : Addr} {fd : FuncData} (F : FunD K "law" "law" (defArgs s_law) (defBody s_law) (defScope s_law) [] [] f fd) : FnOk P w K mg base CX0 30 f fd ["_law_script"] (spLaw K) := by
  refine fnok F sc_law (fun vs H Q E h => ?_) (fun f cdv A outer s H vs Q E hr h => ?_)
  · obtain ⟨a, ns, rfl, ha, q⟩ := h
    rfl
  obtain ⟨a, ns, rfl, ha, q⟩ := h
  refine ⟨_, (pss_cons (ps_for PassesOwn.never rfl (pi_range1 rfl T.m_range (pa_cons (pe_callB (call_max2 rfl) (by rfl) T.m_max (by decide +kernel) (pa_cons pe_int (pa_cons (pe_callB (call_min2 rfl) (by rfl) T.m_min (by decide +kernel) (pa_cons pe_int (pa_cons (pe_callB (call_lenK K) (by rfl) T.m_len (by decide +kernel) (pa_cons (pv 0) pa_nil)) pa_nil))) pa_nil))) pa_nil)) (pg_name (i := 1) sc_law.nd rfl (Or.inl rfl)) (pss_cons (ps_set (i := 2) sc_law.nd rfl (Or.inl rfl) (C8.pe_c (ok_l_opened T) hr (by decide) rfl (pa_cons (pv 0) (pa_cons (pv 1) pa_nil))))
      (pss_cons (ps_par (i := 3) (j := 4) (by rfl) sc_law.nd rfl rfl (by decide) rfl rfl (pa_cons (C8.pe_c (ok_l_pick T) hr (by decide) rfl (pa_cons (pv 2) (pa_cons (pe_lst (pa_cons pe_int (pa_cons pe_int (pa_cons pe_int (pa_cons pe_int pa_nil))))) pa_nil))) (pa_cons (pe_op op_add pe_int (C8.pe_c (ok_l_draw T) hr (by decide) rfl (pa_cons (pv 2) (pa_cons pe_int pa_nil)))) pa_nil)) (by rfl))
      (pss_cons (ps_par (i := 5) (j := 6) (by rfl) sc_law.nd rfl rfl (by decide) rfl rfl (pa_cons (C8.pe_c (ok_l_good_parts T) hr (by decide) rfl (pa_cons (pv 2) pa_nil)) (pa_cons (C8.pe_c (ok_l_drawn_told T) hr (by decide) rfl (pa_cons (pv 2) (pa_cons (pv 3) (pa_cons (pv 4) (pa_cons pe_bl pa_nil))))) pa_nil)) (by rfl))
      (pss_cons (ps_asg (pe_tup (pa_cons (C8.pe_c (ok_l_made T) hr (by decide) rfl (pa_cons (pv 5) pa_nil)) (pa_cons (C8.pe_mk (ok_Tree_init T) hr (by decide) rfl (pa_cons (pv 4) (pa_cons (pv 6) pa_nil))) (pa_cons (pe_lst (pa_cons (pv 6) (pa_cons (pe_lst pa_nil) pa_nil))) (pa_cons (pe_lst pa_nil) pa_nil))))) (pg_tupK K (n := 4) rfl (pgs_cons (pg_name (i := 7) sc_law.nd rfl (Or.inl rfl)) (pgs_cons (pg_name (i := 8) sc_law.nd rfl (Or.inl rfl)) (pgs_cons (pg_name (i := 9) sc_law.nd rfl (Or.inl rfl)) (pgs_cons (pg_name (i := 10) sc_law.nd rfl (Or.inl rfl)) pgs_nil))))))
      (pss_cons (ps_if (pt_cmpR (op_isnot_bl) (pe_pr (ok_Setting_misses T) hr (by decide) (pv 7)) pe_bl (nomark _)) (pss_one (ps_ret pe_bl)) pss_nil)
      (pss_cons (ps_for PassesOwn.never rfl (pi_range1 rfl T.m_range (pa_cons pe_int pa_nil)) (pg_name (i := 11) sc_law.nd rfl (Or.inl rfl)) (pss_cons (ps_set (i := 12) sc_law.nd rfl (Or.inl rfl) (C8.pe_c (ok_l_drawn_part T) hr (by decide) rfl (pa_cons (pv 2) (pa_cons (pv 5) (pa_cons (pv 3) (pa_cons (pv 4) (pa_cons (pv 9) pa_nil)))))))
      (pss_cons (ps_par (i := 9) (j := 10) (by rfl) sc_law.nd rfl rfl (by decide) rfl rfl (pa_cons (C8.pe_c (ok_l_step T) hr (by decide) rfl (pa_cons (pv 5) (pa_cons (pv 4) (pa_cons (pv 9) (pa_cons (pv 12) pa_nil))))) (pa_cons (pe_op op_cat (pv 10) (pe_lst (pa_cons (pv 12) pa_nil))) pa_nil)) (by rfl))
      (pss_one (ps_if (pt_not (pt_val (C8.pe_c (ok_l_is_upright T) hr (by decide) rfl (pa_cons (C8.pe_c (ok_l_now T) hr (by decide) rfl (pa_cons (pv 9) pa_nil)) pa_nil)))) (pss_one (ps_ret pe_bl)) pss_nil)))))
      (pss_one (ps_for PassesOwn.never rfl (pi_listK K (pe_lst (pa_cons pe_int (pa_cons pe_int (pa_cons pe_int pa_nil))))) (pg_name (i := 13) sc_law.nd rfl (Or.inl rfl)) (pss_cons (ps_if (PW.pt (pw_or (pt_cmpR (op_isnot_bl) (C8.pe_c (ok_is_run T) hr (by decide) rfl (pa_cons (pv 7) (pa_cons (pv 8) (pa_cons (pe_slice (sl_listK K) (pv 10) po_none (po_some (pv 13))) pa_nil)))) pe_bl (nomark _)) (pw_or1 (pt_cmpR (op_isnot_bl) (C8.pe_c (ok_shows_miss T) hr (by decide) rfl (pa_cons (pv 7) (pa_cons (pv 8) (pa_cons (pe_slice (sl_listK K) (pv 10) po_none (po_some (pv 13))) pa_nil)))) pe_bl (nomark _))))) (pss_one (ps_ret pe_bl)) pss_nil)
      (pss_cons (ps_set (i := 14) sc_law.nd rfl (Or.inl rfl) (C8.pe_c (ok_run_end T) hr (by decide) rfl (pa_cons (pv 7) (pa_cons (pv 8) (pa_cons (pe_slice (sl_listK K) (pv 10) po_none (po_some (pv 13))) pa_nil)))))
      (pss_one (ps_if (PW.pt (pw_or (pt_cmpR (op_isnot_bl) (pe_pr (ok_Tree_is_upright T) hr (by decide) (pe_pr (ok_Disk_now T) hr (by decide) (pv 14))) pe_bl (nomark _)) (pw_or1 (PW.pt (pw_and (pt_not (pt_val (pe_ix (ix_listK K) (pv 5) pe_int (fun _ _ => rfl)))) (pw_and1 (pt_cmpR (op_neD hr.units) (C8.pe_mt (ok_Disk_missable T) hr (by decide) (pv 14) (pa_cons (pe_ix (ix_listK K) (pv 5) pe_int (fun _ _ => rfl)) pa_nil)) (pe_lst pa_nil) (nomark _)))))))) (pss_one (ps_ret pe_bl)) pss_nil)))))))))))))
      (pss_one (ps_ret pe_bl))), ?_⟩
  refine ⟨_, rfl, _, _, rfl, .inl ⟨_, ha, rfl⟩, _, _, rfl, _, _, rfl, _, rfl, ?_, ?_, ?_⟩
  · split <;> split <;> omega
  · split <;> split <;> omega
  generalize (if (if ((iV ns).length : Int) < 4 then ((iV ns).length : Int) else 4) > 1 then (if ((iV ns).length : Int) < 4 then ((iV ns).length : Int) else 4) else (1 : Int)).toNat = m
  refine for_range (fun i σ H' => (∃ z1 z2 z3 z4 z5 z6 z7 z8 z9 z10 z11 z12 z13 z14, σ = [some (.ref a), z1, z2, z3, z4, z5, z6, z7, z8, z9, z10, z11, z12, z13, z14]) ∧ Same H H') ⟨⟨_, _, _, _, _, _, _, _, _, _, _, _, _, _, rfl⟩, Same.refl _⟩ ?_ (fun σ H' _ => q H')
  rintro i σ H0 hi ⟨⟨z1, z2, z3, z4, z5, z6, z7, z8, z9, z10, z11, z12, z13, z14, rfl⟩, e0⟩
  refine ⟨_, rfl, _, rfl, a, _, ns, rfl, e0.sqL ha, by omega, fun z H1 e1 hz0 hz1 => ?_⟩
  refine ⟨_, rfl, le_small (Nat.le_of_ble_eq_true rfl), fun l1 hl1 => ?_⟩
  have po1 := Po.of hz1 (same_up (o := .lst [.int 2, .int 4, .int 8, .int 16]) hl1)
  refine ⟨z, l1, [.int 2, .int 4, .int 8, .int 16], rfl, po1.pool, sqL_at ((off_ne (hz1.ne hl1)).trans upd_same), by decide, by decide, fun j x H2 hj po2 => ?_⟩
  obtain ⟨n, rfl, n4⟩ := four_n hj
  refine ⟨_, rfl, z, 4, rfl, po2.pool, by decide, by decide, fun r H3 r0 r1 po3 => ⟨_, _, rfl, rfl, _, _, rfl, ?_⟩⟩
  have c1 : (1 : Int) ≤ 1 + r := by omega
  have c2 : (1 : Int) + r ≤ 8 := by omega
  refine ⟨_, rfl, z, rfl, po3.pool, fun ap p H4 po4 ha0 hap gp => ?_⟩
  refine ⟨_, rfl, _, rfl, _, rfl, z, n, 1 + r, rfl, po4.pool, by omega, c1, c2, fun l ts H5 po5 hl0 hl tw up => ⟨_, _, rfl, ?_⟩⟩
  have apz := po3.pool.ne ha0
  have hap5 := po5.lst hap apz
  have po05 : Po z H1 H5 := po1.trans (po2.trans (po3.trans (po4.trans po5)))
  have e05 : Same H0 H5 := Po.old e1 hz0 po05
  have hlz := po4.pool.ne hl0
  refine ⟨_, rfl, ap, p, rfl, sqL_at hap5, fun s6 H6 e6 hs => ?_⟩
  refine ⟨_, rfl, _, rfl, use_mk (n := n) (.inl (sqL_at (e6 _ _ hl))) tw fun y H7 e7 hy0 hy => ?_⟩
  have e57 := e6.trans e7
  refine ⟨_, rfl, le_small (Nat.le_of_ble_eq_true rfl), fun em hem => ⟨le_small (Nat.le_of_ble_eq_true rfl), fun d hd => ⟨le_small (Nat.le_of_ble_eq_true rfl), fun rl hrl => ⟨le_small (Nat.le_of_ble_eq_true rfl), fun tp htp => ?_⟩⟩⟩⟩
  have f1 := same_up (o := .lst []) hem
  have f2 := f1.up (o := .lst [.ref l, .ref em]) (f1.free hd)
  have f3 := f2.up (o := .lst []) (f2.free hrl)
  have f4 := f3.up (o := .tup [.ref s6, .ref y, .ref d, .ref rl]) (f3.free htp)
  have g4 := same_up (o := .tup [.ref s6, .ref y, .ref d, .ref rl]) htp
  have g3 := same_up (o := .lst []) hrl
  have g2 := same_up (o := .lst [.ref l, .ref em]) hd
  have hem8 := g4 _ _ (g3 _ _ (g2 _ _ (upd_same (H := H7) (a := em) (o := .lst []))))
  have hd8 := g4 _ _ (g3 _ _ (upd_same (H := upd H7 em (.lst [])) (a := d) (o := .lst [.ref l, .ref em])))
  have hrl8 := g4 _ _ (upd_same (H := upd (upd H7 em (.lst [])) d (.lst [.ref l, .ref em])) (a := rl) (o := .lst []))
  have htp8 := upd_same (H := upd (upd (upd H7 em (.lst [])) d (.lst [.ref l, .ref em])) rl (.lst [])) (a := tp) (o := .tup [.ref s6, .ref y, .ref d, .ref rl])
  clear g2 g3 g4
  generalize upd (upd (upd (upd H7 em (.lst [])) d (.lst [.ref l, .ref em])) rl (.lst [])) tp (.tup [.ref s6, .ref y, .ref d, .ref rl]) = H8 at f4 hem8 hd8 hrl8 htp8 ⊢
  have e58 := e57.trans f4
  have po8 := Po.of po5.pool e58
  have e08 : Same H0 H8 := e05.trans e58
  have hs8 := (e7.trans f4).set hs
  have hy8 := f4.tree hy
  have hl8 := e58 _ _ hl
  have hap8 := e58 _ _ hap5
  have pz5 := po5.pool
  have emz : em ≠ z := pz5.ne (e57.free hem)
  have dz : d ≠ z := pz5.ne (e57.free (f1.free hd))
  have rlz : rl ≠ z := pz5.ne (e57.free (f2.free hrl))
  refine ⟨tp, _, rfl, sqT_at htp8, rfl, _, _, rfl, _, _, rfl, _, _, rfl, _, _, rfl, rfl, ?_⟩
  obtain ⟨dxs, hs9⟩ := id hs8
  refine ⟨_, rfl, _, _, _, rfl, hs9, s6, p, rfl, hs8, gp, _, _, rfl, rfl, false, rfl, iteF ?_⟩
  have hok : DOk n (1 + r) ⟨ts, []⟩ := ⟨tw, fun w hw => by cases hw⟩
  have hgood : GoodD p n ⟨ts, []⟩ := ⟨up, fun _ => by
    cases p.io
    · exact ⟨rfl, up⟩
    · exact PrefUp.nil up⟩
  refine ⟨_, rfl, by decide, by decide, ?_⟩
  refine for_range (n := 30) (fun k σ H' => ∃ d' rl' xs run w11 w12, σ = [some (.ref a), some (.int (0 + (i : Nat))), some (.ref z), some (.int n), some (.int (1 + r)), some (.ref ap), some (.ref l), some (.ref s6), some (.ref y), some (.ref d'), some (.ref rl'), w11, w12, z13, z14] ∧ Po z H8 H' ∧ LDiskAt K (off H' z) d' (runP p n ⟨ts, []⟩ run) ∧ off H' z rl' = some (.lst xs) ∧ PartsAt K (off H' z) xs run ∧ RunOk p n (1 + r) ⟨ts, []⟩ run ∧ run.length = k) ?_ ?_ ?_
  · refine ⟨d, rl, [], [], z11, z12, ?_, Po.refl po8.pool, ⟨l, em, [], (off_ne dz).trans hd8, (off_ne hlz).trans hl8, (off_ne emz).trans hem8, .nil⟩, (off_ne rlz).trans hrl8, .nil, True.intro, rfl⟩
    rfl
  · rintro k σ H9 hk ⟨d', rl', xs, run, w11, w12, rfl, po9, hD9, hrl9, hx9, hrun, hlen⟩
    obtain ⟨g1, g2, g3⟩ := run_good gp hok hgood hrun
    have hrow : (runP p n ⟨ts, []⟩ run).row.length ≤ 9000 := by
      have : (runP p n ⟨ts, []⟩ run).row.length ≤ 0 + 64 * run.length := g3
      omega
    refine ⟨_, rfl, _, rfl, _, rfl, _, rfl, _, rfl, z, ap, n, (1 + r), d', p, _, rfl, po9.pool, po9.same _ _ ((off_ne apz).trans hap8), hD9, g1, hrow, fun x g H10 po10 hx hg => ?_⟩
    have hD10 := po10.same.ldisk hD9
    obtain ⟨zx, zy, hz10⟩ := id po10.pool
    refine ⟨_, rfl, _, rfl, _, rfl, _, rfl, ap, d', x, p, n, (1 + r), _, g, z, _, rfl, sqL_at (po10.lst (po9.lst hap8 apz) apz), hz10, hD10, g1, hrow, off_same.part hx, hg, fun d2 H11 e11 hd20 hd2 => ?_⟩
    have po11 := Po.of po10.pool e11
    have hrl11 := (po10.trans po11).same _ _ hrl9
    have hxl : xs.length = run.length := Paired.length hx9
    refine ⟨_, rfl, _, rfl, le_small (Nat.le_of_ble_eq_true rfl), fun l2 hl2 => ?_⟩
    have e12 := same_up (o := .lst [x]) hl2
    refine ⟨rl', l2, _, _, rfl, rfl, e12 _ _ (off_same _ _ hrl11), upd_same, ?_, fun rl2 hrl2 => ⟨_, _, rfl, ?_⟩⟩
    · rw [sizeLine_eq]
      show _ + 1 ≤ _
      omega
    have e13 := e12.up (o := .lst (xs ++ [x])) (e12.free hrl2)
    have hrl20 : H11 rl2 = none := e12.free hrl2
    have hrl13 := upd_same (H := upd H11 l2 (.lst [x])) (a := rl2) (o := .lst (xs ++ [x]))
    generalize upd (upd H11 l2 (.lst [x])) rl2 (.lst (xs ++ [x])) = H12 at e13 hrl13 ⊢
    have po12 := Po.of po11.pool e13
    have hd12 := po12.same.ldisk hd2
    have hrun2 : RunOk p n (1 + r) ⟨ts, []⟩ (run ++ [g]) := hrun.snoc hg hrow
    obtain ⟨k1, k2, k3⟩ := run_good gp hok hgood hrun2
    rw [runP_snoc] at k1 k2 k3
    refine ⟨_, rfl, d2, n, (1 + r), _, rfl, off_same.ldisk hd12, k1, fun nw H13 e14 hnw0 hnw => ?_⟩
    have po13 := Po.of po12.pool e14
    refine ⟨nw, n, (1 + r), _, rfl, sqL_at hnw, k1.now, k2.1, fun H14 e15 => ⟨true, rfl, iteF ?_⟩⟩
    have po14 := Po.of po13.pool e15
    have po24 := po13.trans po14
    have pou := po11.trans (po12.trans po24)
    refine ⟨d2, rl2, xs ++ [x], run ++ [g], _, _, rfl, po9.trans (po10.trans pou), ?_, po24.same _ _ ((off_ne (po11.pool.ne hrl20)).trans hrl13), Paired.snoc (Paired.mapP hx9 fun _ _ => (po10.trans pou).same.part) (pou.same.part hx), hrun2, by rw [List.length_append, hlen] <;> rfl⟩
    rw [runP_snoc]
    exact po24.same.ldisk hd12
  · rintro σ H9 ⟨d', rl', xs, run, w11, w12, rfl, po9, hD9, hrl9, hx9, hrun, hlen⟩
    have hs10 := hs8
    have hxl : xs.length = run.length := Paired.length hx9
    have e09 : Same H0 H9 := Po.old e1 hz0 (po05.trans (po8.trans po9))
    have hs9' : SetAt K H9 s6 p := by
      obtain ⟨dq, hq⟩ := hs8
      refine ⟨dq, po9.lst hq ?_⟩
      obtain ⟨zx, zy, hzp⟩ := po8.pool
      exact ne_of hq hzp fun h => nomatch h
    have hy9 : TreeAt K H9 y n (1 + r) ts := by
      obtain ⟨zx, zy, hzp⟩ := po8.pool
      exact off_same.tree (po9.same.tree (tree_off hzp hy8))
    have hap9 := po9.lst hap8 apz
    have hrl9' := off_same _ _ hrl9
    have hx9' : PartsAt K H9 xs run := Paired.mapP hx9 fun _ _ => off_same.part
    refine ⟨le_small (Nat.le_of_ble_eq_true rfl), fun al hal => ?_⟩
    have e10 := same_up (o := .lst [.int 10, .int 20, .int 30]) hal
    have hal2 := upd_same (H := H9) (a := al) (o := .lst [.int 10, .int 20, .int 30])
    generalize upd H9 al (.lst [.int 10, .int 20, .int 30]) = H10 at e10 hal2 ⊢
    refine ⟨al, rfl, ⟨_, sqL_at hal2⟩, ?_⟩
    refine for_list (xs := [.int 10, .int 20, .int 30]) (fun k σ H' => ∃ w13 w14, σ = [some (.ref a), some (.int (0 + (i : Nat))), some (.ref z), some (.int n), some (.int (1 + r)), some (.ref ap), some (.ref l), some (.ref s6), some (.ref y), some (.ref d'), some (.ref rl'), w11, w12, w13, w14] ∧ Same H10 H') ⟨_, _, rfl, Same.refl _⟩ ?_ ?_ ?_
    · rintro k σ H' hk ⟨w13, w14, rfl, e⟩
      exact sqL_at (e _ _ hal2)
    · rintro k v σ H11 hk ⟨w13, w14, rfl, e11⟩
      obtain ⟨t, rfl, t1, t2⟩ : ∃ t : Nat, v = .int (t : Int) ∧ 10 ≤ t ∧ t ≤ 30 := by
        rcases k with _ | _ | _ | k
        · exact ⟨10, (Option.some.inj hk).symm, by omega, by omega⟩
        · exact ⟨20, (Option.some.inj hk).symm, by omega, by omega⟩
        · exact ⟨30, (Option.some.inj hk).symm, by omega, by omega⟩
        · simp at hk
      have e911 := e10.trans e11
      have hcut : cutV xs none (some (t : Int)) = xs.take t := by
        rw [cutV, HT.sIx_nat, HT.sIx_none, List.drop_zero, Nat.sub_zero, Nat.min_eq_left (by omega)]
      have hrunt := hrun.take t
      obtain ⟨k1, k2, k3⟩ := run_good gp hok hgood hrunt
      have hrlen : (runP p n ⟨ts, []⟩ (run.take t)).row.length ≤ 0 + 64 * (run.take t).length := k3
      have htne : run.take t ≠ [] := List.length_pos_iff.mp (by rw [List.length_take]; omega)
      have slice : ∀ (H' : Hp), Same H9 H' → ∀ sl, H' sl = none → SqL K (upd H' sl (.lst (cutV xs none (some (t : Int))))) sl (xs.take t) ∧ PartsAt K (upd H' sl (.lst (cutV xs none (some (t : Int))))) (xs.take t) (run.take t) ∧ Same H9 (upd H' sl (.lst (cutV xs none (some (t : Int))))) := fun H' e sl hsl => by
        refine ⟨sqL_at (by rw [upd_same, hcut]), ?_, e.up (e.free hsl)⟩
        exact Paired.mapP (Paired.take' t hx9') fun _ _ => (e.up (e.free hsl)).part
      refine ⟨_, rfl, _, rfl, _, rfl, _, rfl, _, rfl, _, _, rfl, sqL_at (e911 _ _ hrl9'), fun s1 hs1 => ?_⟩
      obtain ⟨q1, q2, q3⟩ := slice H11 e911 s1 hs1
      refine ⟨s6, y, s1, p, n, (1 + r), ts, _, _, rfl, q3.set hs9', q3.tree hy9, up, q1, q2, hrunt, fun H12 e12 => ⟨true, true, rfl, rfl, false, rfl, iteF ?_⟩⟩
      have e912 := q3.trans e12
      refine ⟨_, rfl, _, rfl, _, rfl, _, rfl, _, rfl, _, _, rfl, sqL_at (e912 _ _ hrl9'), fun s2 hs2 => ?_⟩
      obtain ⟨q4, q5, q6⟩ := slice H12 e912 s2 hs2
      refine ⟨s6, y, s2, p, n, (1 + r), ts, _, _, rfl, q6.set hs9', q6.tree hy9, up, q4, q5, hrunt, htne, k2.1, fun H13 e13 => ⟨false, false, rfl, rfl, false, rfl, iteF ?_⟩⟩
      have e913 := q6.trans e13
      refine ⟨_, rfl, _, rfl, _, rfl, _, rfl, _, rfl, _, _, rfl, sqL_at (e913 _ _ hrl9'), fun s3 hs3 => ?_⟩
      obtain ⟨q7, q8, q9⟩ := slice H13 e913 s3 hs3
      refine ⟨s6, y, s3, p, n, (1 + r), ts, _, _, rfl, q9.set hs9', q9.tree hy9, up, q7, q8, hrunt, fun sh H14 e14 hsh => ?_⟩
      have e914 := q9.trans e14
      obtain ⟨dsh, bsh, tsh, rsh, hsh1, hshf⟩ := id hsh
      refine ⟨_, rfl, _, _, _, rfl, hsh1, sh, n, (1 + r), _, rfl, hsh, fun t5 ht5 => ?_⟩
      obtain ⟨dt5, tt5, lt5, ht6, _⟩ := id ht5
      refine ⟨_, _, _, rfl, ht6, t5, n, (1 + r), _, rfl, ht5, k2.1, fun H15 e15 => ⟨true, true, rfl, rfl, false, rfl, iteF ?_⟩⟩
      have e915 := e914.trans e15
      refine ⟨_, rfl, _, _, _, _, rfl, rfl, sqL_at (e915 _ _ hap9), (show atI _ (5 : Int) = some (.bl p.me) from rfl), p.me, rfl, ?_⟩
      have done : ∀ H', Same H9 H' → Same H10 H' → ∃ w13 w14, [some (V.ref a), some (.int (0 + (i : Nat))), some (.ref z), some (.int n), some (.int (1 + r)), some (.ref ap), some (.ref l), some (.ref s6), some (.ref y), some (.ref d'), some (.ref rl'), w11, w12, some (.int (t : Int)), some (.ref sh)] = [some (.ref a), some (.int (0 + (i : Nat))), some (.ref z), some (.int n), some (.int (1 + r)), some (.ref ap), some (.ref l), some (.ref s6), some (.ref y), some (.ref d'), some (.ref rl'), w11, w12, w13, w14] ∧ Same H10 H' := fun H' _ e => ⟨_, _, rfl, e⟩
      have e10_15 : Same H10 H15 := e11.trans ((same_up hs1).trans (e12.trans ((same_up hs2).trans (e13.trans ((same_up hs3).trans (e14.trans e15))))))
      cases hm : p.me with
      | true => exact iteF (iteF (done _ e915 e10_15))
      | false =>
        have h2 := k2.2 hm
        refine iteT ?_
        refine ⟨_, rfl, _, _, _, rfl, e15 _ _ hsh1, rfl, _, rfl, _, _, _, _, rfl, rfl, sqL_at (e915 _ _ hap9), (show atI _ (4 : Int) = some (ordV p.io) from rfl), sh, n, (1 + r), _, p.io, rfl, e15.disk hsh, h2, fun ml H16 e16 hml => ?_⟩
        refine ⟨le_small (Nat.le_of_ble_eq_true rfl), fun em2 hem2 => ⟨.list [], .list [], .lst ((same_up hem2).sqL (sqL_at hml)) .nil, .lst (sqL_at upd_same) .nil, by decide +kernel, by decide +kernel, ?_⟩⟩
        have hev : (!PyData.eqv (.list []) (.list [])) = false := by decide +kernel
        rw [hev]
        exact ⟨false, rfl, iteF (done _ (e915.trans (e16.up (e16.free hem2))) (e10_15.trans (e16.up (e16.free hem2))))⟩
    · rintro σ H11 ⟨w13, w14, rfl, e11⟩
      exact ⟨⟨_, _, _, _, _, _, _, _, _, _, _, _, _, _, rfl⟩, e0.trans (e09.trans (e10.trans e11))⟩
end


end
/-! part P90 -/
section
/-! ### the head: facts read by an own Hook -/
structure DefP where
  ad : PySem.W.Frag → Addr
  name : Str
  qual : Str
  st : Stmt
def fnWP (K : PySem.W.Frag) (a : Addr) : He.FnW := match K.lookup a with
  | some ⟨_, _, .func fd, _⟩ => some (fd.name, fd.qualname, fd.params, fd.body, fd.scope, fd.globals, fd.closure, fd.builtins)
  | _ => none
def DefP.val (d : DefP) : He.FnW := some (d.name, d.qual, defArgs d.st, .stmts (defBody d.st), defScope d.st, mainGlobals, [], builtinsNs)
def isNon : Value → Bool
  | .none => true
  | _ => false
def DefP.ok (K : PySem.W.Frag) (d : DefP) : Bool := PySem.W.keepIn K (.ref (d.ad K)) && (match K.lookup (d.ad K) with
  | some ⟨_, _, .func fd, _⟩ => PySem.W.codeIn K fd.code d.qual && isNon fd.defaults
  | _ => false)
theorem DefP.funD {K : PySem.W.Frag} {d : DefP} (e : fnWP K (d.ad K) = d.val) (c : d.ok K = true) : ∃ fd, FunD K d.name d.qual (defArgs d.st) (defBody d.st) (defScope d.st) [] [] (d.ad K) fd := by
  obtain ⟨kp, c2⟩ := He.ba c
  unfold fnWP at e
  cases q : K.lookup (d.ad K) with
  | none =>
    rw [q] at c2
    cases c2
  | some o =>
    obtain ⟨oc, od, dt, osl⟩ := o
    rw [q] at c2 e
    cases dt with
    | func fd =>
      obtain ⟨n1, n2, n3, n4, n5, n6, n7, n8, n9, n10, n11, n12, n13, n14, n15⟩ := fd
      have e2 : (some (n1, n2, n3, n4, n5, n6, n7, n15) : He.FnW) = some (d.name, d.qual, defArgs d.st, .stmts (defBody d.st), defScope d.st, mainGlobals, [], builtinsNs) := e
      simp only [Option.some.injEq, Prod.mk.injEq] at e2
      obtain ⟨h1, h2, h3, h4, h5, h6, h7, h8⟩ := e2
      subst h1 h2 h3 h4 h5 h6 h7 h8
      have c3 : (PySem.W.codeIn K n13 d.qual && isNon n8) = true := c2
      obtain ⟨k1, k2⟩ := He.ba c3
      have k3 : n8 = .none := by
        cases n8 <;> first | rfl | cases k2
      exact ⟨_, ⟨oc, od, n8, n9, n10, n11, n12, n13, n14, osl, rfl, q, k1, .inl ⟨rfl, k3⟩, .inl rfl⟩, kp⟩
    | _ => cases c2
abbrev AlP : Type := Bool × List He.FnW
def obsP (fa : List (PySem.W.Frag → Bool)) (fn : List DefP) (K : PySem.W.Frag) : AlP := ((fa.all fun f => f K) && fn.all fun d => d.ok K, fn.map fun d => fnWP K (d.ad K))
def valP (fn : List DefP) : AlP := (true, fn.map DefP.val)
def SaysP (fa : List (PySem.W.Frag → Bool)) (fn : List DefP) (K : PySem.W.Frag) : Prop := obsP fa fn K = valP fn
/-- what the names reach: functions and their codes, classes, their dicts, methods, properties and their getters -/
def refsP (o : Obj) : List Addr := match o.data with
  | .func fd => He.refV fd.code
  | .cls cd => [cd.ns]
  | .fields vs => vs.toList.flatMap He.refV
  | .dict es _ => es.toList.flatMap fun e => He.refV e.val
  | _ => []
def nextP (g : Addr → Option Obj) (as : List Addr) : List Addr := as.flatMap fun a => match g a with
  | some o => refsP o
  | none => []
def globsP (g : Addr → Option Obj) (L : List Str) : List Addr := L.map fun x => He.ga (He.frG g [mainGlobals]) x
def asP (g : Addr → Option Obj) (L : List Str) : List Addr :=
  let a1 := globsP g L
  let a2 := nextP g a1
  let a3 := nextP g a2
  let a4 := nextP g a3
  let a5 := nextP g a4
  mainGlobals :: (a1 ++ (a2 ++ (a3 ++ (a4 ++ a5))))
def obsPG (n : List Str) (fa : List (PySem.W.Frag → Bool)) (fn : List DefP) (g : Addr → Option Obj) : AlP := obsP fa fn (He.frG g (asP g n))
def hookP (n : List Str) (fa : List (PySem.W.Frag → Bool)) (fn : List DefP) : PySem.W.Hook where
  α := AlP
  obs := fun s => obsPG n fa fn s.heap.get?
  val := fun _ => valP fn
  says := fun _ h => ∃ K : PySem.W.Frag, K.In h ∧ SaysP fa fn K
  of := fun _ _ e => ⟨_, He.frG_in, e⟩
  keeps := fun _ _ _ ⟨K, hK, c⟩ k => ⟨K, PySem.W.Frag.In.keeps hK k, c⟩
theorem obsPG_eq {n : List Str} {fa : List (PySem.W.Frag → Bool)} {fn : List DefP} {g : Addr → Option Obj} {s : Shared} (h : ∀ a, g a = s.heap.get? a) : obsPG n fa fn g = (hookP n fa fn).obs s := by
  have e : g = s.heap.get? := funext h
  rw [e] <;> rfl
section
variable {fa : List (PySem.W.Frag → Bool)} {fn : List DefP} {K : PySem.W.Frag}
theorem SaysP.fact (c : SaysP fa fn K) (i : Nat) {f : PySem.W.Frag → Bool} (h : fa[i]? = some f) : f K = true := by
  have c1 := (He.ba (show ((fa.all fun f => f K) && fn.all fun d => d.ok K) = true from congrArg (fun z : AlP => z.1) c)).1
  exact List.all_eq_true.mp c1 f (List.mem_of_getElem? h)
theorem SaysP.def_ (c : SaysP fa fn K) (i : Nat) {d : DefP} (h : fn[i]? = some d) : ∃ fd, FunD K d.name d.qual (defArgs d.st) (defBody d.st) (defScope d.st) [] [] (d.ad K) fd := by
  have c2 := (He.ba (show ((fa.all fun f => f K) && fn.all fun d => d.ok K) = true from congrArg (fun z : AlP => z.1) c)).2
  have e : fn.map (fun d => fnWP K (d.ad K)) = fn.map DefP.val := congrArg (fun z : AlP => z.2) c
  have e2 : (fn.map fun d => fnWP K (d.ad K))[i]? = (fn.map DefP.val)[i]? := by rw [e]
  rw [List.getElem?_map, List.getElem?_map, h] at e2
  exact DefP.funD (Option.some.inj e2) (List.all_eq_true.mp c2 d (List.mem_of_getElem? h))
end
def insB (x : Str) (K : PySem.W.Frag) : Bool := He.eqO (PySem.W.findIn K (.ref (He.ga K x)) "__class__") (some (some (.builtin "object.__class__"))) &&
  (decide (PySem.W.specialIn K (.builtin "object.__class__") "__get__" = some (some (.builtin "getset_descriptor.__get__"))) && (decide (PySem.W.takesIn K (.builtin "object.__class__") = some true) &&
    (decide (PySem.W.mroIn K (He.ga K x) (.type "object") = some true) && decide (PySem.W.kitOne K (.ref (He.ga K x)) (.ref (He.ga K x)) = some true))))
theorem insB_ok {K : PySem.W.Frag} {x : Str} (cl : Cls K (He.ga K x)) (h : insB x K = true) : C8.InsC K (He.ga K x) := by
  obtain ⟨h1, h⟩ := He.ba h
  obtain ⟨h2, h⟩ := He.ba h
  obtain ⟨h3, h⟩ := He.ba h
  obtain ⟨h4, h5⟩ := He.ba h
  exact ⟨cl, He.eqO_ok h1, of_decide_eq_true h2, of_decide_eq_true h3, of_decide_eq_true h4, of_decide_eq_true h5⟩
def gA (K : PySem.W.Frag) (C : Addr) (m : Str) : Addr := match PySem.W.recIn K (He.ma K C m) "property" with
  | some (.ref g :: _) => g
  | _ => 0
def propB (x m : Str) (K : PySem.W.Frag) : Bool := He.eqO (PySem.W.findIn K (.ref (He.ga K x)) m) (some (some (.ref (He.ma K (He.ga K x) m)))) &&
  (decide (PySem.W.specialIn K (.ref (He.ma K (He.ga K x) m)) "__get__" = some (some (.builtin "property.__get__"))) && (decide (PySem.W.takesIn K (.ref (He.ma K (He.ga K x) m)) = some true) &&
    (match PySem.W.recIn K (He.ma K (He.ga K x) m) "property" with
    | some (.ref g :: _) => decide (g = gA K (He.ga K x) m)
    | _ => false)))
theorem propB_ok {K : PySem.W.Frag} {x m : Str} (h : propB x m K = true) : PropOf K (He.ga K x) m (He.ma K (He.ga K x) m) (gA K (He.ga K x) m) := by
  obtain ⟨h1, h⟩ := He.ba h
  obtain ⟨h2, h⟩ := He.ba h
  obtain ⟨h3, h4⟩ := He.ba h
  refine ⟨He.eqO_ok h1, of_decide_eq_true h2, of_decide_eq_true h3, ?_⟩
  unfold gA
  cases q : PySem.W.recIn K (He.ma K (He.ga K x) m) "property" with
  | none =>
    rw [q] at h4
    cases h4
  | some l =>
    cases l with
    | nil =>
      rw [q] at h4
      cases h4
    | cons v r =>
      cases v with
      | ref g => exact ⟨r, rfl⟩
      | _ =>
        rw [q] at h4
        cases h4
def getB (K : PySem.W.Frag) : Bool := He.eqO (PySem.W.findIn K (.ref (cT K)) "__getitem__") (some (some (.ref (He.ma K (cT K) "__getitem__")))) && PySem.W.fnIn K (He.ma K (cT K) "__getitem__")
theorem getB_ok {K : PySem.W.Frag} (h : getB K = true) : ∃ g, PySem.W.findIn K (.ref (cT K)) "__getitem__" = some (some (.ref g)) ∧ PySem.W.fnIn K g = true := by
  obtain ⟨h1, h2⟩ := He.ba h
  exact ⟨_, He.eqO_ok h1, h2⟩
def facts : List (PySem.W.Frag → Bool) := [
  (He.Fa.free "isinstance").ok,
  (He.Fa.free "int").ok,
  (He.Fa.free "bool").ok,
  (He.Fa.free "list").ok,
  (He.Fa.free "tuple").ok,
  (He.Fa.free "str").ok,
  (He.Fa.free "len").ok,
  (He.Fa.free "range").ok,
  (He.Fa.free "max").ok,
  (He.Fa.free "min").ok,
  (He.Fa.free "all").ok,
  (He.Fa.free "sorted").ok,
  (He.Fa.free "zip").ok,
  (He.Fa.free "enumerate").ok,
  (He.Fa.int "MOST_BOUNDS" 8).ok,
  (He.Fa.glo "PAGES").ok,
  fun K => He.tupB K "PAGES" [.int 2, .int 4, .int 8, .int 16, .int 32],
  (He.Fa.glo "ORDERS").ok,
  fun K => He.tupB K "ORDERS" [.str "in order", .str "anyhow"],
  (He.Fa.glo "SIDES").ok,
  fun K => He.tupB K "SIDES" [.str "above", .str "below"],
  (He.Fa.glo "WORDS").ok,
  fun K => He.tupB K "WORDS" [.str "raise", .str "lower"],
  (He.Fa.glo "Tree").ok,
  (He.Fa.cls "Tree").ok,
  insB "Tree",
  (He.Fa.glo "Disk").ok,
  (He.Fa.cls "Disk").ok,
  insB "Disk",
  (He.Fa.glo "Setting").ok,
  (He.Fa.cls "Setting").ok,
  insB "Setting",
  (He.Fa.noat "Tree" "classes").ok,
  (He.Fa.noat "Tree" "told_row").ok,
  (He.Fa.noat "Tree" "pages").ok,
  (He.Fa.noat "Tree" "leaves").ok,
  (He.Fa.noat "Disk" "base").ok,
  (He.Fa.noat "Disk" "top").ok,
  (He.Fa.noat "Disk" "row").ok,
  (He.Fa.noat "Setting" "raises").ok,
  (He.Fa.noat "Setting" "lowers").ok,
  (He.Fa.noat "Setting" "flush_raises").ok,
  (He.Fa.noat "Setting" "flush_lowers").ok,
  (He.Fa.noat "Setting" "order").ok,
  (He.Fa.noat "Setting" "mends").ok,
  (He.Fa.glo "is_count").ok,
  (He.Fa.glo "are_told").ok,
  (He.Fa.mkr "Tree").ok,
  propB "Tree" "told",
  propB "Tree" "is_upright",
  (He.Fa.meth "Tree" "__eq__").ok,
  (He.Fa.meth "Tree" "__len__").ok,
  (He.Fa.meth "Tree" "__getitem__").ok,
  (He.Fa.meth "Tree" "leaf").ok,
  (He.Fa.meth "Tree" "way").ok,
  (He.Fa.meth "Tree" "greater").ok,
  (He.Fa.meth "Tree" "least_on_way").ok,
  (He.Fa.meth "Tree" "missed").ok,
  (He.Fa.meth "Tree" "mended").ok,
  (He.Fa.meth "Tree" "with_told").ok,
  (He.Fa.glo "check_tree").ok,
  (He.Fa.glo "check_above").ok,
  (He.Fa.glo "check_class").ok,
  (He.Fa.glo "raising").ok,
  (He.Fa.glo "lowering").ok,
  (He.Fa.glo "is_row").ok,
  (He.Fa.glo "check_row").ok,
  (He.Fa.glo "written").ok,
  (He.Fa.glo "stages").ok,
  (He.Fa.glo "is_one_of").ok,
  (He.Fa.glo "check_order").ok,
  (He.Fa.mkr "Disk").ok,
  propB "Disk" "now",
  (He.Fa.meth "Disk" "with_row").ok,
  (He.Fa.meth "Disk" "with_flush").ok,
  (He.Fa.meth "Disk" "can_tell").ok,
  (He.Fa.meth "Disk" "menus").ok,
  (He.Fa.meth "Disk" "prefixes").ok,
  (He.Fa.meth "Disk" "can_have").ok,
  (He.Fa.meth "Disk" "missable").ok,
  (He.Fa.glo "picked").ok,
  (He.Fa.glo "check_disk").ok,
  (He.Fa.mkr "Setting").ok,
  propB "Setting" "misses",
  (He.Fa.meth "Setting" "flushes").ok,
  (He.Fa.glo "check_setting").ok,
  (He.Fa.glo "is_deed").ok,
  (He.Fa.glo "deed_row").ok,
  (He.Fa.glo "all_written").ok,
  (He.Fa.glo "done_whole").ok,
  (He.Fa.glo "done_part").ok,
  (He.Fa.glo "crashed").ok,
  (He.Fa.glo "left_tree").ok,
  (He.Fa.glo "behind_crash").ok,
  (He.Fa.glo "behind_cut").ok,
  (He.Fa.glo "behind_part").ok,
  (He.Fa.glo "end_of").ok,
  (He.Fa.glo "is_run").ok,
  (He.Fa.glo "run_end").ok,
  (He.Fa.glo "shows_miss").ok,
  (He.Fa.glo "_law_opened").ok,
  (He.Fa.glo "_law_draw").ok,
  (He.Fa.glo "_law_pick").ok,
  (He.Fa.glo "_law_way").ok,
  (He.Fa.glo "_law_greater").ok,
  (He.Fa.glo "_law_write").ok,
  (He.Fa.glo "_law_raise").ok,
  (He.Fa.glo "_law_lower").ok,
  (He.Fa.glo "_law_is_upright").ok,
  (He.Fa.glo "_law_mend").ok,
  (He.Fa.glo "_law_drawn_told").ok,
  (He.Fa.glo "_law_parts").ok,
  (He.Fa.glo "_law_made").ok,
  (He.Fa.glo "_law_deed_rows").ok,
  (He.Fa.glo "_law_after").ok,
  (He.Fa.glo "_law_now").ok,
  (He.Fa.glo "_law_drawn_deed").ok,
  (He.Fa.glo "_law_is_class_row").ok,
  (He.Fa.glo "_law_can_have").ok,
  (He.Fa.glo "_law_crashed").ok,
  (He.Fa.glo "_law_step").ok,
  (He.Fa.glo "_law_some_left").ok,
  (He.Fa.glo "_law_drawn_part").ok,
  (He.Fa.glo "_law_good_parts").ok,
  (He.Fa.glo "law").ok,
  getB]
def defs : List DefP := [
  ⟨fun K => He.ga K "is_count", "is_count", "is_count", s_is_count⟩,
  ⟨fun K => He.ga K "are_told", "are_told", "are_told", s_are_told⟩,
  ⟨fun K => He.ma K (He.ga K "Tree") "__init__", "__init__", "Tree.__init__", s_Tree_init⟩,
  ⟨fun K => gA K (He.ga K "Tree") "told", "told", "Tree.told", s_Tree_told⟩,
  ⟨fun K => gA K (He.ga K "Tree") "is_upright", "is_upright", "Tree.is_upright", s_Tree_is_upright⟩,
  ⟨fun K => He.ma K (He.ga K "Tree") "__eq__", "__eq__", "Tree.__eq__", s_Tree_eq⟩,
  ⟨fun K => He.ma K (He.ga K "Tree") "__len__", "__len__", "Tree.__len__", s_Tree_len⟩,
  ⟨fun K => He.ma K (He.ga K "Tree") "__getitem__", "__getitem__", "Tree.__getitem__", s_Tree_getitem⟩,
  ⟨fun K => He.ma K (He.ga K "Tree") "leaf", "leaf", "Tree.leaf", s_Tree_leaf⟩,
  ⟨fun K => He.ma K (He.ga K "Tree") "way", "way", "Tree.way", s_Tree_way⟩,
  ⟨fun K => He.ma K (He.ga K "Tree") "greater", "greater", "Tree.greater", s_Tree_greater⟩,
  ⟨fun K => He.ma K (He.ga K "Tree") "least_on_way", "least_on_way", "Tree.least_on_way", s_Tree_least_on_way⟩,
  ⟨fun K => He.ma K (He.ga K "Tree") "missed", "missed", "Tree.missed", s_Tree_missed⟩,
  ⟨fun K => He.ma K (He.ga K "Tree") "mended", "mended", "Tree.mended", s_Tree_mended⟩,
  ⟨fun K => He.ma K (He.ga K "Tree") "with_told", "with_told", "Tree.with_told", s_Tree_with_told⟩,
  ⟨fun K => He.ga K "check_tree", "check_tree", "check_tree", s_check_tree⟩,
  ⟨fun K => He.ga K "check_above", "check_above", "check_above", s_check_above⟩,
  ⟨fun K => He.ga K "check_class", "check_class", "check_class", s_check_class⟩,
  ⟨fun K => He.ga K "raising", "raising", "raising", s_raising⟩,
  ⟨fun K => He.ga K "lowering", "lowering", "lowering", s_lowering⟩,
  ⟨fun K => He.ga K "is_row", "is_row", "is_row", s_is_row⟩,
  ⟨fun K => He.ga K "check_row", "check_row", "check_row", s_check_row⟩,
  ⟨fun K => He.ga K "written", "written", "written", s_written⟩,
  ⟨fun K => He.ga K "stages", "stages", "stages", s_stages⟩,
  ⟨fun K => He.ga K "is_one_of", "is_one_of", "is_one_of", s_is_one_of⟩,
  ⟨fun K => He.ga K "check_order", "check_order", "check_order", s_check_order⟩,
  ⟨fun K => He.ma K (He.ga K "Disk") "__init__", "__init__", "Disk.__init__", s_Disk_init⟩,
  ⟨fun K => gA K (He.ga K "Disk") "now", "now", "Disk.now", s_Disk_now⟩,
  ⟨fun K => He.ma K (He.ga K "Disk") "with_row", "with_row", "Disk.with_row", s_Disk_with_row⟩,
  ⟨fun K => He.ma K (He.ga K "Disk") "with_flush", "with_flush", "Disk.with_flush", s_Disk_with_flush⟩,
  ⟨fun K => He.ma K (He.ga K "Disk") "can_tell", "can_tell", "Disk.can_tell", s_Disk_can_tell⟩,
  ⟨fun K => He.ma K (He.ga K "Disk") "menus", "menus", "Disk.menus", s_Disk_menus⟩,
  ⟨fun K => He.ma K (He.ga K "Disk") "prefixes", "prefixes", "Disk.prefixes", s_Disk_prefixes⟩,
  ⟨fun K => He.ma K (He.ga K "Disk") "can_have", "can_have", "Disk.can_have", s_Disk_can_have⟩,
  ⟨fun K => He.ma K (He.ga K "Disk") "missable", "missable", "Disk.missable", s_Disk_missable⟩,
  ⟨fun K => He.ga K "picked", "picked", "picked", s_picked⟩,
  ⟨fun K => He.ga K "check_disk", "check_disk", "check_disk", s_check_disk⟩,
  ⟨fun K => He.ma K (He.ga K "Setting") "__init__", "__init__", "Setting.__init__", s_Setting_init⟩,
  ⟨fun K => gA K (He.ga K "Setting") "misses", "misses", "Setting.misses", s_Setting_misses⟩,
  ⟨fun K => He.ma K (He.ga K "Setting") "flushes", "flushes", "Setting.flushes", s_Setting_flushes⟩,
  ⟨fun K => He.ga K "check_setting", "check_setting", "check_setting", s_check_setting⟩,
  ⟨fun K => He.ga K "is_deed", "is_deed", "is_deed", s_is_deed⟩,
  ⟨fun K => He.ga K "deed_row", "deed_row", "deed_row", s_deed_row⟩,
  ⟨fun K => He.ga K "all_written", "all_written", "all_written", s_all_written⟩,
  ⟨fun K => He.ga K "done_whole", "done_whole", "done_whole", s_done_whole⟩,
  ⟨fun K => He.ga K "done_part", "done_part", "done_part", s_done_part⟩,
  ⟨fun K => He.ga K "crashed", "crashed", "crashed", s_crashed⟩,
  ⟨fun K => He.ga K "left_tree", "left_tree", "left_tree", s_left_tree⟩,
  ⟨fun K => He.ga K "behind_crash", "behind_crash", "behind_crash", s_behind_crash⟩,
  ⟨fun K => He.ga K "behind_cut", "behind_cut", "behind_cut", s_behind_cut⟩,
  ⟨fun K => He.ga K "behind_part", "behind_part", "behind_part", s_behind_part⟩,
  ⟨fun K => He.ga K "end_of", "end_of", "end_of", s_end_of⟩,
  ⟨fun K => He.ga K "is_run", "is_run", "is_run", s_is_run⟩,
  ⟨fun K => He.ga K "run_end", "run_end", "run_end", s_run_end⟩,
  ⟨fun K => He.ga K "shows_miss", "shows_miss", "shows_miss", s_shows_miss⟩,
  ⟨fun K => He.ga K "_law_opened", "_law_opened", "_law_opened", s_l_opened⟩,
  ⟨fun K => He.ga K "_law_draw", "_law_draw", "_law_draw", s_l_draw⟩,
  ⟨fun K => He.ga K "_law_pick", "_law_pick", "_law_pick", s_l_pick⟩,
  ⟨fun K => He.ga K "_law_way", "_law_way", "_law_way", s_l_way⟩,
  ⟨fun K => He.ga K "_law_greater", "_law_greater", "_law_greater", s_l_greater⟩,
  ⟨fun K => He.ga K "_law_write", "_law_write", "_law_write", s_l_write⟩,
  ⟨fun K => He.ga K "_law_raise", "_law_raise", "_law_raise", s_l_raise⟩,
  ⟨fun K => He.ga K "_law_lower", "_law_lower", "_law_lower", s_l_lower⟩,
  ⟨fun K => He.ga K "_law_is_upright", "_law_is_upright", "_law_is_upright", s_l_is_upright⟩,
  ⟨fun K => He.ga K "_law_mend", "_law_mend", "_law_mend", s_l_mend⟩,
  ⟨fun K => He.ga K "_law_drawn_told", "_law_drawn_told", "_law_drawn_told", s_l_drawn_told⟩,
  ⟨fun K => He.ga K "_law_parts", "_law_parts", "_law_parts", s_l_parts⟩,
  ⟨fun K => He.ga K "_law_made", "_law_made", "_law_made", s_l_made⟩,
  ⟨fun K => He.ga K "_law_deed_rows", "_law_deed_rows", "_law_deed_rows", s_l_deed_rows⟩,
  ⟨fun K => He.ga K "_law_after", "_law_after", "_law_after", s_l_after⟩,
  ⟨fun K => He.ga K "_law_now", "_law_now", "_law_now", s_l_now⟩,
  ⟨fun K => He.ga K "_law_drawn_deed", "_law_drawn_deed", "_law_drawn_deed", s_l_drawn_deed⟩,
  ⟨fun K => He.ga K "_law_is_class_row", "_law_is_class_row", "_law_is_class_row", s_l_is_class_row⟩,
  ⟨fun K => He.ga K "_law_can_have", "_law_can_have", "_law_can_have", s_l_can_have⟩,
  ⟨fun K => He.ga K "_law_crashed", "_law_crashed", "_law_crashed", s_l_crashed⟩,
  ⟨fun K => He.ga K "_law_step", "_law_step", "_law_step", s_l_step⟩,
  ⟨fun K => He.ga K "_law_some_left", "_law_some_left", "_law_some_left", s_l_some_left⟩,
  ⟨fun K => He.ga K "_law_drawn_part", "_law_drawn_part", "_law_drawn_part", s_l_drawn_part⟩,
  ⟨fun K => He.ga K "_law_good_parts", "_law_good_parts", "_law_good_parts", s_l_good_parts⟩,
  ⟨fun K => He.ga K "law", "law", "law", s_law⟩]
def gnames0 : List Str := ["PAGES", "ORDERS", "SIDES", "WORDS", "Tree", "Disk", "Setting", "is_count", "are_told", "check_tree", "check_above", "check_class", "raising", "lowering", "is_row", "check_row", "written", "stages", "is_one_of", "check_order", "picked", "check_disk", "check_setting", "is_deed", "deed_row"]
def gnames1 : List Str := ["all_written", "done_whole", "done_part", "crashed", "left_tree", "behind_crash", "behind_cut", "behind_part", "end_of", "is_run", "run_end", "shows_miss", "_law_opened", "_law_draw", "_law_pick", "_law_way", "_law_greater", "_law_write", "_law_raise", "_law_lower", "_law_is_upright", "_law_mend", "_law_drawn_told", "_law_parts", "_law_made"]
def gnames2 : List Str := ["_law_deed_rows", "_law_after", "_law_now", "_law_drawn_deed", "_law_is_class_row", "_law_can_have", "_law_crashed", "_law_step", "_law_some_left", "_law_drawn_part", "_law_good_parts", "law"]
def gnames : List Str := gnames0 ++ (gnames1 ++ (gnames2))
theorem txt_of {K : PySem.W.Frag} {h : Heap} {mg : Str → Option Value} (X : K.In h) (G : h.Ns mainGlobals mg) (c : SaysP facts defs K) : Txt K mg where
  m_isinstance := He.free_ok X G (c.fact 0 rfl)
  m_int := He.free_ok X G (c.fact 1 rfl)
  m_bool := He.free_ok X G (c.fact 2 rfl)
  m_list := He.free_ok X G (c.fact 3 rfl)
  m_tuple := He.free_ok X G (c.fact 4 rfl)
  m_str := He.free_ok X G (c.fact 5 rfl)
  m_len := He.free_ok X G (c.fact 6 rfl)
  m_range := He.free_ok X G (c.fact 7 rfl)
  m_max := He.free_ok X G (c.fact 8 rfl)
  m_min := He.free_ok X G (c.fact 9 rfl)
  m_all := He.free_ok X G (c.fact 10 rfl)
  m_sorted := He.free_ok X G (c.fact 11 rfl)
  m_zip := He.free_ok X G (c.fact 12 rfl)
  m_enumerate := He.free_ok X G (c.fact 13 rfl)
  g_MOST_BOUNDS := by
    obtain ⟨t, h⟩ := He.int_ok X G (c.fact 14 rfl)
    exact ⟨_, h, t, rfl⟩
  g_PAGES := He.glo_ok X G (c.fact 15 rfl)
  q_PAGES := fun H => He.tupB_ok (vs := [.int 2, .int 4, .int 8, .int 16, .int 32]) (c.fact 16 rfl) H
  g_ORDERS := He.glo_ok X G (c.fact 17 rfl)
  q_ORDERS := fun H => He.tupB_ok (vs := [.str "in order", .str "anyhow"]) (c.fact 18 rfl) H
  g_SIDES := He.glo_ok X G (c.fact 19 rfl)
  q_SIDES := fun H => He.tupB_ok (vs := [.str "above", .str "below"]) (c.fact 20 rfl) H
  g_WORDS := He.glo_ok X G (c.fact 21 rfl)
  q_WORDS := fun H => He.tupB_ok (vs := [.str "raise", .str "lower"]) (c.fact 22 rfl) H
  g_Tree := He.glo_ok X G (c.fact 23 rfl)
  i_Tree := insB_ok (He.cls_ok (c.fact 24 rfl)) (c.fact 25 rfl)
  g_Disk := He.glo_ok X G (c.fact 26 rfl)
  i_Disk := insB_ok (He.cls_ok (c.fact 27 rfl)) (c.fact 28 rfl)
  g_Setting := He.glo_ok X G (c.fact 29 rfl)
  i_Setting := insB_ok (He.cls_ok (c.fact 30 rfl)) (c.fact 31 rfl)
  na_Tree_classes := He.noat_ok (c.fact 32 rfl)
  na_Tree_told_row := He.noat_ok (c.fact 33 rfl)
  na_Tree_pages := He.noat_ok (c.fact 34 rfl)
  na_Tree_leaves := He.noat_ok (c.fact 35 rfl)
  na_Disk_base := He.noat_ok (c.fact 36 rfl)
  na_Disk_top := He.noat_ok (c.fact 37 rfl)
  na_Disk_row := He.noat_ok (c.fact 38 rfl)
  na_Setting_raises := He.noat_ok (c.fact 39 rfl)
  na_Setting_lowers := He.noat_ok (c.fact 40 rfl)
  na_Setting_flush_raises := He.noat_ok (c.fact 41 rfl)
  na_Setting_flush_lowers := He.noat_ok (c.fact 42 rfl)
  na_Setting_order := He.noat_ok (c.fact 43 rfl)
  na_Setting_mends := He.noat_ok (c.fact 44 rfl)
  f_is_count := ⟨_, _, (c.def_ 0 rfl).choose_spec, He.glo_ok X G (c.fact 45 rfl)⟩
  f_are_told := ⟨_, _, (c.def_ 1 rfl).choose_spec, He.glo_ok X G (c.fact 46 rfl)⟩
  f_Tree_init := ⟨_, _, (c.def_ 2 rfl).choose_spec, He.mkr_ok (c.fact 47 rfl)⟩
  f_Tree_told := ⟨_, _, _, (c.def_ 3 rfl).choose_spec, propB_ok (c.fact 48 rfl)⟩
  f_Tree_is_upright := ⟨_, _, _, (c.def_ 4 rfl).choose_spec, propB_ok (c.fact 49 rfl)⟩
  f_Tree_eq := ⟨_, _, (c.def_ 5 rfl).choose_spec, He.meth_ok (c.fact 50 rfl)⟩
  f_Tree_len := ⟨_, _, (c.def_ 6 rfl).choose_spec, He.meth_ok (c.fact 51 rfl)⟩
  f_Tree_getitem := ⟨_, _, (c.def_ 7 rfl).choose_spec, He.meth_ok (c.fact 52 rfl)⟩
  f_Tree_leaf := ⟨_, _, (c.def_ 8 rfl).choose_spec, He.meth_ok (c.fact 53 rfl)⟩
  f_Tree_way := ⟨_, _, (c.def_ 9 rfl).choose_spec, He.meth_ok (c.fact 54 rfl)⟩
  f_Tree_greater := ⟨_, _, (c.def_ 10 rfl).choose_spec, He.meth_ok (c.fact 55 rfl)⟩
  f_Tree_least_on_way := ⟨_, _, (c.def_ 11 rfl).choose_spec, He.meth_ok (c.fact 56 rfl)⟩
  f_Tree_missed := ⟨_, _, (c.def_ 12 rfl).choose_spec, He.meth_ok (c.fact 57 rfl)⟩
  f_Tree_mended := ⟨_, _, (c.def_ 13 rfl).choose_spec, He.meth_ok (c.fact 58 rfl)⟩
  f_Tree_with_told := ⟨_, _, (c.def_ 14 rfl).choose_spec, He.meth_ok (c.fact 59 rfl)⟩
  f_check_tree := ⟨_, _, (c.def_ 15 rfl).choose_spec, He.glo_ok X G (c.fact 60 rfl)⟩
  f_check_above := ⟨_, _, (c.def_ 16 rfl).choose_spec, He.glo_ok X G (c.fact 61 rfl)⟩
  f_check_class := ⟨_, _, (c.def_ 17 rfl).choose_spec, He.glo_ok X G (c.fact 62 rfl)⟩
  f_raising := ⟨_, _, (c.def_ 18 rfl).choose_spec, He.glo_ok X G (c.fact 63 rfl)⟩
  f_lowering := ⟨_, _, (c.def_ 19 rfl).choose_spec, He.glo_ok X G (c.fact 64 rfl)⟩
  f_is_row := ⟨_, _, (c.def_ 20 rfl).choose_spec, He.glo_ok X G (c.fact 65 rfl)⟩
  f_check_row := ⟨_, _, (c.def_ 21 rfl).choose_spec, He.glo_ok X G (c.fact 66 rfl)⟩
  f_written := ⟨_, _, (c.def_ 22 rfl).choose_spec, He.glo_ok X G (c.fact 67 rfl)⟩
  f_stages := ⟨_, _, (c.def_ 23 rfl).choose_spec, He.glo_ok X G (c.fact 68 rfl)⟩
  f_is_one_of := ⟨_, _, (c.def_ 24 rfl).choose_spec, He.glo_ok X G (c.fact 69 rfl)⟩
  f_check_order := ⟨_, _, (c.def_ 25 rfl).choose_spec, He.glo_ok X G (c.fact 70 rfl)⟩
  f_Disk_init := ⟨_, _, (c.def_ 26 rfl).choose_spec, He.mkr_ok (c.fact 71 rfl)⟩
  f_Disk_now := ⟨_, _, _, (c.def_ 27 rfl).choose_spec, propB_ok (c.fact 72 rfl)⟩
  f_Disk_with_row := ⟨_, _, (c.def_ 28 rfl).choose_spec, He.meth_ok (c.fact 73 rfl)⟩
  f_Disk_with_flush := ⟨_, _, (c.def_ 29 rfl).choose_spec, He.meth_ok (c.fact 74 rfl)⟩
  f_Disk_can_tell := ⟨_, _, (c.def_ 30 rfl).choose_spec, He.meth_ok (c.fact 75 rfl)⟩
  f_Disk_menus := ⟨_, _, (c.def_ 31 rfl).choose_spec, He.meth_ok (c.fact 76 rfl)⟩
  f_Disk_prefixes := ⟨_, _, (c.def_ 32 rfl).choose_spec, He.meth_ok (c.fact 77 rfl)⟩
  f_Disk_can_have := ⟨_, _, (c.def_ 33 rfl).choose_spec, He.meth_ok (c.fact 78 rfl)⟩
  f_Disk_missable := ⟨_, _, (c.def_ 34 rfl).choose_spec, He.meth_ok (c.fact 79 rfl)⟩
  f_picked := ⟨_, _, (c.def_ 35 rfl).choose_spec, He.glo_ok X G (c.fact 80 rfl)⟩
  f_check_disk := ⟨_, _, (c.def_ 36 rfl).choose_spec, He.glo_ok X G (c.fact 81 rfl)⟩
  f_Setting_init := ⟨_, _, (c.def_ 37 rfl).choose_spec, He.mkr_ok (c.fact 82 rfl)⟩
  f_Setting_misses := ⟨_, _, _, (c.def_ 38 rfl).choose_spec, propB_ok (c.fact 83 rfl)⟩
  f_Setting_flushes := ⟨_, _, (c.def_ 39 rfl).choose_spec, He.meth_ok (c.fact 84 rfl)⟩
  f_check_setting := ⟨_, _, (c.def_ 40 rfl).choose_spec, He.glo_ok X G (c.fact 85 rfl)⟩
  f_is_deed := ⟨_, _, (c.def_ 41 rfl).choose_spec, He.glo_ok X G (c.fact 86 rfl)⟩
  f_deed_row := ⟨_, _, (c.def_ 42 rfl).choose_spec, He.glo_ok X G (c.fact 87 rfl)⟩
  f_all_written := ⟨_, _, (c.def_ 43 rfl).choose_spec, He.glo_ok X G (c.fact 88 rfl)⟩
  f_done_whole := ⟨_, _, (c.def_ 44 rfl).choose_spec, He.glo_ok X G (c.fact 89 rfl)⟩
  f_done_part := ⟨_, _, (c.def_ 45 rfl).choose_spec, He.glo_ok X G (c.fact 90 rfl)⟩
  f_crashed := ⟨_, _, (c.def_ 46 rfl).choose_spec, He.glo_ok X G (c.fact 91 rfl)⟩
  f_left_tree := ⟨_, _, (c.def_ 47 rfl).choose_spec, He.glo_ok X G (c.fact 92 rfl)⟩
  f_behind_crash := ⟨_, _, (c.def_ 48 rfl).choose_spec, He.glo_ok X G (c.fact 93 rfl)⟩
  f_behind_cut := ⟨_, _, (c.def_ 49 rfl).choose_spec, He.glo_ok X G (c.fact 94 rfl)⟩
  f_behind_part := ⟨_, _, (c.def_ 50 rfl).choose_spec, He.glo_ok X G (c.fact 95 rfl)⟩
  f_end_of := ⟨_, _, (c.def_ 51 rfl).choose_spec, He.glo_ok X G (c.fact 96 rfl)⟩
  f_is_run := ⟨_, _, (c.def_ 52 rfl).choose_spec, He.glo_ok X G (c.fact 97 rfl)⟩
  f_run_end := ⟨_, _, (c.def_ 53 rfl).choose_spec, He.glo_ok X G (c.fact 98 rfl)⟩
  f_shows_miss := ⟨_, _, (c.def_ 54 rfl).choose_spec, He.glo_ok X G (c.fact 99 rfl)⟩
  f_l_opened := ⟨_, _, (c.def_ 55 rfl).choose_spec, He.glo_ok X G (c.fact 100 rfl)⟩
  f_l_draw := ⟨_, _, (c.def_ 56 rfl).choose_spec, He.glo_ok X G (c.fact 101 rfl)⟩
  f_l_pick := ⟨_, _, (c.def_ 57 rfl).choose_spec, He.glo_ok X G (c.fact 102 rfl)⟩
  f_l_way := ⟨_, _, (c.def_ 58 rfl).choose_spec, He.glo_ok X G (c.fact 103 rfl)⟩
  f_l_greater := ⟨_, _, (c.def_ 59 rfl).choose_spec, He.glo_ok X G (c.fact 104 rfl)⟩
  f_l_write := ⟨_, _, (c.def_ 60 rfl).choose_spec, He.glo_ok X G (c.fact 105 rfl)⟩
  f_l_raise := ⟨_, _, (c.def_ 61 rfl).choose_spec, He.glo_ok X G (c.fact 106 rfl)⟩
  f_l_lower := ⟨_, _, (c.def_ 62 rfl).choose_spec, He.glo_ok X G (c.fact 107 rfl)⟩
  f_l_is_upright := ⟨_, _, (c.def_ 63 rfl).choose_spec, He.glo_ok X G (c.fact 108 rfl)⟩
  f_l_mend := ⟨_, _, (c.def_ 64 rfl).choose_spec, He.glo_ok X G (c.fact 109 rfl)⟩
  f_l_drawn_told := ⟨_, _, (c.def_ 65 rfl).choose_spec, He.glo_ok X G (c.fact 110 rfl)⟩
  f_l_parts := ⟨_, _, (c.def_ 66 rfl).choose_spec, He.glo_ok X G (c.fact 111 rfl)⟩
  f_l_made := ⟨_, _, (c.def_ 67 rfl).choose_spec, He.glo_ok X G (c.fact 112 rfl)⟩
  f_l_deed_rows := ⟨_, _, (c.def_ 68 rfl).choose_spec, He.glo_ok X G (c.fact 113 rfl)⟩
  f_l_after := ⟨_, _, (c.def_ 69 rfl).choose_spec, He.glo_ok X G (c.fact 114 rfl)⟩
  f_l_now := ⟨_, _, (c.def_ 70 rfl).choose_spec, He.glo_ok X G (c.fact 115 rfl)⟩
  f_l_drawn_deed := ⟨_, _, (c.def_ 71 rfl).choose_spec, He.glo_ok X G (c.fact 116 rfl)⟩
  f_l_is_class_row := ⟨_, _, (c.def_ 72 rfl).choose_spec, He.glo_ok X G (c.fact 117 rfl)⟩
  f_l_can_have := ⟨_, _, (c.def_ 73 rfl).choose_spec, He.glo_ok X G (c.fact 118 rfl)⟩
  f_l_crashed := ⟨_, _, (c.def_ 74 rfl).choose_spec, He.glo_ok X G (c.fact 119 rfl)⟩
  f_l_step := ⟨_, _, (c.def_ 75 rfl).choose_spec, He.glo_ok X G (c.fact 120 rfl)⟩
  f_l_some_left := ⟨_, _, (c.def_ 76 rfl).choose_spec, He.glo_ok X G (c.fact 121 rfl)⟩
  f_l_drawn_part := ⟨_, _, (c.def_ 77 rfl).choose_spec, He.glo_ok X G (c.fact 122 rfl)⟩
  f_l_good_parts := ⟨_, _, (c.def_ 78 rfl).choose_spec, He.glo_ok X G (c.fact 123 rfl)⟩
  f_law := ⟨_, _, (c.def_ 79 rfl).choose_spec, He.glo_ok X G (c.fact 124 rfl)⟩
  d_Tree_getitem := getB_ok (c.fact 125 rfl)


end
/-! part P91 -/
section
/-! ### the head: the run -/
abbrev Rw : PySem.W.OpenRow := PySem.W.OpenLaw.row PySem.Challenge.rw_roomtold_k47_whole_settings_that_never_m
abbrev qv : Program := PySem.W.view Rw.prog [80]
def names1 : List PySem.Str := ["_wall", "RoomError", "BadTree", "BadPage", "BadNode", "BadClass", "BadArgument", "BadNumber", "BadSetting", "BadChange", "MOST_BOUNDS", "is_count", "PAGES", "are_told", "Tree", "check_tree", "check_above", "check_class", "raising", "lowering", "is_row", "check_row", "written", "stages", "ORDERS", "is_one_of", "check_order", "Disk", "picked", "check_disk"]
def names2 : List PySem.Str := ["SIDES", "WORDS", "Setting", "check_setting", "is_deed", "deed_row", "all_written", "done_whole", "done_part", "crashed", "left_tree", "behind_crash", "behind_cut", "behind_part", "end_of", "is_run", "run_end", "shows_miss", "_law_opened", "_law_draw", "_law_pick", "_law_way", "_law_greater", "_law_write", "_law_raise", "_law_lower", "_law_is_upright", "_law_mend", "_law_drawn_told", "_law_parts"]
def names3 : List PySem.Str := ["_law_made", "_law_deed_rows", "_law_after", "_law_now", "_law_drawn_deed", "_law_is_class_row", "_law_can_have", "_law_crashed", "_law_step", "_law_some_left", "_law_drawn_part", "_law_good_parts"]
def names : List PySem.Str := names1 ++ (names2 ++ names3)
abbrev hk : PySem.W.Hook := hookP gnames facts defs
def ob (s : PySem.W.SharedT) : AlP := obsPG gnames facts defs (HandSHeadRun.getT s)
theorem ob_eq (s : PySem.W.SharedT) : ob s = hk.obs s.abs := obsPG_eq (HandSHeadRun.getT_eq s)
theorem run (w : World) : HandSHeadRun.RunEq Rw qv hk ob 12000 names w := by
  intro os
  kernel_rfl


end
/-! part P92 -/
theorem facts_law {P : Program} {w : World} {K : PySem.W.Frag} {h : Heap} {mg : Str → Option Value} {f : Addr} (X : K.In h) (G : h.Ns mainGlobals mg) (hfa : mg ("law" : Str) = some (.ref f)) (c : SaysP facts defs K) :
    ∃ fd : FuncData, (∀ (s : Shared) (v : Value), BindsTo s fd ⟨[v], []⟩ [("_law_script", v)]) ∧ ∀ base : Heap, K.In base → base.Ns mainGlobals mg → FnOk P w K mg base CX0 30 f fd ["_law_script"] (spLaw K) := by
  have T := txt_of X G c
  obtain ⟨f', fd, F, gm⟩ := T.f_law
  rw [hfa] at gm
  cases gm
  have b := FunD.bindsA (ps := ["_law_script"]) F fun _ _ _ _ _ _ us hl => match us, hl with | [_], _ => rfl
  exact ⟨fd, fun s v => b s [v] rfl, fun base _ _ => fn_law T F⟩
end R47
open PySem PySem.W PySem.Calls PyProof.Rows
theorem PySem.Challenge.cw_roomtold_k47_whole_settings_that_never_m_holds : PySem.Challenge.rw_roomtold_k47_whole_settings_that_never_m.Holds := by
  w_on; o_law
  refine HandSHeadRun.head_any (r := OpenLaw.row PySem.Challenge.rw_roomtold_k47_whole_settings_that_never_m) (q := view (OpenLaw.row PySem.Challenge.rw_roomtold_k47_whole_settings_that_never_m).prog [80]) (H := R47.hk) (ob := R47.ob) (M := 12000) (loose := R47.names) (d := HandSHeadRun.topDef (OpenLaw.row PySem.Challenge.rw_roomtold_k47_whole_settings_that_never_m).prog 80) (kwd := []) R47.ob_eq
    (by kernel_rfl) (fun s => by kernel_rfl) R47.run (by kernel_rfl) (by kernel_rfl) (by kernel_rfl) (by rfl) (by first | assumption | decide +kernel) (by decide +kernel) ⟨rfl, rfl, rfl, rfl, rfl, by decide +kernel⟩ ?hw ?hc
  case hw => w_witness2
  case hc =>
    refine L2.walk_ofE (l := PySem.Challenge.rw_roomtold_k47_whole_settings_that_never_m) (n := 63) (k := 30) (x := "_law_script") (CX := L2.CX0) rfl (by decide) (by kernel_rfl) ⟨rfl, by decide, by decide⟩ ?F (fun _ _ _ _ z => z)
    intro w mg fa h Y G hmg0
    obtain ⟨K, KX, c⟩ := Y
    have hmg : mg ("law" : PySem.Str) = some (.ref fa) := by
      have e : (HandSHeadRun.topDef (OpenLaw.row PySem.Challenge.rw_roomtold_k47_whole_settings_that_never_m).prog 80).name = ("law" : PySem.Str) := by kernel_rfl
      rw [← e]
      exact hmg0
    obtain ⟨fd, hb, hF⟩ := R47.facts_law (P := (PySem.Challenge.rw_roomtold_k47_whole_settings_that_never_m).prog) (w := w) KX G hmg c
    exact ⟨K, fd, R47.spLaw K, KX, hb, fun H a ns hl _ hS => ⟨a, ns, rfl, hS, fun _ => rfl⟩, hF⟩
namespace R47


end R47
