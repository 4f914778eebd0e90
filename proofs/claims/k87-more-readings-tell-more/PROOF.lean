import PyProof.Rows.All
import Wide.All
import OpenK.AllK
import Wide.FinOn
import HandS.ForMost
import HandS.More
import HandS.Codes
import HandS.Conv
import HandS.Defaults
import HandS.DictComp
import HandS.DeepEq
import HandS.Property
import HandS.SetKeys
import HandS.Set
import HandS.Sort
import HandS.Keys
import HandS.Style
import PySem.Challenge.RW_metersure_k87_whole_more_readings_tell_m
import HandS.Strs
import HandS.TupSets
import HandS.DictTup
import KE.KSortTupAny
import KE.KEqDict
import KE.DataEq
import PyProof.Rows.SortStr
import KE.KStateDown
import HandS.Ends
import HandS.Words
import HandS.WordsExc
import HandS.Head0
import HandS.Head1
import HandS.Head2
import HandS.HeadEnd
import HandS.HeadHook1
import HandS.HeadHook2
set_option Elab.async false
set_option linter.all false
set_option maxRecDepth 100000
set_option maxHeartbeats 4000000
/-! W0: the text by places; bundles for calls; small rules that the layer lacks. -/
namespace Mh
open PySem PySem.Spec PyProof.Rows L2
open C8 (Cal Mak Met pe_c pe_mk pe_mt pe_mt0 pe_gc)

abbrev PW : Program := PySem.Challenge.pw_metersure_k87_whole_more_readings_tell_m
def top (i : Nat) : Stmt := PW.main.body.getD i (.Pass ⟨0, 0, 0, 0⟩)

/-! ### bundles -/
/-- the def st stands under the module's name x, parameters ps -/
def Df (K : PySem.W.Frag) (mg : Str → Option Value) (x : Str) (st : Stmt) (ps : List Str) : Prop :=
  ∃ f fd, FunD K x x (defArgs st) (defBody st) (defScope st) [] [] f fd ∧ mg x = some (.ref f) ∧ Binds K fd ps []
/-- the def st is the method m of the class at C -/
def Dm (K : PySem.W.Frag) (C : Addr) (m qual : Str) (st : Stmt) (ps : List Str) : Prop :=
  ∃ f fd, FunD K m qual (defArgs st) (defBody st) (defScope st) [] [] f fd ∧ Cls K C ∧ Meth K C m f ∧ Binds K fd ps []
/-- the class at C is made by its name x, with the __init__ st -/
def Dk (K : PySem.W.Frag) (mg : Str → Option Value) (x qual : Str) (C : Addr) (st : Stmt) (ps : List Str) : Prop :=
  ∃ f fd, FunD K "__init__" qual (defArgs st) (defBody st) (defScope st) [] [] f fd ∧ Mk K C f ∧ mg x = some (.ref C) ∧ Binds K fd ps []
/-- the property f of the class at C has the getter st -/
def Dp (K : PySem.W.Frag) (C : Addr) (f qual : Str) (st : Stmt) (ps : List Str) : Prop :=
  ∃ p g fd, FunD K f qual (defArgs st) (defBody st) (defScope st) [] [] g fd ∧ Cls K C ∧ PropOf K C f p g ∧ Binds K fd ps []
/-- a property that may be read -/
def Prp (P : Program) (w : World) (K : PySem.W.Frag) (mg : Str → Option Value) (base : Heap) (k : Nat) (C : Addr) (f : Str) (sp : Sp) : Prop :=
  ∃ (p g : Addr) (fd : FuncData) (ps : List Str), Cls K C ∧ PropOf K C f p g ∧ FnOk P w K mg base CX0 k g fd ps sp ∧ Binds K fd ps []

section
variable {P : Program} {w : World} {K : PySem.W.Frag} {mg : Str → Option Value} {base : Heap} {x m qual : Str} {st : Stmt} {N ps : List Str} {k : Nat} {sp : Sp} {C : Addr}
theorem fn_mk {f : Addr} {fd : FuncData} (F : FunD K x qual (defArgs st) (defBody st) (defScope st) [] [] f fd) (S : FnScope N ps (defScope st)) (len : ∀ vs H Q E, sp vs H Q E → vs.length = ps.length)
    (hbody : ∀ (cdv : Value) (A : Around) (outer : List Env) (s : Shared) (H : Hp) (vs : List V) (Q : VK) (E : XK) (f : Addr), Room k (A.deeper (envOfC qual (defScope st) s.heap.objs.size f cdv)) → sp vs H Q E →
      ∃ t, PSs (cxOf CX0 P w K mg base N qual (defScope st) f cdv A outer s H E).nox (defBody st) t ∧ t { nx := fun _ H' => Q .non H', rt := Q } (start N vs) H) : FnOk P w K mg base CX0 (k + 1) f fd ps sp := by
  refine FunD.ok F S len fun cdv A outer s H vs Q E hr h => ?_
  obtain ⟨t, h1, h2⟩ := hbody cdv A outer s H vs Q E f hr h
  exact ⟨t, h1.nox, h2⟩
theorem cal_mk (D : Df K mg x st ps) (S : FnScope N ps (defScope st)) (len : ∀ vs H Q E, sp vs H Q E → vs.length = ps.length)
    (hbody : ∀ (cdv : Value) (A : Around) (outer : List Env) (s : Shared) (H : Hp) (vs : List V) (Q : VK) (E : XK) (f : Addr), Room k (A.deeper (envOfC x (defScope st) s.heap.objs.size f cdv)) → sp vs H Q E →
      ∃ t, PSs (cxOf CX0 P w K mg base N x (defScope st) f cdv A outer s H E).nox (defBody st) t ∧ t { nx := fun _ H' => Q .non H', rt := Q } (start N vs) H) : Cal P w K mg base (k + 1) x sp [] := by
  obtain ⟨f, fd, F, hm, hb⟩ := D
  exact ⟨f, fd, ps, [], fn_mk F S len hbody, hm, F.kp, hb, .nil⟩
theorem met_mk (D : Dm K C m qual st ps) (S : FnScope N ps (defScope st)) (len : ∀ vs H Q E, sp vs H Q E → vs.length = ps.length)
    (hbody : ∀ (cdv : Value) (A : Around) (outer : List Env) (s : Shared) (H : Hp) (vs : List V) (Q : VK) (E : XK) (f : Addr), Room k (A.deeper (envOfC qual (defScope st) s.heap.objs.size f cdv)) → sp vs H Q E →
      ∃ t, PSs (cxOf CX0 P w K mg base N qual (defScope st) f cdv A outer s H E).nox (defBody st) t ∧ t { nx := fun _ H' => Q .non H', rt := Q } (start N vs) H) : Met P w K mg base (k + 1) C m sp [] := by
  obtain ⟨f, fd, F, hc, hm, hb⟩ := D
  exact ⟨f, fd, ps, [], hc, hm, fn_mk F S len hbody, hb, .nil⟩
theorem mak_mk (D : Dk K mg x qual C st ps) (S : FnScope N ps (defScope st)) (len : ∀ vs H Q E, sp vs H Q E → vs.length = ps.length)
    (hbody : ∀ (cdv : Value) (A : Around) (outer : List Env) (s : Shared) (H : Hp) (vs : List V) (Q : VK) (E : XK) (f : Addr), Room k (A.deeper (envOfC qual (defScope st) s.heap.objs.size f cdv)) → sp vs H Q E →
      ∃ t, PSs (cxOf CX0 P w K mg base N qual (defScope st) f cdv A outer s H E).nox (defBody st) t ∧ t { nx := fun _ H' => Q .non H', rt := Q } (start N vs) H) : Mak P w K mg base (k + 1) x C sp [] := by
  obtain ⟨f, fd, F, hk, hm, hb⟩ := D
  exact ⟨f, fd, ps, [], hk, fn_mk F S len hbody, hm, hb, .nil⟩
theorem prp_mk (D : Dp K C m qual st ps) (S : FnScope N ps (defScope st)) (len : ∀ vs H Q E, sp vs H Q E → vs.length = ps.length)
    (hbody : ∀ (cdv : Value) (A : Around) (outer : List Env) (s : Shared) (H : Hp) (vs : List V) (Q : VK) (E : XK) (f : Addr), Room k (A.deeper (envOfC qual (defScope st) s.heap.objs.size f cdv)) → sp vs H Q E →
      ∃ t, PSs (cxOf CX0 P w K mg base N qual (defScope st) f cdv A outer s H E).nox (defBody st) t ∧ t { nx := fun _ H' => Q .non H', rt := Q } (start N vs) H) : Prp P w K mg base (k + 1) C m sp := by
  obtain ⟨p, g, fd, F, hc, hp, hb⟩ := D
  exact ⟨p, g, fd, ps, hc, hp, fn_mk F S len hbody, hb⟩
theorem hu64 {A : Around} (hr : Room k A) : A.units + 64 < cLine := by have := hr.un; omega
end

section
variable {X : Cx} {k j : Nat} {C : Addr} {f : Str} {sp : Sp} {pos : Pos} {e : Expr} {te : TE}
/-- plant.knots -/
theorem pe_pr (c : Prp X.prog X.w X.K X.mg X.base k C f sp) (hr : Room j X.A) (hk : k + 1 ≤ j) (he : PE X e te) (hab : attributeBase e f X.env (eval e X.env) = eval e X.env) : PE X (.Attribute e f pos) (tProp C sp [] E0 te) := by
  obtain ⟨p, g, fd, ps, hc, hp, F, hb⟩ := c
  exact pe_prop he hc hp F (hr.mono hk) hb .nil pass0 hab
end

/-! ### a op b op c op d -/
section
variable {X : Cx} {a b c d : Expr} {ta tb tc td : TE} {pos : Pos}
def tChain3 (r r' r'' : R2) (ta tb tc td : TE) : TE := fun σ H Q => ta σ H fun x H1 => tb σ H1 fun y H2 => r x y H2 fun z H3 => ∃ k, z = .bl k ∧
  (if k = true then tc σ H3 fun u H4 => r' y u H4 fun z' H5 => ∃ k', z' = .bl k' ∧ (if k' = true then td σ H5 fun v H6 => r'' u v H6 Q else Q (.bl false) H5) else Q (.bl false) H3)
theorem pe_chain3 {op op' op'' : CmpOp} {r r' r'' : R2} (ho : OpR X (compareOp op) r) (ho' : OpR X (compareOp op') r') (ho'' : OpR X (compareOp op'') r'') (ha : PE X a ta) (hb : PE X b tb) (hc : PE X c tc) (hd : PE X d td)
    (hm : lastMarks [op, op', op''] [b, c, d] = false := by with_unfolding_all rfl) : PE X (.Compare a [op, op', op''] [b, c, d] pos) (tChain3 r r' r'' ta tb tc td) := by
  refine ⟨fun pins s σ H Q I h => ?_⟩
  refine Compare_chain (thn (ha.run pins s σ H _ I h) fun v s1 ⟨x, H1, I1, r1, q1⟩ => chain_link (thn (hb.run pins s1 σ H1 _ I1 q1) fun u s2 ⟨y, H2, I2, r2, q2⟩ =>
    thn (ho pins s2 σ H2 x y v u _ I2 r1 r2 q2) fun d s3 ⟨z, H3, I3, r3, k, e, q3⟩ => ?_)) hm
  subst e
  cases r3
  refine wpAny_truthy_bool ?_
  cases k with
  | false => exact ite_ff ⟨.bl false, H3, I3, rfl, q3⟩
  | true =>
    refine ite_tt (chain_link (thn (hc.run pins s3 σ H3 _ I3 q3) fun w' s4 ⟨z', H4, I4, r4, q4⟩ => thn (ho' pins s4 σ H4 y z' u w' _ I4 r2 r4 q4) fun d' s5 ⟨z2, H5, I5, r5, k2, e2, q5⟩ => ?_))
    subst e2
    cases r5
    refine wpAny_truthy_bool ?_
    cases k2 with
    | false => exact ite_ff ⟨.bl false, H5, I5, rfl, q5⟩
    | true => exact ite_tt (chain_last (thn (hd.run pins s5 σ H5 _ I5 q5) fun w2 s6 ⟨z3, H6, I6, r6, q6⟩ => ho'' pins s6 σ H6 z' z3 w' w2 Q I6 r4 r6 q6))
end

/-! ### y = {k: v for ..} where the store stands in the comprehension's frame -/
section
variable {X : Cx}
theorem ps_setDc {i : Nat} {y : Str} {py : Pos} {kx vx tg iter : Expr} {ifs : List Expr} {scope : Scope} {own : List (Str × Nat)} {pos spos : Pos} {wi : TI} {g : TG} {tt : TT} {tk tv : TE} (hc : X.calm = true) (hN : X.N.Nodup) (hy : X.N[i]? = some y) (hyl : X.env.scope.names.lookup y = some .local)
    (hsw : swapsWith (.DictComp kx vx [⟨tg, iter, ifs, 0⟩] scope pos) (some (.Name y py)) spos.line X.env = pure true) (hi : PI X tg iter wi) (ok : BlkOk X.N X.env.scope scope own)
    (hg : ∀ (s : Shared) (H : Hp) (C : Addr) (cl : List (Str × Addr)) (fp : List Addr), PG (X.blk s H scope (compEnvC scope cl C X.env) fp) tg g) (ht : ∀ (s : Shared) (H : Hp) (C : Addr) (cl : List (Str × Addr)) (fp : List Addr), PTs (X.blk s H scope (compEnvC scope cl C X.env) fp) ifs tt)
    (hk : ∀ (s : Shared) (H : Hp) (C : Addr) (cl : List (Str × Addr)) (fp : List Addr), PE (X.blk s H scope (compEnvC scope cl C X.env) fp) kx tk)
    (he : ∀ (s : Shared) (H : Hp) (C : Addr) (cl : List (Str × Addr)) (fp : List Addr), PE (X.blk s H scope (compEnvC scope cl C X.env) fp) vx tv) (hs : ∀ x, foldedSetIterable iter X.env x = pure x := by intro _; rfl) :
    PS X (.Assign [.Name y py] (.DictComp kx vx [⟨tg, iter, ifs, 0⟩] scope pos) spos) (tAsg (tDc wi g tt tk tv (own.map (·.2))) (gName i)) := by
  refine ⟨fun pins s σ H D I h => ?_⟩
  rw [exec_Assign_Name_used _ _ _ _ hsw]
  refine wpAny_bind (wpAny_standAt (wpAny_bind ?_))
  show wpAny _ X.A (do let _ ← comprehension (.DictComp kx vx [⟨tg, iter, ifs, 0⟩] scope pos) scope X.env (firstIterPos [⟨tg, iter, ifs, 0⟩] pos) newDict false (eval iter X.env) (some (assign (.Name y py) X.env))) _ _ s
  have h2 : tDc wi g tt tk tv (own.map (·.2)) σ H (fun x H1 => gName i x σ H1 D.nx) := h
  refine wpAny_bind (thn (dc_core (Qf := fun _ s' => SP X pins D .next s') hc hN I hi ok hg ht hk he hs h2 fun L C s' m H' I' q hn f => ?_) fun _ s' hq => wpAny_pure (wpAny_pure hq))
  show wpAny _ _ (assign (.Name y py) X.env (.ref L)) _ _ _
  refine wpAny_assign_Name (store_ok2 (v := V.ref L) I' hN hy (.inl hyl) rfl (fun s2 I2 ⟨a, sb, ha⟩ => ?_) (.inr hyl))
  obtain ⟨f0, f1, f2, f3, f4, f5⟩ := f
  have hne : C ≠ a := by
    rcases ha with z | z
    · rw [z]; exact f1
    · exact fun e => f4 y a z e.symm
  refine ⟨m, hn.sameBut sb hne, fun h3 sb3 => ?_⟩
  exact ⟨_, H', I2.turned (t' := s2.toks) (fun b o hb e => (sb3.2 b hb).trans e) f0 f1 f3 f4 f5, q⟩
theorem sw_trueD {kx vx : Expr} {gs : List Comprehension} {scope : Scope} {pos py : Pos} {y : Str} {l : Nat} {env : Env} (hk : env.scope.kind = .function) (hy : env.scope.names.lookup y = some .local) (hl : (py.line == pos.line) = true)
    (ha : (scope.names.any fun (n, k) => n == y && (k == .local || k == .cell)) = false) : swapsWith (.DictComp kx vx gs scope pos) (some (.Name y py)) l env = pure true := by
  have ky : env.kindOf y = some .local := hy
  have hb : env.blockKind = .function := by unfold Env.blockKind; rw [hk]; rfl
  unfold swapsWith
  simp only [hb, ky, ha, Expr.pos, hl]
  rfl
end
end Mh
set_option Elab.async false
set_option linter.all false
set_option maxRecDepth 100000
set_option maxHeartbeats 4000000
/-! S0: sets of texts. -/
namespace Mh
open PySem PySem.Spec PyProof.Rows L2
def keyS (e : Int × Value) : Str := match e.2 with | .str x _ => x | _ => Str.empty
def GoodS (P : Program) (w : World) (e : Int × Value) : Prop := ∃ x tk, e.2 = Value.str x tk ∧ e.1 = (PySem.strKind P w).hash x
/-- a set of texts: its members l, each once -/
def SetSR (P : Program) (w : World) (h : Heap) (a : Addr) (l : List Str) : Prop :=
  ∃ o es ep t, h.get? a = some o ∧ o.ExactSet ∧ o.data = .set es ep t ∧ (∀ e ∈ es.toList, GoodS P w e) ∧ (es.toList.map keyS).Perm l ∧ l.Nodup ∧
    es.size < scanBound ∧ t.fits es.size = true ∧ Ris t.place.toList ∧ (w.params.followText "set-order" = true ∨ t.led = true)
section
variable {P : Program} {w : World} {h h' : Heap} {a : Addr} {l : List Str}
theorem SetSR.at (R : SetSR P w h a l) (k : ∀ o, h.get? a = some o → h'.get? a = some o) : SetSR P w h' a l := by
  obtain ⟨o, es, ep, t, ho, r⟩ := R
  exact ⟨o, es, ep, t, k o ho, r⟩
theorem goodS_elems {l : List (Int × Value)} (g : ∀ e ∈ l, GoodS P w e) : ElemsOf (PySem.strKind P w) l := fun e he => by
  obtain ⟨k, tk, h1, h2⟩ := g e he
  exact ⟨⟨k, by rw [h1]; exact strKind_is P w k tk, h2⟩, by rw [h1] <;> rfl⟩
theorem goodS_is {e : Int × Value} (g : GoodS P w e) (k : Str) : (PySem.strKind P w).is k e.2 = true ↔ keyS e = k := by
  obtain ⟨k0, tk, h1, _⟩ := g
  unfold keyS
  rw [h1]
  show ((k0 == k) = true) ↔ k0 = k
  exact beq_iff_eq
theorem goodS_mem {l : List (Int × Value)} (g : ∀ e ∈ l, GoodS P w e) (k : Str) : k ∈ l.map keyS ↔ ∃ e ∈ l, (PySem.strKind P w).is k e.2 = true := by
  rw [List.mem_map]
  constructor
  · rintro ⟨e, he, q⟩
    exact ⟨e, he, (goodS_is (g e he) k).2 q⟩
  · rintro ⟨e, he, q⟩
    exact ⟨e, he, (goodS_is (g e he) k).1 q⟩
end
section
variable {P : Program} {w : World} {A : Around} {E : Value → Shared → Prop} {s : Shared} {a : Addr} {l : List Str}
theorem setS_tail {g : Bool → Sem Unit} (hg : ∀ (b : Bool) (s₁ : Shared) (Q' : Unit → Shared → Prop), Q' () s₁ → wpAny (model P w) A (g b) Q' E s₁)
    {o : Obj} {es : Array (Int × Value)} {ep : Nat} {t : SetTable} (ho : s.heap.get? a = some o) (hex : o.ExactSet) (hd : o.data = .set es ep t)
    {es1 : Array (Int × Value)} {t2 : SetTable} {l' : List Str} (g1 : ∀ e ∈ es1.toList, GoodS P w e) (m1 : (es1.toList.map keyS).Perm l') (nd1 : l'.Nodup)
    (hb1 : es1.size < scanBound) (hf2 : t2.fits es1.size = true) (hr : Ris t2.place.toList) (hl : w.params.followText "set-order" = true ∨ t2.led = true) {wasDummy : Bool} {R : Option Bool → Shared → Prop}
    (hR : ∀ h', Heap.SameBut a s.heap h' → SetSR P w h' a l' → R (some true) { s with heap := h' }) :
    wpAny (model P w) A (do
        storeSet a es1 t2
        if (!wasDummy && t2.tooFull) = true then do
            g (relayAll t2 es1 (SetTable.grown es1.size)).2.2
            storeSet a (relayAll t2 es1 (SetTable.grown es1.size)).1 (relayAll t2 es1 (SetTable.grown es1.size)).2.1
            pure (some true)
          else pure (some true)) R E s := by
  refine wpAny_bind (wpAny_storeSet_of ho hd ?_ (fits_of_scanBound hb1))
  have ho1 := store_at (es' := es1) (t' := t2) ho hd
  have sb1 := Heap.SameBut.update s.heap a (Obj.putSet es1 t2)
  split
  · have pm := relayAll_perm t2 es1 (SetTable.grown es1.size)
    have hf3 := relayAll_fits t2 es1 (SetTable.grown es1.size)
    have hr3 := relayAll_ris t2 es1 (SetTable.grown es1.size)
    have hl3 := relayAll_led t2 es1 (SetTable.grown es1.size)
    generalize relayAll t2 es1 (SetTable.grown es1.size) = Z at pm hf3 hr3 hl3 ⊢
    obtain ⟨es2, t3, gave⟩ := Z
    dsimp only at pm hf3 hr3 hl3 ⊢
    have hsz : es2.size = es1.size := by rw [← Array.length_toList, pm.length_eq, Array.length_toList]
    have hb2 : es2.size < scanBound := by rw [hsz]; exact hb1
    refine wpAny_bind (hg _ _ _ ?_)
    refine wpAny_bind (wpAny_storeSet_of ho1 rfl ?_ (fits_of_scanBound hb2))
    have ho2 := store_at (es' := es2) (t' := t3) ho1 rfl
    refine wpAny_pure (hR _ (sb1.trans (Heap.SameBut.update _ a _)) ?_)
    exact ⟨_, es2, _, t3, ho2, hex, rfl, fun e he => g1 e (pm.mem_iff.mp he), (pm.map keyS).trans m1, nd1, hb2, hf3, hr3, hl.imp id fun z => by rw [hl3]; exact z⟩
  · exact wpAny_pure (hR _ sb1 ⟨_, es1, _, t2, ho1, hex, rfl, g1, m1, nd1, hb1, hf2, hr, hl⟩)
theorem setS_add {k : Str} {tk : Tok} {Q : Bool → Shared → Prop} (R : SetSR P w s.heap a l) (room : l.length + 1 < scanBound)
    (hQ : ∀ h' l' b, Heap.SameBut a s.heap h' → SetSR P w h' a l' → (∀ z, z ∈ l' ↔ z ∈ l ∨ z = k) → Q b { s with heap := h' }) :
    wpAny (model P w) A (setAddHashed a (.str k tk) ((PySem.strKind P w).hash k)) Q E s := by
  obtain ⟨o, es, ep, t, ho, hex, hd, g, hm, nd, hb, hf, hr, hl⟩ := R
  have hkey : (PySem.strKind P w).is k (.str k tk) = true := strKind_is P w k tk
  have hsc : (Value.str k tk).scannable = true := rfl
  have hel : ElemsOf (PySem.strKind P w) es.toList := goodS_elems g
  unfold setAddHashed setAddHashedIn
  refine wpAny_holding (wpAny_bind (wpAny_setState_of ho hd hf ?_))
  dsimp only
  rw [byScan_of hsc hb hel]
  simp only [↓reduceIte]
  unfold setAddByScan
  refine wpAny_bind ?_
  refine wpAny_bind (wpAny_rule ?_)
  refine wpAny_bind (wpAny_setScan_of hkey ho hd hf hel ?_)
  cases hfi : List.findIdx? (fun e => (PySem.strKind P w).is k e.2) es.toList with
  | some j =>
    dsimp only
    obtain ⟨hj, pj, _⟩ := List.findIdx?_eq_some_iff_getElem.mp hfi
    have hSk : k ∈ l := hm.mem_iff.mp ((goodS_mem (P := P) (w := w) g k).2 ⟨es.toList[j], List.getElem_mem hj, pj⟩)
    refine wpAny_pure (wpAny_pure ?_)
    exact hQ s.heap l _ (Heap.SameBut.refl a s.heap) ⟨o, es, ep, t, ho, hex, hd, g, hm, nd, hb, hf, hr, hl⟩ fun z => ⟨.inl, fun q => q.elim id fun e => e ▸ hSk⟩
  | none =>
    dsimp only
    have hnk : k ∉ l := fun z => by
      obtain ⟨e, he, q⟩ := (goodS_mem (P := P) (w := w) g k).1 (hm.mem_iff.mpr z)
      have c := List.findIdx?_eq_none_iff.mp hfi e he
      rw [q] at c
      cases c
    have hgw : ∀ (b : Bool) {s₁ : Shared} {Q' : Unit → Shared → Prop}, Q' () s₁ → wpAny (model P w) A (match b with | true => rule "set.scan.the-table-gave-way" | false => pure ()) Q' E s₁ :=
      fun b s₁ Q' q => by cases b <;> first | exact wpAny_pure q | exact wpAny_rule q
    have pm := layNew_perm t es ((PySem.strKind P w).hash k) (.str k tk)
    have hf1 := layNew_fits t es ((PySem.strKind P w).hash k) (.str k tk)
    have hr1 := layNew_ris t es ((PySem.strKind P w).hash k) (.str k tk) hr
    have hl1 := layNew_led t es ((PySem.strKind P w).hash k) (.str k tk)
    generalize layNew t es ((PySem.strKind P w).hash k) (.str k tk) = Z at pm hf1 hr1 hl1 ⊢
    obtain ⟨es1, t1, wasDummy, gave⟩ := Z
    dsimp only at pm hf1 hr1 hl1 ⊢
    rw [Array.toList_push] at pm
    have pc : es1.toList.Perm (((PySem.strKind P w).hash k, Value.str k tk) :: es.toList) := pm.trans (List.perm_append_singleton _ _)
    have pk : (es1.toList.map keyS).Perm (k :: l) := (pc.map keyS).trans (List.Perm.cons k hm)
    have g1 : ∀ e ∈ es1.toList, GoodS P w e := fun e he => by
      rcases List.mem_cons.mp (pc.mem_iff.mp he) with z | z
      · rw [z]; exact ⟨k, tk, rfl, rfl⟩
      · exact g e z
    have nd1 : (k :: l).Nodup := List.nodup_cons.mpr ⟨hnk, nd⟩
    have hsz : es1.size = l.length + 1 := by
      have := pk.length_eq
      rw [List.length_map, Array.length_toList, List.length_cons] at this
      exact this
    have hb1 : es1.size < scanBound := by rw [hsz]; exact room
    have hled : w.params.followText "set-order" = true ∨ t1.led = true := hl.imp id fun z => by rw [hl1]; exact z
    have fin : ∀ h' b, Heap.SameBut a s.heap h' → SetSR P w h' a (k :: l) → Q b { s with heap := h' } := fun h' b sb r => hQ h' (k :: l) b sb r fun z => by rw [List.mem_cons]; exact Or.comm
    refine wpAny_bind (hgw _ ?_)
    split
    · refine wpAny_bind ?_
      rw [hashByValue_scannable 8 hsc]
      refine wpAny_pure ?_
      refine setS_tail ?_ ho hex hd g1 pk nd1 hb1 ?_ ?_ ?_ ?_
      · intro b s₁ Q' q; cases b <;> first | exact wpAny_pure q | exact wpAny_rule q
      · first | (split <;> first | exact hf1 | exact SetTable.fits_plain_off hf1) | exact hf1
      · first | (split <;> exact hr1) | exact hr1
      · first | (split <;> exact hled) | exact hled
      · intro h' sb r; dsimp only; exact wpAny_pure (fin h' _ sb r)
    · refine wpAny_bind (wpAny_pure ?_)
      simp only [↓reduceIte]
      refine setS_tail ?_ ho hex hd g1 pk nd1 hb1 hf1 hr1 hled ?_
      · intro b s₁ Q' q; cases b <;> first | exact wpAny_pure q | exact wpAny_rule q
      · intro h' sb r; dsimp only; exact wpAny_pure (fin h' _ sb r)
end
end Mh
set_option Elab.async false
set_option linter.all false
set_option maxRecDepth 100000
set_option maxHeartbeats 4000000
/-! S1: set(xs), a list of texts. -/
namespace Mh
open PySem PySem.Spec PyProof.Rows L2
theorem nd_le {α : Type} [DecidableEq α] : ∀ {l D : List α}, l.Nodup → (∀ x ∈ l, x ∈ D) → l.length ≤ D.length
  | [], _, _, _ => Nat.zero_le _
  | a :: r, D, h, s => by
    obtain ⟨h1, h2⟩ := List.nodup_cons.mp h
    have ha := s a List.mem_cons_self
    have ih := nd_le (D := D.erase a) h2 fun x hx => (List.mem_erase_of_ne (fun z : x = a => h1 (z ▸ hx))).mpr (s x (List.mem_cons_of_mem _ hx))
    have := List.length_erase_of_mem ha
    have hp : 0 < D.length := List.length_pos_of_mem ha
    rw [List.length_cons]
    omega
theorem strAt : ∀ {vs : List Value} {xs : List Str}, StrsAre vs xs → ∀ (i : Nat) (v : Value), vs[i]? = some v → ∃ t, v = .str (xs.getD i Str.empty) t
  | _, _, .nil, i, v, h => by simp at h
  | _, _, .cons n t hr, 0, v, h => by simp at h; exact ⟨t, by rw [← h] <;> rfl⟩
  | _, _, .cons n t hr, i + 1, v, h => by
    simp only [List.getElem?_cons_succ] at h
    obtain ⟨t', e⟩ := strAt hr i v h
    exact ⟨t', by rw [e] <;> rfl⟩
section
variable {prog : Program} {w : World} {A : Around} {R : Result → Shared → Prop} {I : Addr} {fp wr : List Addr} {G : Array GenState → Array GenState → Prop} {n : Nat} {P : Nat → Value → Prop} {St : Nat → Shared → Prop}
theorem loopS (W : WalksS prog w A.in1 I fp wr G n P St) (S : Addr) (hSf : S ∉ fp) (xs : List Str) (hsz : xs.length = n) (hn1 : n < 100)
    (hval : ∀ i v, P i v → ∃ t, v = .str (xs.getD i Str.empty) t) :
    ∀ (k i : Nat) (s : Shared), n - i = k → i ≤ n → St i s → (∃ l, SetSR prog w s.heap S l ∧ ∀ z, z ∈ l ↔ z ∈ xs.take i) →
      (∀ s' l, Moved (S :: wr) G s s' → SetSR prog w s'.heap S l → (∀ z, z ∈ l ↔ z ∈ xs) → R (.ok (.ret .none)) s') →
      codeAny (model prog w) A (.builtin "set.update.loop" ⟨[.ref S, .ref I], []⟩) R s := by
  have hSw : S ∉ wr := fun h => hSf (W.sub _ h)
  have hsub : ∀ b ∈ wr, b ∈ S :: wr := fun b hb => List.mem_cons_of_mem _ hb
  intro k
  induction k with
  | zero =>
    intro i s hk hi hst hS hR
    have hin : i = n := by omega
    subst hin
    obtain ⟨l, hS, hl⟩ := hS
    refine codeAny_builtin PyProof.Rows.F.entry_set_update_loop ?_
    rw [Around.under_plainId PyProof.Rows.F.plain_set_update_loop _]
    show wpAny _ A.in1 (pyNext (.ref I) >>= _) _ _ s
    refine wpAny_bind (W.done s _ _ hst fun s' hm => ?_)
    show wpAny _ A.in1 (ret Value.none) _ _ s'
    refine wpAny_pure (hR s' l (hm.mono hsub) (hS.at fun o ho => hm.heap S _ hSw ho) fun z => ?_)
    rw [hl, List.take_of_length_le (by omega)]
  | succ k ih =>
    intro i s hk hi hst hS hR
    have hlt : i < n := by omega
    obtain ⟨l, hS, hl⟩ := hS
    refine codeAny_builtin PyProof.Rows.F.entry_set_update_loop ?_
    rw [Around.under_plainId PyProof.Rows.F.plain_set_update_loop _]
    show wpAny _ A.in1 (pyNext (.ref I) >>= _) _ _ s
    refine wpAny_bind (W.item i s _ _ hlt hst fun v s' hP hst' hm => ?_)
    obtain ⟨t, rfl⟩ := hval i v hP
    have hS' : SetSR prog w s'.heap S l := hS.at fun o ho => hm.heap S _ hSw ho
    have hroom : l.length + 1 < scanBound := by
      obtain ⟨_, _, _, _, _, _, _, _, _, hnd, _⟩ := hS
      have h1 : l.length ≤ (xs.take i).length := by
        have hsub : l ⊆ xs.take i := fun z hz => (hl z).mp hz
        exact nd_le hnd hsub
      rw [List.length_take] at h1
      unfold scanBound
      omega
    show wpAny _ A.in1 (holding [Value.str (xs.getD i Str.empty) t] (setAdd S (.str (xs.getD i Str.empty) t)) >>= _) _ _ s'
    refine wpAny_bind (wpAny_holding ?_)
    unfold setAdd
    refine wpAny_holding ?_
    refine wpAny_bind ((PySem.strKind prog w).pyHash (k := xs.getD i Str.empty) (strKind_is _ _ _ _) ?_)
    refine setS_add (s := { s' with toks := s'.toks + 1 }) hS' hroom fun h' l' b hsb hS2 hl2 => ?_
    have hmem : ∀ z, z ∈ l' ↔ z ∈ xs.take (i + 1) := fun z => by
      have hxi : xs[i]? = some (xs.getD i Str.empty) := by
        have : i < xs.length := by omega
        rw [List.getD_eq_getElem?_getD, List.getElem?_eq_getElem this]
        rfl
      rw [hl2, hl, List.take_add_one, hxi, List.mem_append]
      show _ ∨ _ ↔ _ ∨ z ∈ [xs.getD i Str.empty]
      rw [List.mem_singleton]
    refine wpAny_pure ⟨plainId_quiet PyProof.Rows.F.plain_set_update_loop _, ih (i + 1) _ (by omega) hlt (W.frame _ s' _ _ hst' (Nat.le_succ _) fun b hb o e => ?_) ⟨l', hS2, hmem⟩ fun s'' l'' hm'' hS'' hl'' => ?_⟩
    · rw [hsb.2 b (fun h : b = S => hSf (by rw [← h]; exact hb))]; exact e
    · refine hR s'' l'' (Moved.trans W.gtrans ((hm.mono hsub).then_heap (Nat.le_succ _) fun b o hb e => ?_) hm'') hS'' hl''
      rw [hsb.2 b (fun h : b = S => hb (by rw [h]; exact List.mem_cons_self))]; exact e
end
section
variable {prog : Program} {w : World} {A : Around} {E : Value → Shared → Prop} {s : Shared}
theorem new_led (a : Value) {Q₁ : Value → Shared → Prop}
    (h : Q₁ (.ref s.heap.objs.size) { s with heap := s.heap.push { cls := .type "set", dict := none, data := .set #[] 0 (.fresh 0 0 (!w.params.followText "set-order")) } }) :
    codeAny (model prog w) A (.call (.builtin "set.__new__") ⟨[.type "set", a], []⟩) (wants Q₁ E) s := by
  refine codeAny_of_tree ?_
  show wpAny _ A.in1 (do checkBuiltinCall "set.__new__" ⟨[.type "set", a], []⟩; again (.builtin "set.__new__" ⟨[.type "set", a], []⟩)) _ _ s
  refine wpAny_bind (wpAny_of_eq (PySem.F.newCall_set_1 a) (wpAny_pure ⟨plainId_quiet F.plain_set_new _, codeAny_builtin F.entry_set_new ?_⟩))
  rw [Around.under_plainId F.plain_set_new _]
  unfold Builtin.«set.__new__» Builtin.Frozenset.newClass
  have hsub := sub_set_self
  obtain ⟨hp, g, d, tk, os⟩ := s
  dsimp only
  wp_walk
  refine wpAny_askSetting (wpAny_pure ?_)
  dsimp only
  simp only [newObj]
  refine wpAny_bind (wpAny_alloc (wpAny_pure ?_))
  exact wpAny_pure h
theorem freshS {P : Program} {h : Heap} {a : Addr} (w : World) (e : h.get? a = some { cls := .type "set", dict := none, data := .set #[] 0 (.fresh 0 0 (!w.params.followText "set-order")) }) : SetSR P w h a [] :=
  ⟨_, #[], 0, _, e, ⟨rfl, rfl, rfl⟩, rfl, (fun e he => by simp at he), List.Perm.refl _, List.nodup_nil, (by decide), (by rfl), List.Pairwise.nil, by
    show _ ∨ (!w.params.followText "set-order") = true
    cases w.params.followText "set-order"
    · exact .inr rfl
    · exact .inl rfl⟩
theorem call_setS {l : Addr} {items : Array Value} {xs : List Str} {Q : Value → Shared → Prop}
    (hh : A.handled = none) (hl : s.heap.IsList l items) (hi : StrsAre items.toList xs) (hn1 : xs.length < 100)
    (h : ∀ (h' : Heap) (tk : Nat) (m : List Str), SetSR prog w h' s.heap.objs.size m → (∀ z, z ∈ m ↔ z ∈ xs) →
      (∀ b o, b < s.heap.objs.size → s.heap.get? b = some o → h'.get? b = some o) → Q (.ref s.heap.objs.size) { s with heap := h', toks := tk }) :
    wpAny (model prog w) A (call (.type "set") [.ref l]) Q E s := by
  obtain ⟨c, tl, hmro⟩ := PySem.F.called_set.mro
  have hmade := PySem.F.called_set.made
  have hsub := PySem.F.called_set.sub
  refine wpAny_call (codeAny_of_tree ?_)
  show wpAny _ _ (callAny (.type "set") _) _ _ _
  refine wpAny_pure ⟨Code.quiet_builtin _ (by decide +kernel), codeAny_builtin PySem.F.entry_type_call ?_⟩
  rw [Around.under_plain (weight_type_call_type "set" [.ref l] []) rfl]
  have h1 := PySem.F.called_set.notType
  have h2 := PySem.F.called_set.canCreate
  have hct := PySem.F.typeCall_set_1 (.ref l)
  repeat (any_goals (first | assumption | wp_step))
  refine codeAny_mono (new_led (.ref l) (E := E) (Q₁ := fun obj s₁ => obj = .ref s.heap.objs.size ∧ s₁ = { s with heap := s.heap.push { cls := .type "set", dict := none, data := .set #[] 0 (.fresh 0 0 (!w.params.followText "set-order")) } }) ⟨rfl, rfl⟩) fun r s₁ hr => ?_
  cases r with
  | error e => exact hr
  | ok fl =>
    cases fl with
    | ret obj =>
      obtain ⟨rfl, rfl⟩ := hr
      have hS : (s.heap.push { cls := .type "set", dict := none, data := .set #[] 0 (.fresh 0 0 (!w.params.followText "set-order")) }).get? s.heap.objs.size = some { cls := .type "set", dict := none, data := .set #[] 0 (.fresh 0 0 (!w.params.followText "set-order")) } := Heap.get?_push_size _ rfl
      have hFr : ∀ (P : Program) (h : Heap), h.get? s.heap.objs.size = some { cls := .type "set", dict := none, data := .set #[] 0 (.fresh 0 0 (!w.params.followText "set-order")) } → SetSR P w h s.heap.objs.size [] := fun P h e => freshS w e
      generalize (!w.params.followText "set-order") = led at hS hFr ⊢
      have hT : Shared.TypeIs { s with heap := s.heap.push { cls := .type "set", dict := none, data := .set #[] 0 (.fresh 0 0 led) } } (.ref s.heap.objs.size) "set" := ⟨_, hS, rfl⟩
      have hli := PySem.F.called_set.init.lookup
      have hbi := PySem.F.called_set.init.bind (.ref s.heap.objs.size)
      repeat (any_goals (first | assumption | wp_step))
      refine codeAny_mono (codeAny_call_builtin (R := wants (fun r s₂ => r = .none ∧ ∃ h' tk m, s₂ = { s with heap := h', toks := tk } ∧
          SetSR prog w h' s.heap.objs.size m ∧ (∀ z, z ∈ m ↔ z ∈ xs) ∧
          (∀ b o, b < s.heap.objs.size → s.heap.get? b = some o → h'.get? b = some o)) E) PySem.F.called_set.init.plain PySem.F.entry_set_init (check_set_init_1 hT ?_)) fun r₂ s₂ hr₂ => ?_
      · obtain ⟨ol, hol, hcl, nl, hdl⟩ := hl
        obtain ⟨ocls, odict, odata, oslots⟩ := ol
        simp only at hcl hdl
        subst hcl; subst hdl
        have hol' : (s.heap.push { cls := .type "set", dict := none, data := .set #[] 0 (.fresh 0 0 led) }).get? l = some { cls := .type "list", dict := odict, data := .seq items nl, slots := oslots } := Heap.get?_push_of_some _ hol
        have hsls := PySem.F.sub_list_set
        have hslf := PySem.F.sub_list_frozenset
        have hne : (Value.type "list" == Value.type "dict") = false := by decide
        have hl1 : (s.heap.push { cls := .type "set", dict := none, data := .set #[] 0 (.fresh 0 0 led) }).IsList l items := ⟨_, hol', rfl, nl, rfl⟩
        unfold Builtin.«set.__init__» noKeywords Builtin.Frozenset.updateFrom
        generalize hPI : pyIter = PI
        wp_walk
        subst hPI
        refine wpAny_pyIter_list hl1 ?_
        refine wpAny_bind (wpAny_runValue ?_)
        have hlS : l < s.heap.objs.size := Heap.lt_size hol
        have hh3 : A.in1.in1.in1.handled = none := by simp [hh]
        have hneI : l ≠ (s.heap.push { cls := .type "set", dict := none, data := .set #[] 0 (.fresh 0 0 led) }).objs.size := by
          rw [Heap.size_push]; exact Nat.ne_of_lt (Nat.lt_succ_of_lt hlS)
        have hSf : s.heap.objs.size ∉ [(s.heap.push { cls := .type "set", dict := none, data := .set #[] 0 (.fresh 0 0 led) }).objs.size, l] := by
          rw [Heap.size_push]; simp only [List.mem_cons, List.mem_singleton, List.not_mem_nil, or_false, not_or]
          exact ⟨Nat.ne_of_lt (Nat.lt_succ_self _), Nat.ne_of_gt hlS⟩
        have hsz : xs.length = items.size := by rw [← StrsAre.len_eq hi, Array.length_toList]
        have hval : ∀ (i : Nat) (v : Value), items[i]? = some v → ∃ t, v = .str (xs.getD i Str.empty) t := fun i v hv => strAt hi i v (by rw [Array.getElem?_toList]; exact hv)
        refine loopS ((Walks.list hh3 _ l hneI items).toS) s.heap.objs.size
          hSf xs hsz (by rw [← hsz]; exact hn1) hval (items.size - 0) 0 _ (by omega) (Nat.zero_le _)
          ⟨⟨_, Heap.get?_push_size _ rfl, rfl, rfl⟩, (hl1.push _)⟩ ?hS0 ?hR
        case hS0 =>
          exact ⟨[], hFr _ _ (Heap.get?_push_of_some _ hS), fun z => by simp⟩
        case hR =>
          intro s' m hm hS' hl'
          obtain ⟨h', g', d', tk', os'⟩ := s'
          have eg : g' = s.gens := hm.gens
          have ed : d' = s.drawn := hm.drawn
          have eo : os' = s.os := hm.os
          subst eg; subst ed; subst eo
          show wpAny _ _ _ _ _ _
          refine wpAny_pure ?_
          show wpAny _ _ (ret Value.none) _ _ _
          refine wpAny_pure ⟨rfl, h', tk', m, rfl, hS', hl', fun b o hb e => ?_⟩
          have hb1 : b ≠ s.heap.objs.size := Nat.ne_of_lt hb
          have hb2 : b ≠ (s.heap.push { cls := .type "set", dict := none, data := .set #[] 0 (.fresh 0 0 led) }).objs.size := by
            rw [Heap.size_push]; exact Nat.ne_of_lt (Nat.lt_succ_of_lt hb)
          exact hm.heap b o (by simp only [List.mem_cons, List.mem_singleton, List.not_mem_nil, or_false, not_or]; exact ⟨hb1, hb2⟩) (Heap.get?_push_of_some _ (Heap.get?_push_of_some _ e))
      · cases r₂ with
        | error e => exact hr₂
        | ok fl₂ =>
          cases fl₂ with
          | ret r =>
            obtain ⟨rfl, h', tk, m, rfl, hS', hl', hk'⟩ := hr₂
            repeat (any_goals (first | assumption | wp_step))
            exact h _ _ m hS' hl' hk'
          | _ => exact hr₂.elim
    | _ => exact hr.elim
end
end Mh
set_option Elab.async false
set_option linter.all false
set_option maxRecDepth 100000
set_option maxHeartbeats 4000000
/-! S2: the rules of sets of texts. -/
namespace Mh
open PySem PySem.Spec PyProof.Rows L2
def SetS (P : Program) (w : World) (a : Addr) (l : List Str) : HO := .ext fun h => SetSR P w h a l
def rSetOfS (K : PySem.W.Frag) (P : Program) (w : World) : List V → Hp → VK → Prop := fun xs H Q => ∃ (p : Addr) (ys : List Str), xs = [V.ref p] ∧ SqL K H p (ys.map V.str) ∧ ys.length < 64 ∧
  ∀ a l, H a = none → l.Nodup → (∀ z, z ∈ l ↔ z ∈ ys) → Q (.ref a) (upd H a (SetS P w a l))
def rLenS (P : Program) (w : World) : List V → Hp → VK → Prop := fun xs H Q => ∃ (a : Addr) (l : List Str), xs = [V.ref a] ∧ H a = some (SetS P w a l) ∧ Q (.int l.length) H
def rSortedSet2 (P : Program) (w : World) : List V → Hp → VK → Prop := fun xs H Q => ∃ (a : Addr) (l : List Str), xs = [V.ref a] ∧ H a = some (SetS P w a l) ∧ l.length < 64 ∧
  ∀ ys p, List.Perm ys l → H p = none → Q (.ref p) (upd H p (.lst (ys.map V.str)))
section
variable {P : Program} {w : World} {A : Around} {E : Value → Shared → Prop} {s : Shared} {a : Addr} {l : List Str}
theorem goodS_strs : ∀ (vs : List Value), (∀ v ∈ vs, ∃ x tk, v = Value.str x tk) → StrsAre vs (vs.map strOf)
  | [], _ => .nil
  | v :: vs, h => by
    obtain ⟨x, tk, rfl⟩ := h v List.mem_cons_self
    exact .cons x tk (goodS_strs vs fun u hu => h u (List.mem_cons_of_mem _ hu))
theorem sorted_setS {Q : Value → Shared → Prop} (R : SetSR P w s.heap a l) (hh : A.handled = none) (h64 : l.length < 64)
    (hQ : ∀ s' p (out : Array Value) (c : Nat) (ys : List Str), (∀ b o, s.heap.get? b = some o → s'.heap.get? b = some o) → s'.gens = s.gens → s'.os = s.os → s.heap.objs.size ≤ p →
      s'.heap.get? p = some (seqObj "list" out c) → StrsAre out.toList ys → ys.Perm l → Q (.ref p) s') :
    wpAny (model P w) A (call (.builtin "sorted") [.ref a]) Q E s := by
  obtain ⟨o, es, ep, t, ho, hex, hd, g, hm, nd, hb, hf, hr, hl⟩ := R
  refine Calls.call_function_entry kind_sorted plain_sorted entry_sorted (args_sorted1 _) ?_
  unfold Builtin.«sorted»
  refine wpAny_bind (m := checkCount "sorted" 1 1 _) (wpAny_pure ?_)
  refine wpAny_bind (collect_set (A := A.in1) hh ⟨o, ho, hex.1, hd⟩ hf hb hr hl fun s1 vs k1 hz g1 o1 pm => ?_)
  have hvl : vs.length = l.length := by
    have h1 := hm.length_eq
    rw [List.length_map] at h1
    rw [pm.length_eq, List.length_map, h1]
  have hI : StrsAre vs (vs.map strOf) := goodS_strs vs fun v hv => by
    obtain ⟨e, he, q⟩ := List.mem_map.mp (pm.mem_iff.mp hv)
    obtain ⟨x, tk, h1, _⟩ := g e he
    exact ⟨x, tk, by rw [← q]; exact h1⟩
  have pk : (vs.map strOf).Perm l := by
    have q := pm.map strOf
    rw [List.map_map] at q
    have e : es.toList.map (strOf ∘ (·.2)) = es.toList.map keyS := List.map_congr_left fun e he => by
      obtain ⟨x, tk, h1, _⟩ := g e he
      show strOf e.2 = keyS e
      unfold keyS
      rw [h1]
      rfl
    rw [e] at q
    exact q.trans hm
  refine wpAny_bind (wpAny_newList ?_ (by rw [hvl, sizeLine_eq]; omega))
  have hoL : (s1.heap.push (seqObj "list" vs.toArray 0)).get? s1.heap.objs.size = some (seqObj "list" vs.toArray 0) := Heap.get?_push_size _ rfl
  refine wpAny_bind (wpAny_holding (wpAny_call_entry slot_list_sort ⟨_, hoL, rfl⟩ entry_list_sort (list_sort_treeK strKind_oneLt hoL hI.keysOf (fun v₁ v₂ rest e => keyKind_strs (by rw [← e]; exact hI)) (by rw [hvl]; exact h64) fun st' hp hs => ⟨_, rfl, ?_⟩) (args_list_sort _)))
  obtain ⟨ys, a1, a2, _⟩ := sorted_out_str hI hp hs
  obtain ⟨c, hc⟩ := sortedHeap_at (vs := vs) (out := (arrOf st').map (·.2)) hoL
  refine wpAny_pure ⟨_, rfl, hQ _ s1.heap.objs.size _ c ys (fun b u e => ?_) g1 o1 hz hc a1 (a2.trans pk)⟩
  have q := k1 b u e
  have hlt := Heap.lt_size q
  show (sortedHeap (s1.heap.push (seqObj "list" vs.toArray 0)) s1.heap.objs.size vs _).get? b = some u
  rw [sortedHeap_old (Nat.ne_of_lt hlt) (by rw [size_push']; exact Nat.lt_succ_of_lt hlt)]
  exact Heap.get?_push_of_some _ q
end
section
variable {X : Cx}
theorem setS_new {w : World} {P : Program} {H : Hp} {h : Heap} {a : Addr} {l : List Str} (R : SetSR P w h a l) : ObjOk P w H h a (SetS P w a l) := by
  have ⟨o, _, _, _, ho, _⟩ := R
  exact ⟨R, ⟨o, ho⟩, fun h1 h2 p k => SetSR.at p k⟩
theorem setS_get {pins : List (Addr × Obj)} {σ : L2.St} {H : Hp} {s : Shared} {a : Addr} {l : List Str} (I : Inv X pins σ H s) (ha : H a = some (SetS X.prog X.w a l)) : SetSR X.prog X.w s.heap a l := (I.hok a _ ha).1
theorem cr_setOf (hc : X.calm = true) : CallR X (.type "set") (rSetOfS X.K X.prog X.w) := by
  intro pins s σ H xs us Q I r h
  obtain ⟨p, ys, rfl, hq, hl, q⟩ := h
  obtain ⟨its, rv, pl, hz⟩ := I.list hq
  rw [Vals.ref1 r]
  refine call_setS (I.ok.hd hc) pl.isList (by simpa using strsAre_of rv) (by omega) fun h' tk m hS hm hk => ?_
  have hnd : m.Nodup := by
    obtain ⟨_, _, _, _, _, _, _, _, _, hnd, _⟩ := hS
    exact hnd
  exact ⟨.ref _, upd H s.heap.objs.size (SetS X.prog X.w s.heap.objs.size m), I.laid (t' := tk) (fun b u e => hk b u (Heap.lt_size e) e) (Nat.le_refl _) (setS_new hS), rfl, q _ m (I.hok.fresh (Nat.le_refl _)) hnd hm⟩
theorem cr_lenSet : CallR X (.builtin "len") (rLenS X.prog X.w) := by
  intro pins s σ H xs us Q I r h
  obtain ⟨a, l, rfl, ha, q⟩ := h
  rw [Vals.ref1 r]
  obtain ⟨o, es, ep, t, ho, hex, hd, g, hm, nd, hb, hf, hr, hl⟩ := setS_get I ha
  have hn : es.size = l.length := by
    have h1 := hm.length_eq
    rw [List.length_map, Array.length_toList] at h1
    exact h1
  refine call_len_set ho hex hd hf (by unfold scanBound at hb; omega) ⟨.int l.length, H, I.tok _, ⟨_, by rw [hn]⟩, q⟩
theorem cr_sortedSetS (hc : X.calm = true) : CallR X (.builtin "sorted") (rSortedSet2 X.prog X.w) := by
  intro pins s σ H vs us Q I r h
  obtain ⟨a, l, rfl, ha, h64, q⟩ := h
  rw [Vals.ref1 r]
  refine sorted_setS (setS_get I ha) (I.ok.hd hc) h64 fun s' p out c ys k g o hp hg hi hs => ?_
  have hlen : (ys.map V.str).length ≤ sizeLine := by rw [List.length_map, hs.length_eq, sizeLine_eq]; omega
  have hn : H p = none := I.hok.fresh hp
  have J : Inv X pins σ (upd H p (.lst (ys.map V.str))) { s with heap := s'.heap, gens := s'.gens, drawn := s'.drawn, toks := s'.toks } :=
    I.call (ch := []) (Un.laid k hp hn) (I.hok.laid k hp ⟨hlen, out.toList, c, vals_of_strs hi, hg⟩) (by rw [g]; exact I.bare) (fun _ z => nomatch z)
  have e : s' = { s with heap := s'.heap, gens := s'.gens, drawn := s'.drawn, toks := s'.toks } := by
    cases s'
    cases s
    cases o
    rfl
  rw [e]
  exact ⟨.ref p, _, J, rfl, q ys p hs hn⟩
end
end Mh
set_option Elab.async false
set_option linter.all false
set_option maxRecDepth 100000
set_option maxHeartbeats 4000000
/-! S3: sorted(xs), xs a list of tuples that begin with distinct texts. -/
namespace Mh
open PySem PySem.Spec PyProof.Rows L2
theorem filt_lt {α : Type} (p q : α → Bool) : ∀ (N : List α), (∀ z ∈ N, p z = true → q z = true) → (∃ z ∈ N, q z = true ∧ p z = false) → (N.filter p).length < (N.filter q).length
  | [], _, h => by obtain ⟨z, hz, _⟩ := h; cases hz
  | a :: r, h1, h2 => by
    have le : ∀ N : List α, (∀ z ∈ N, p z = true → q z = true) → (N.filter p).length ≤ (N.filter q).length := fun N => by
      induction N with
      | nil => intro _; exact Nat.le_refl _
      | cons b t ih =>
        intro h
        have ih := ih fun z hz => h z (List.mem_cons_of_mem _ hz)
        have hb := h b List.mem_cons_self
        rw [List.filter_cons, List.filter_cons]
        cases e1 : p b with
        | true => rw [hb e1, if_pos rfl, if_pos rfl, List.length_cons, List.length_cons]; omega
        | false =>
          rw [if_neg Bool.false_ne_true]
          split
          · rw [List.length_cons]; omega
          · exact ih
    have h1r : ∀ z ∈ r, p z = true → q z = true := fun z hz => h1 z (List.mem_cons_of_mem _ hz)
    obtain ⟨z, hz, hq, hp⟩ := h2
    have ha := h1 a List.mem_cons_self
    rw [List.filter_cons, List.filter_cons]
    rcases List.mem_cons.mp hz with e | e
    · subst e
      rw [hp, hq, if_neg Bool.false_ne_true, if_pos rfl, List.length_cons]
      have := le r h1r
      omega
    · have ih := filt_lt p q r h1r ⟨z, e, hq, hp⟩
      cases e1 : p a with
      | true => rw [ha e1, if_pos rfl, if_pos rfl, List.length_cons, List.length_cons]; omega
      | false =>
        rw [if_neg Bool.false_ne_true]
        split
        · rw [List.length_cons]; omega
        · exact ih
/-- a text's place among the names -/
def rankS (N : List Str) (x : Str) : Int := ((N.filter fun y => decide (y.cps.toList < x.cps.toList)).length : Int)
theorem rankS_lt {N : List Str} {x y : Str} (hx : x ∈ N) (h : x.cps.toList < y.cps.toList) : rankS N x < rankS N y := by
  unfold rankS
  have := filt_lt (fun z : Str => decide (z.cps.toList < x.cps.toList)) (fun z => decide (z.cps.toList < y.cps.toList)) N (fun z _ hz => decide_eq_true (List.lt_trans (α := Nat) (of_decide_eq_true hz) h))
    ⟨x, hx, decide_eq_true h, decide_eq_false (List.lt_irrefl (α := Nat) _)⟩
  omega
theorem rankS_eq {N : List Str} {x y : Str} (hx : x ∈ N) (hy : y ∈ N) : decide (x.cps.toList < y.cps.toList) = decide (rankS N x < rankS N y) := by
  by_cases h : x.cps.toList < y.cps.toList
  · rw [decide_eq_true h, decide_eq_true (rankS_lt hx h)]
  · rw [decide_eq_false h]
    refine (decide_eq_false fun z => ?_).symm
    by_cases h2 : y.cps.toList < x.cps.toList
    · have := rankS_lt hy h2
      omega
    · have e : x.cps.toList = y.cps.toList := List.le_antisymm (α := Nat) h2 h
      unfold rankS at z
      rw [e] at z
      omega
def TupS (h : Heap) (v : Value) (y : Str) : Prop := ∃ (a : Addr) (o : Obj) (items : List Value) (n : Nat) (t : Tok), v = .ref a ∧ h.get? a = some o ∧ o.cls = .type "tuple" ∧ o.data = .seq (Value.str y t :: items).toArray n
theorem TupS.keeps {h h' : Heap} {v : Value} {y : Str} (x : TupS h v y) (k : ∀ b o, h.get? b = some o → o.cls = .type "tuple" → h'.get? b = some o) : TupS h' v y := by
  obtain ⟨a, o, items, n, t, e, ho, hc, hd⟩ := x
  exact ⟨a, o, items, n, t, e, k _ _ ho hc, hc, hd⟩
theorem firstsS {h : Heap} {nm : Value → Str} : ∀ vs : List Value, (∀ v ∈ vs, TupS h v (nm v)) → ∃ fs : List Value, PySem.W.KatTups h vs fs ∧ fs.length = vs.length ∧ ∀ f ∈ fs, ∃ x t, f = Value.str x t
  | [], _ => ⟨[], PySem.W.KatTups.nil, rfl, fun f hf => by simp at hf⟩
  | v :: vs, x => by
    obtain ⟨fs, k, hl, hi⟩ := firstsS vs fun u hu => x u (List.mem_cons_of_mem _ hu)
    obtain ⟨a, o, items, n, t, e, ho, hc, hd⟩ := x v List.mem_cons_self
    generalize nm v = y at hd
    subst e
    refine ⟨Value.str y t :: fs, PySem.W.KatTups.cons ho hc hd rfl k, by rw [List.length_cons, List.length_cons, hl], fun f hf => ?_⟩
    rcases List.mem_cons.mp hf with rfl | hf
    · exact ⟨y, t, rfl⟩
    · exact hi f hf
section
variable {prog : Program} {w : World} {A : Around} {E : Value → Shared → Prop} {s : Shared}
theorem kat_same {b fin : Bool} {Q : Bool → Shared → Prop} : ∀ (l : List Value) (i : Nat), Q fin s → PySem.W.KatLex prog w A b fin Q (l.zip l) i s
  | [], _, h => PySem.W.kat_nil h
  | v :: l, i, h => PySem.W.kat_cons (SeqAt.EqAt.same v prog w _ _ (PySem.W.kat_yes (kat_same l (i + 1) h)))
theorem kindS {vs : List Value} {nm : Value → Str} {ρ : Str → Int} (h2 : 2 ≤ vs.length) (x : ∀ v ∈ vs, TupS s.heap v (nm v)) (inj : ∀ v ∈ vs, ∀ u ∈ vs, nm v = nm u → v = u)
    (hρ : ∀ v ∈ vs, ∀ u ∈ vs, decide ((nm v).cps.toList < (nm u).cps.toList) = decide (ρ (nm v) < ρ (nm u))) (Q : SortKind → Shared → Prop)
    (h : ∀ κ, TS.Cmp prog w A s κ (pairsOf vs) (fun v => ρ (nm v)) → Q κ s) : wpAny (model prog w) A (keyKind' vs.toArray) Q E s := by
  obtain ⟨fs, k, hl, hi⟩ := firstsS vs x
  refine PySem.W.kat_kind (T := Value.type "str") k (by omega) (fun f hf => ?_) rfl (h _ ?_)
  · obtain ⟨y, t, rfl⟩ := hi f hf
    exact PySem.W.Looks.of_pure rfl
  · intro p q hp hq Q' E' hQ
    rw [pairsOf_toList] at hp hq
    have mp := (mem_zip_self hp).2
    have mq := (mem_zip_self hq).2
    have hr := hρ _ mp _ mq
    have hQ' : Q' (decide ((nm p.1).cps.toList < (nm q.1).cps.toList)) s := by rw [hr]; exact hQ
    have hinj := inj _ mp _ mq
    obtain ⟨a, o, items, n, t, e1, ho, hc, hd⟩ := x _ mp
    obtain ⟨a', o', items', n', t', e2, ho', hc', hd'⟩ := x _ mq
    by_cases e : nm p.1 = nm q.1
    · have epq := hinj e
      rw [e1, e2] at epq
      rw [e1, e2]
      have ea : a = a' := by injection epq
      subst ea
      rw [ho] at ho'
      cases ho'
      refine PySem.W.kat_lt ho hd ho hd ?_
      refine kat_same _ 0 ?_
      rw [e, decide_eq_false (List.lt_irrefl (α := Nat) _)] at hQ'
      rw [decide_eq_false (Nat.lt_irrefl _)]
      exact hQ'
    · rw [e1, e2]
      refine PySem.W.kat_lt ho hd ho' hd' ?_
      show PySem.W.KatLex prog w A _ _ Q' ((Value.str (nm p.1) t, Value.str (nm q.1) t') :: items.zip items') 0 s
      refine PySem.W.kat_cons (wpAny_eqBool_str ?_)
      rw [decide_eq_false e]
      exact PySem.W.kat_no (PyProof.Rows.oneLt_any_str hQ')
theorem sort_tupS {a : Addr} {vs : List Value} {n : Nat} {nm : Value → Str} {ρ : Str → Int} {P : PySem.Fin → Shared → Prop} (ho : s.heap.get? a = some (seqObj "list" vs.toArray n)) (h64 : vs.length < 64) (x : ∀ v ∈ vs, TupS s.heap v (nm v)) (inj : ∀ v ∈ vs, ∀ u ∈ vs, nm v = nm u → v = u)
    (hρ : ∀ v ∈ vs, ∀ u ∈ vs, decide ((nm v).cps.toList < (nm u).cps.toList) = decide (ρ (nm v) < ρ (nm u)))
    (h : ∀ out : Array Value, out.toList.Perm vs → P (.done (.ret .none)) { s with heap := sortedHeap s.heap a vs out }) :
    wpAny (model prog w) A (Builtin.«list.sort» ⟨[.ref a], []⟩) P E s := by
  have keep : ∀ b o, s.heap.get? b = some o → o.cls = .type "tuple" → (TS.midHeap s.heap a vs).get? b = some o := fun b o e hc => by
    refine TS.midHeap_old ?_ e
    rintro rfl
    rw [ho] at e
    have e' : seqObj "list" vs.toArray n = o := Option.some.inj e
    rw [← e'] at hc
    have c' : Value.type "list" = Value.type "tuple" := hc
    injection c' with c''
    exact absurd c'' (by decide)
  refine SK.plain_sort (r := fun v => ρ (nm v)) ho h64 (fun h2 Q hQ => ?_) fun ps out h1 h2 h3 => ?_
  · exact kindS (s := { s with heap := TS.midHeap s.heap a vs }) h2 (fun v hv => (x v hv).keeps keep) inj hρ Q hQ
  · exact h out (TS.out_rank (r := fun v => ρ (nm v)) h1 h2 h3).1
theorem sorted_tupS {l : Addr} {vs : List Value} {nm : Value → Str} {ρ : Str → Int} {Q : Value → Shared → Prop} (hl : s.heap.IsList l vs.toArray) (h64 : vs.length < 64) (x : ∀ v ∈ vs, TupS s.heap v (nm v)) (inj : ∀ v ∈ vs, ∀ u ∈ vs, nm v = nm u → v = u)
    (hρ : ∀ v ∈ vs, ∀ u ∈ vs, decide ((nm v).cps.toList < (nm u).cps.toList) = decide (ρ (nm v) < ρ (nm u)))
    (h : ∀ out : Array Value, out.toList.Perm vs → Q (.ref (s.heap.objs.size + 1)) { s with heap := sortedAll s.heap vs out }) :
    wpAny (model prog w) A (call (.builtin "sorted") [.ref l]) Q E s := by
  refine Calls.call_function_entry kind_sorted plain_sorted entry_sorted (args_sorted1 _) ?_
  unfold Builtin.«sorted»
  refine wpAny_bind (m := checkCount "sorted" 1 1 _) (wpAny_pure ?_)
  refine wpAny_bind (collect_list hl ?_ (by rw [sizeLine_eq]; omega))
  refine wpAny_bind (wpAny_newList ?_ (by rw [sizeLine_eq]; omega))
  have hsz : ((s.heap.push (seqObj "list" #[] 0)).update s.heap.objs.size (Obj.mapSeq (· ++ vs.toArray))).objs.size = s.heap.objs.size + 1 := by
    rw [Heap.size_update, size_push']
  have hoL : (((s.heap.push (seqObj "list" #[] 0)).update s.heap.objs.size (Obj.mapSeq (· ++ vs.toArray))).push (seqObj "list" vs.toArray 0)).get? (s.heap.objs.size + 1) = some (seqObj "list" vs.toArray 0) := by
    rw [← hsz]; exact Heap.get?_push_size _ rfl
  have keep : ∀ b o, s.heap.get? b = some o → o.cls = .type "tuple" → (((s.heap.push (seqObj "list" #[] 0)).update s.heap.objs.size (Obj.mapSeq (· ++ vs.toArray))).push (seqObj "list" vs.toArray 0)).get? b = some o := fun b o q _ => by
    have hlt : b < s.heap.objs.size := Heap.lt_size q
    rw [Heap.get?_push_ne _ _ _ (by rw [hsz]; exact Nat.ne_of_lt (Nat.lt_succ_of_lt hlt)), Heap.get?_update_ne _ _ _ _ (Nat.ne_of_lt hlt), Heap.get?_push_ne _ _ _ (Nat.ne_of_lt hlt)]
    exact q
  show wpAny _ _ _ _ _ { s with heap := ((s.heap.push (seqObj "list" #[] 0)).update s.heap.objs.size (Obj.mapSeq (· ++ vs.toArray))).push (seqObj "list" vs.toArray 0) }
  rw [hsz]
  refine wpAny_bind (wpAny_holding (wpAny_call_entry slot_list_sort ⟨_, hoL, rfl⟩ entry_list_sort (sort_tupS hoL h64 (fun v hv => (x v hv).keeps keep) inj hρ fun out a1 => ⟨_, rfl, ?_⟩) (args_list_sort _)))
  exact wpAny_pure ⟨_, rfl, h out a1⟩
end
def rSortStm (K : PySem.W.Frag) : List V → Hp → VK → Prop := fun xs H Q => ∃ (a : Addr) (rs : List Addr) (rows : List (Str × List V)), xs = [V.ref a] ∧ SqL K H a (rs.map V.ref) ∧
  Paired (fun r (row : Str × List V) => SqT K H r (.str row.1 :: row.2)) rs rows ∧ (rows.map (·.1)).Nodup ∧ rs.length < 64 ∧ ∀ rs' p, List.Perm rs' rs → H p = none → Q (.ref p) (upd H p (.lst (rs'.map V.ref)))
def txR (h : Heap) (v : Value) : Str := DT.txOf (DT.seqAt0 h (DT.refOf (some v)))
theorem TupS.tx {h : Heap} {v : Value} {y : Str} (x : TupS h v y) : txR h v = y := by
  obtain ⟨a, o, items, n, t, rfl, ho, hc, hd⟩ := x
  show DT.txOf (DT.seqAt0 h a) = y
  rw [DT.seqAt0_of ⟨o, ho, hc, n, hd⟩]
  rfl
theorem refs_vals : ∀ {rs : List Addr} {us : List Value}, Vals (rs.map V.ref) us → us = rs.map Value.ref
  | [], _, .nil => rfl
  | r :: rs, _ :: us, .cons e t => by
    rw [List.map_cons, refs_vals t]
    congr 1
theorem vals_refs : ∀ (rs : List Addr), Vals (rs.map V.ref) (rs.map Value.ref)
  | [] => .nil
  | r :: rs => .cons (show RelV (.ref r) (.ref r) from rfl) (vals_refs rs)
theorem refs_perm : ∀ {rs : List Addr} {us : List Value}, us.Perm (rs.map Value.ref) → ∃ rs' : List Addr, us = rs'.map Value.ref ∧ rs'.Perm rs := by
  intro rs us h
  let f : Value → Addr := fun v => match v with | .ref a => a | _ => 0
  have e : ∀ l : List Addr, (l.map Value.ref).map f = l := fun l => by
    rw [List.map_map]
    exact List.map_id l
  refine ⟨us.map f, ?_, by have := h.map f; rw [e] at this; exact this⟩
  rw [List.map_map]
  have : ∀ v ∈ us, (Value.ref ∘ f) v = v := fun v hv => by
    obtain ⟨a, _, rfl⟩ := List.mem_map.mp (h.mem_iff.mp hv)
    rfl
  rw [List.map_congr_left this, List.map_id']
section
variable {X : Cx}
theorem pr_at {α β : Type} {F : α → β → Prop} : ∀ {l : List α} {m : List β}, Paired F l m → ∀ x ∈ l, ∃ y ∈ m, F x y
  | _, _, .nil, x, h => by cases h
  | _, _, .cons r t, x, h => by
    rcases List.mem_cons.mp h with e | h
    · subst e; exact ⟨_, List.mem_cons_self, r⟩
    · obtain ⟨y, hy, f⟩ := pr_at t x h
      exact ⟨y, List.mem_cons_of_mem _ hy, f⟩
theorem pr_inj {α β γ : Type} {F : α → β → Prop} {g : β → γ} {f : α → γ} : ∀ {l : List α} {m : List β}, Paired F l m → (∀ x y, F x y → f x = g y) → (m.map g).Nodup → ∀ x ∈ l, ∀ y ∈ l, f x = f y → x = y
  | _, _, .nil, _, _, x, hx, _, _, _ => by cases hx
  | _, _, @Paired.cons _ _ _ a b l m r t, hf, hn, x, hx, y, hy, e => by
    rw [List.map_cons, List.nodup_cons] at hn
    have key : ∀ z ∈ l, f z ≠ f a := fun z hz q => by
      obtain ⟨c, hc, fc⟩ := pr_at t z hz
      exact hn.1 (by rw [← hf _ _ r, ← q, hf _ _ fc]; exact List.mem_map.mpr ⟨c, hc, rfl⟩)
    rcases List.mem_cons.mp hx with h1 | h1
    · rcases List.mem_cons.mp hy with h2 | h2
      · rw [h1, h2]
      · rw [h1] at e; exact absurd e.symm (key y h2)
    · rcases List.mem_cons.mp hy with h2 | h2
      · rw [h2] at e; exact absurd e (key x h1)
      · exact pr_inj t hf hn.2 x h1 y h2 e
theorem cr_sortedStm : CallR X (.builtin "sorted") (rSortStm X.K) := by
  intro pins s σ H vs us Q I r h
  obtain ⟨a, rs, rows, rfl, hs, hp, hnd, h64, q⟩ := h
  obtain ⟨its, rv, hl, hz⟩ := I.list hs
  rw [Vals.ref1 r]
  have ei := refs_vals rv
  subst ei
  have hT : ∀ (b : Addr) (row : Str × List V), SqT X.K H b (.str row.1 :: row.2) → TupS s.heap (.ref b) row.1 := fun b row hq => by
    obtain ⟨its, r', pl, hz⟩ := I.tuple hq
    obtain ⟨o, ho, hc, n, hd⟩ := pl
    cases r' with
    | @cons _ _ u us r1 r2 =>
      obtain ⟨t, rfl⟩ := r1
      exact ⟨b, o, us, n, t, rfl, ho, hc, hd⟩
  have hx : ∀ v ∈ rs.map Value.ref, TupS s.heap v (txR s.heap v) ∧ txR s.heap v ∈ rows.map (·.1) := fun v hv => by
    obtain ⟨b, hb, rfl⟩ := List.mem_map.mp hv
    obtain ⟨row, hr, f⟩ := pr_at hp b hb
    have t := hT b row f
    rw [t.tx]
    exact ⟨t, List.mem_map.mpr ⟨row, hr, rfl⟩⟩
  refine sorted_tupS (nm := txR s.heap) (ρ := rankS (rows.map (·.1))) hl.isList (by rw [List.length_map]; exact h64) (fun v hv => (hx v hv).1) (fun v hv u hu e => ?_) (fun v hv u hu => rankS_eq (hx v hv).2 (hx u hu).2) fun out h1 => ?_
  · obtain ⟨b, hb, rfl⟩ := List.mem_map.mp hv
    obtain ⟨c, hc, rfl⟩ := List.mem_map.mp hu
    rw [pr_inj (f := fun b => txR s.heap (.ref b)) (g := fun row : Str × List V => row.1) hp (fun b row f => (hT b row f).tx) hnd b hb c hc e]
  · obtain ⟨ep, he'⟩ := PyProof.Rows.sortedAll_at s.heap (rs.map Value.ref) out
    obtain ⟨rs', e1, p1⟩ := refs_perm h1
    have hlen : (rs'.map V.ref).length ≤ sizeLine := by rw [List.length_map, p1.length_eq, sizeLine_eq]; omega
    exact ⟨.ref _, upd H (s.heap.objs.size + 1) (.lst (rs'.map V.ref)), I.laid (t' := s.toks) (fun _ _ => PyProof.Rows.sortedAll_old) (Nat.le_succ _) ⟨hlen, out.toList, ep, by rw [e1]; exact vals_refs rs', he'⟩, rfl, q rs' _ p1 (I.hok.fresh (Nat.le_succ _))⟩
end
end Mh
set_option Elab.async false
set_option linter.all false
set_option maxRecDepth 100000
set_option maxHeartbeats 4000000
/-! G0: what the module's names stand for. -/
namespace Mh
open PySem PySem.Spec PyProof.Rows L2
/-! ### what the module's names stand for -/
def letters : Str := "abcdefghijklmnopqrstuvwxyz0123456789"
structure Bi (mg : Str → Option Value) : Prop where
  b_len : mg "len" = none
  b_all : mg "all" = none
  b_sorted : mg "sorted" = none
  b_set : mg "set" = none
  b_list : mg "list" = none
  b_dict : mg "dict" = none
  b_sum : mg "sum" = none
  b_max : mg "max" = none
  b_min : mg "min" = none
  b_abs : mg "abs" = none
  b_int : mg "int" = none
  b_range : mg "range" = none
  g_LETTERS : ∃ u, mg "LETTERS" = some u ∧ RelV (.str letters) u
  g_MOST_FLOW : ∃ u, mg "MOST_FLOW" = some u ∧ RelV (.int 1000000) u
  g_MOST_KNOTS : ∃ u, mg "MOST_KNOTS" = some u ∧ RelV (.int 24) u
  g_MOST_STREAMS : ∃ u, mg "MOST_STREAMS" = some u ∧ RelV (.int 60) u
end Mh
set_option Elab.async false
set_option linter.all false
set_option maxRecDepth 100000
set_option maxHeartbeats 4000000
/-! W1: what stands in the heap; rules with K written; steps (g_..). -/
namespace Mh
open PySem PySem.Spec PyProof.Rows L2
open C8 (Cal Mak Met pe_c pe_mk pe_mt pe_mt0 pe_gc)

/-! ### rules with K written out -/
section
variable {X : Cx} {K : PySem.W.Frag}
theorem ix_listK (h : X.K = K) : IxR X (rIxL K) := by subst h; exact ix_list
theorem ix_tupK (h : X.K = K) : IxR X (rIxT K) := by subst h; exact ix_tup
theorem op_inK (h : X.K = K) : OpR X (compareOp .In) (rIn K false) := by subst h; exact op_in_seq
theorem op_notInK (h : X.K = K) : OpR X (compareOp .NotIn) (rIn K true) := by subst h; exact op_notIn_seq
theorem op_neDK (h : X.K = K) (hu : X.A.units + 64 < cLine) : OpR X (compareOp .NotEq) (rNeD K) := by subst h; exact op_neD hu
theorem cr_allK (h : X.K = K) (hc : X.calm = true) : CallR X (.builtin "all") (rAll K) := by subst h; exact cr_all hc
theorem cr_sumK (h : X.K = K) (hc : X.calm = true) : CallR X (.builtin "sum") (rSum K) := by subst h; exact cr_sum hc
theorem cr_minK1 (h : X.K = K) (hc : X.calm = true) : CallR X (.builtin "min") (rMin K) := by subst h; exact cr_min hc
theorem pg_tupK {es : List Expr} {k : Nat} {t : TGs} {n : Nat} (hK : X.K = K) (hc : X.calm = true) (h : PGs X es t)
    (hn : (assignEach es X.env).length = n := by rfl) (hst : (assignEach es X.env).findIdx? (·.1) = none := by rfl) : PG X (.Tuple es k pos) (gTup K n t) := by
  subst hK
  exact pg_tup hc h hn hst
def rLenQ (K : PySem.W.Frag) : List V → Hp → VK → Prop := fun xs H Q => ∃ p ys, xs = [.ref p] ∧ (SqL K H p ys ∨ SqT K H p ys) ∧ Q (.int ys.length) H
theorem cr_lenQ (h : X.K = K) : CallR X (.builtin "len") (rLenQ K) := by subst h; exact call_len_seq
def rLenZ : List V → Hp → VK → Prop := fun xs H Q => ∃ z, xs = [.str z] ∧ z.length ≤ sizeLine ∧ Q (.int z.length) H
theorem cr_lenZ : CallR X (.builtin "len") rLenZ := call_len_str
def rListQ (K : PySem.W.Frag) : List V → Hp → VK → Prop := fun xs H Q => ∃ p ys, xs = [.ref p] ∧ (SqL K H p ys ∨ SqT K H p ys) ∧ ∀ l, H l = none → Q (.ref l) (upd H l (.lst ys))
theorem cr_listQ (h : X.K = K) : CallR X (.type "list") (rListQ K) := by subst h; exact call_list_of
def rAbs1 : List V → Hp → VK → Prop := fun xs H Q => ∃ i, xs = [.int i] ∧ Q (.int (if i < 0 then -i else i)) H
theorem cr_abs1 : CallR X (.builtin "abs") rAbs1 := call_abs
def rMaxI : List V → Hp → VK → Prop := fun xs H Q => ∃ i j, xs = [.int i, .int j] ∧ Q (.int (if j > i then j else i)) H
theorem cr_maxI (hc : X.calm = true) : CallR X (.builtin "max") rMaxI := call_max2 hc
def rMinI : List V → Hp → VK → Prop := fun xs H Q => ∃ i j, xs = [.int i, .int j] ∧ Q (.int (if j < i then j else i)) H
theorem cr_minI (hc : X.calm = true) : CallR X (.builtin "min") rMinI := call_min2 hc
def rInt1 : List V → Hp → VK → Prop := fun xs H Q => (∃ i, xs = [.int i] ∧ Q (.int i) H) ∨ ∃ k, xs = [.bl k] ∧ Q (.int (if k then 1 else 0)) H
theorem cr_int1 : CallR X (.type "int") rInt1 := call_int1
def rIsNo : R2 := fun x y H Q => y = .non ∧ Q (.bl (decide (x = .non))) H
def rNotNo : R2 := fun x y H Q => y = .non ∧ Q (.bl (!decide (x = .non))) H
theorem op_isNo : OpR X (compareOp .Is) rIsNo := op_isN
theorem op_notNo : OpR X (compareOp .IsNot) rNotNo := op_notN
def rAddZ : R2 := fun x y H Q => ∃ i j, x = .str i ∧ y = .str j ∧ i.length + j.length ≤ sizeLine ∧ Q (.str (i ++ j)) H
theorem op_addZ : OpR X (binaryOp .Add) rAddZ := op_add_str
def rSign : R2 := fun x y H Q => ∃ (c : Nat) (z : Str), x = .str ⟨#[c]⟩ ∧ y = .str z ∧ Q (.bl (decide (c ∈ z.cps.toList))) H
theorem op_sign : OpR X (compareOp .In) rSign := op_in_sign
/-- e, then its dict locked for good -/
def tFrz (t : TE) : TE := fun σ H Q => t σ H fun x H1 => ∃ d u, x = .ref d ∧ H1 d = some u ∧ Mut (some u) ∧ ∀ od, Q x (upd H1 d (.frz od u))
theorem pe_frz {e : Expr} {t : TE} (h : PE X e t) : PE X e (tFrz t) := by
  refine ⟨fun pins s σ H Q I hw => thn (h.run pins s σ H _ I hw) fun v s1 ⟨x, H1, I1, r, d, u, ex, hd, mu, q⟩ => ?_⟩
  obtain ⟨od, I2⟩ := I1.lock hd mu
  exact ⟨x, _, I2, r, q od⟩
end

/-! ### what stands in the heap -/
/-- a dict with text keys ks, in order, its values val -/
def dk (ks : List Str) (val : Str → V) : HO := .dK (ks.map fun k => (Sum.inr k, val k))
def ls (xs : List Str) : HO := .lst (xs.map V.str)
def li (xs : List Int) : HO := .lst (xs.map V.int)
def rf (rs : List Addr) : HO := .lst (rs.map V.ref)
/-- the key is added at the end, if it is new -/
def ins (ks : List Str) (n : Str) : List Str := if n ∈ ks then ks else ks ++ [n]
def fup {α : Type} (f : Str → α) (n : Str) (v : α) : Str → α := fun k => if k = n then v else f k
theorem valV_dk (ks : List Str) (val : Str → V) (n : Str) : valV (ks.map fun k => ((Sum.inr k : Key), val k)) (Sum.inr n) = if n ∈ ks then some (val n) else none := by
  induction ks with
  | nil => rfl
  | cons k r ih =>
    rw [List.map_cons]
    by_cases e : k = n
    · subst e
      rw [valV_pos rfl, if_pos List.mem_cons_self]
    · rw [valV_neg (fun z => e (Sum.inr.inj z)), ih]
      by_cases m : n ∈ r
      · rw [if_pos m, if_pos (List.mem_cons_of_mem _ m)]
      · rw [if_neg m, if_neg (fun z => (List.mem_cons.mp z).elim (fun q => e q.symm) m)]
theorem putK_dk (ks : List Str) (val : Str → V) (n : Str) (v : V) : putK (ks.map fun k => ((Sum.inr k : Key), val k)) (Sum.inr n) v = (ins ks n).map fun k => ((Sum.inr k : Key), fup val n v k) := by
  unfold putK ins
  have ha : ((ks.map fun k => ((Sum.inr k : Key), val k)).any fun kv => decide (kv.1 = Sum.inr n)) = decide (n ∈ ks) := by
    rw [valV_any, valV_dk]
    by_cases m : n ∈ ks <;> simp [m]
  rw [ha]
  by_cases m : n ∈ ks
  · rw [if_pos (decide_eq_true m), if_pos m, List.map_map]
    refine List.map_congr_left fun k _ => ?_
    show (if (Sum.inr k : Key) = Sum.inr n then _ else _) = _
    unfold fup
    by_cases e : k = n
    · rw [if_pos (by rw [e]), if_pos e]
    · rw [if_neg (fun z => e (Sum.inr.inj z)), if_neg e]
  · rw [if_neg (by simpa using m), if_neg m, List.map_append]
    congr 1
    · refine List.map_congr_left fun k hk => ?_
      unfold fup
      rw [if_neg (by intro z; subst z; exact m hk)]
    · show _ = [((Sum.inr n : Key), fup val n v n)]
      unfold fup
      rw [if_pos rfl]
theorem dk_congr {ks : List Str} {v v' : Str → V} (h : ∀ k ∈ ks, v k = v' k) : dk ks v = dk ks v' := by
  unfold dk
  congr 1
  exact List.map_congr_left fun k hk => by rw [h k hk]
theorem ins_old {ks : List Str} {n : Str} (h : n ∈ ks) : ins ks n = ks := if_pos h
theorem ins_new {ks : List Str} {n : Str} (h : n ∉ ks) : ins ks n = ks ++ [n] := if_neg h
theorem inV_str (x : Str) (xs : List Str) : inV (V.str x) (xs.map V.str) = decide (x ∈ xs) := by
  unfold inV
  rw [List.any_map]
  induction xs with
  | nil => rfl
  | cons y r ih =>
    rw [List.any_cons, ih]
    show (decide (y = x) || _) = _
    by_cases e : y = x
    · simp [e]
    · simp [e, Ne.symm e]
theorem flat_str (xs : List Str) : (xs.map V.str).all flatV = true := by
  rw [List.all_map]
  exact List.all_eq_true.mpr fun _ _ => rfl
end Mh
set_option Elab.async false
set_option linter.all false
set_option maxRecDepth 100000
set_option maxHeartbeats 4000000
/-! S4: != of two equal dicts of tuples of two ints. -/
namespace Mh
open PySem PySem.Spec PyProof.Rows L2
def rNeDD : R2 := fun x y H Q => ∃ (a b : Addr) (ks : List Str) (r r' : Str → Addr), x = .ref a ∧ y = .ref b ∧ H a = some (.dK (ks.map fun n => (Sum.inr n, V.ref (r n)))) ∧ H b = some (.dK (ks.map fun n => (Sum.inr n, V.ref (r' n)))) ∧
  (∀ n ∈ ks, ∃ i j : Int, H (r n) = some (.tup [.int i, .int j]) ∧ H (r' n) = some (.tup [.int i, .int j])) ∧ Q (.bl false) H
theorem val_at (f : Str → Addr) : ∀ (ks : List Str) (n : Str), n ∈ ks → valV (ks.map fun n => ((Sum.inr n : Key), V.ref (f n))) (Sum.inr n) = some (.ref (f n))
  | k :: ks, n, h => by
    by_cases e : k = n
    · subst e; exact valV_pos rfl
    · rw [List.map_cons, valV_neg (fun z => e (Sum.inr.inj z))]
      exact val_at f ks n ((List.mem_cons.mp h).resolve_left fun z => e z.symm)
section
variable {X : Cx} {pins : List (Addr × Obj)} {σ : L2.St} {H : Hp} {s : Shared}
theorem two_eq (I : Inv X pins σ H s) {A : Around} (hu : A.units + 8 < cLine) {p q : Addr} {i j : Int} (h1 : H p = some (.tup [.int i, .int j])) (h2 : H q = some (.tup [.int i, .int j])) : SeqAt.EqAt A s (.ref p) (.ref q) true := by
  have d : ∀ p, H p = some (.tup [.int i, .int j]) → ∃ as, Reads s.heap (.ref p) (.tuple [.int i, .int j]) as := fun p h =>
    Dp.reads I _ (.ref p) (.ref p) (.tup (SqT.of h) (.cons (.int i) (.cons (.int j) .nil))) rfl
  obtain ⟨as, r1⟩ := d p h1
  obtain ⟨bs, r2⟩ := d q h2
  have hp : PyData.plain (.tuple [.int i, .int j]) = true := rfl
  have h := SeqAt.eqAt_plain _ _ A s _ _ as bs r1 r2 hp hp (by
    have : PyData.depth (.tuple [.int i, .int j]) ≤ 7 := by simp [PyData.depth, PyData.depthAll]
    omega)
  rw [SeqAt.eqv_refl_plain _ hp] at h
  exact h
theorem hits_two {P : Program} {w : World} {A : Around} {ls : List (Key × V)} {vb : List (Key × Value)} (rb : KV ls vb) {ks : List (Key × V)} {va : List (Key × Value)}
    (ra : KV ks va) : (∀ p ∈ ks, ∃ u, valV ls p.1 = some u ∧ ∀ v y, RelV p.2 v → RelV u y → SeqAt.EqAt A s v y true) → PySem.W.KeqHits A s vb va true := by
  unfold KV at ra
  induction ra with
  | nil => intro _; exact .nil
  | @cons p q ps qs h t k =>
    intro hp
    obtain ⟨h1, h2⟩ := h
    obtain ⟨u, e, f⟩ := hp p List.mem_cons_self
    have rr : RelO (some u) (valueAt vb p.1) := by rw [← e]; exact rb.val p.1
    obtain ⟨y, hy, ry⟩ := rr.some_of
    obtain ⟨key, v⟩ := q
    have h1' : p.1 = key := h1
    rw [h1'] at hy
    show PySem.W.KeqHits A s vb ((key, v) :: qs) (true && true)
    exact .hit hy (f _ _ h2 ry) (k fun p' hm => hp p' (List.mem_cons_of_mem _ hm))
theorem op_neDD (hu : X.A.units + 64 < cLine) : OpR X (compareOp .NotEq) rNeDD := by
  intro pins s σ H x y v u Q I rx ry h
  obtain ⟨a, b, ks, r, r', rfl, rfl, ea, eb, hp, q⟩ := h
  obtain rfl : v = Value.ref a := rx
  obtain rfl : u = Value.ref b := ry
  obtain ⟨_, ya, va, ra, da⟩ := (show ObjOk X.prog X.w H s.heap a (.dK _) from I.hok a _ ea)
  obtain ⟨_, yb, vb, rb, db⟩ := (show ObjOk X.prog X.w H s.heap b (.dK _) from I.hok b _ eb)
  have hl : va.length = vb.length := by
    have l1 := ra.length
    have l2 := rb.length
    rw [List.length_map] at l1 l2
    omega
  refine PySem.W.keq_ne (knd := mixKind X.prog X.w) (r := true) ya yb da db (by omega) (fun _ => hits_two (P := X.prog) (w := X.w) rb ra fun p hm => ?_) ?_
  · obtain ⟨n, hn, rfl⟩ := List.mem_map.mp hm
    refine ⟨_, val_at r' ks n hn, fun v y rv ry => ?_⟩
    cases (show v = Value.ref (r n) from rv)
    cases (show y = Value.ref (r' n) from ry)
    obtain ⟨i, j, h1, h2⟩ := hp n hn
    exact two_eq I (by show X.A.units + 1 + 8 < cLine; omega) h1 h2
  · have e : (!(va.length == vb.length && true)) = false := by rw [hl]; simp
    rw [e]
    exact ⟨.bl false, H, I, rfl, q⟩
end
end Mh
set_option Elab.async false
set_option linter.all false
set_option maxRecDepth 100000
set_option maxHeartbeats 4000000
/-! W2: steps. -/
namespace Mh
open PySem PySem.Spec PyProof.Rows L2
open C8 (Cal Mak Met pe_c pe_mk pe_mt pe_mt0 pe_gc)
section
variable {X : Cx}
/-- a statement, then the rest, a word of one's own between them -/
def tCutI (t u : TS) : TS := fun D σ H => ∃ Mid : L2.St → Hp → Prop, t { D with nx := Mid } σ H ∧ ∀ σ' H', Mid σ' H' → u D σ' H'
theorem pss_cutI {st : Stmt} {rest : List Stmt} {t u : TS} (h1 : PS X st t) (h2 : PSs X rest u) : PSs X (st :: rest) (tCutI t u) := by
  refine ⟨fun pins s σ H D I h => ?_⟩
  obtain ⟨Mid, hm, hu⟩ := h
  refine wpAny_execs_cons (thn (h1.run pins s σ H { D with nx := Mid } I hm) fun f s1 q => ?_)
  cases f with
  | next =>
    obtain ⟨σ', H', I', q⟩ := q
    exact h2.run pins s1 σ' H' D I' (hu σ' H' q)
  | ret v => exact q
  | brk => exact q
  | cont => exact q
end
section
variable {K : PySem.W.Frag} {σ : L2.St} {H H' : Hp} {Q : VK} {nx : L2.St → Hp → Prop} {rt : VK} {bk ct : L2.St → Hp → Prop} {t u : TS} {ta tb tc te td ty tv : TE} {v x y z : V} {i j : Nat}
/-! ### statements -/
theorem g_seq (q : t ⟨u ⟨nx, rt, bk, ct⟩, rt, bk, ct⟩ σ H) : tSeq t u ⟨nx, rt, bk, ct⟩ σ H := q
theorem g_cut (Mid : L2.St → Hp → Prop) (q : t ⟨Mid, rt, bk, ct⟩ σ H) (k : ∀ σ' H', Mid σ' H' → u ⟨nx, rt, bk, ct⟩ σ' H') : tCutI t u ⟨nx, rt, bk, ct⟩ σ H := ⟨Mid, q, k⟩
theorem g_asg {g : TG} (q : te σ H fun x H1 => g x σ H1 nx) : tAsg te g ⟨nx, rt, bk, ct⟩ σ H := q
theorem g_name {R : L2.St → Hp → Prop} (q : R (σ.set i (some v)) H) : gName i v σ H R := q
theorem g_ret (q : te σ H rt) : tRet te ⟨nx, rt, bk, ct⟩ σ H := q
theorem g_retN (q : rt .non H) : tRetN ⟨nx, rt, bk, ct⟩ σ H := q
theorem g_next (q : nx σ H) : tNext ⟨nx, rt, bk, ct⟩ σ H := q
theorem g_break (q : bk σ H) : tBreak ⟨nx, rt, bk, ct⟩ σ H := q
theorem g_drop (q : te σ H fun _ H1 => nx σ H1) : tDrop te ⟨nx, rt, bk, ct⟩ σ H := q
theorem g_if {c : TT} (q : c σ H fun b H1 => if b = true then t ⟨nx, rt, bk, ct⟩ σ H1 else u ⟨nx, rt, bk, ct⟩ σ H1) : tIfS c t u ⟨nx, rt, bk, ct⟩ σ H := q
theorem g_ite {p : Prop} [Decidable p] {A B : Prop} (h1 : p → A) (h2 : ¬ p → B) : if decide p = true then A else B := by
  by_cases h : p
  · rw [if_pos (decide_eq_true h)]; exact h1 h
  · rw [if_neg (by simpa using h)]; exact h2 h
theorem g_iteN {p : Prop} [Decidable p] {A B : Prop} (h1 : ¬ p → A) (h2 : p → B) : if (!decide p) = true then A else B := by
  by_cases h : p
  · rw [if_neg (by simp [h])]; exact h2 h
  · rw [if_pos (by simp [h])]; exact h1 h
theorem g_iteB {b : Bool} {A B : Prop} (h1 : b = true → A) (h2 : b = false → B) : if b = true then A else B := by
  cases b with
  | true => rw [if_pos rfl]; exact h1 rfl
  | false => rw [if_neg Bool.false_ne_true]; exact h2 rfl
theorem g_T {A B : Prop} (h : A) : if true = true then A else B := by rw [if_pos rfl]; exact h
theorem g_F {A B : Prop} (h : B) : if false = true then A else B := by rw [if_neg Bool.false_ne_true]; exact h
theorem g_aug {ti : TIp} (h : σ[i]? = some (some x)) (q : te σ H fun y H1 => ti x y H1 fun z H2 => nx (σ.set i (some z)) H2) : tAug i te ti ⟨nx, rt, bk, ct⟩ σ H := ⟨x, h, q⟩
theorem g_ipI {f : Int → Int → Int} {m n : Int} (q : Q (.int (f m n)) H) : ipI f (.int m) (.int n) H Q := ⟨m, n, rfl, rfl, q⟩
/-! ### expressions -/
theorem g_var (h : σ[i]? = some (some v)) (q : Q v H) : tVar i σ H Q := ⟨v, h, q⟩
theorem g_c (q : Q v H) : tC v σ H Q := q
theorem g_op {r : R2} (q : ta σ H fun x H1 => tb σ H1 fun y H2 => r x y H2 Q) : tOp r ta tb σ H Q := q
theorem g_un {r : V → Hp → VK → Prop} (q : ta σ H fun x H1 => r x H1 Q) : tUn r ta σ H Q := q
theorem g_test {R : Bool → Hp → Prop} (q : te σ H fun x H' => ∃ k, x = .bl k ∧ R k H') : tTest te σ H R := q
theorem g_tB {R : Bool → Hp → Prop} (q : te σ H fun x H' => ∃ k, x = .bl k ∧ R k H') : tB te σ H R := q
theorem g_exb {b : Bool} {R : Bool → Prop} (q : R b) : ∃ k, V.bl b = .bl k ∧ R k := ⟨b, rfl, q⟩
theorem g_and {t u : TT} {R : Bool → Hp → Prop} (q : t σ H fun c H1 => if c = true then u σ H1 R else R false H1) : tAnd t u σ H R := q
theorem g_or {t u : TT} {R : Bool → Hp → Prop} (q : t σ H fun c H1 => if c = true then R true H1 else u σ H1 R) : tOr t u σ H R := q
theorem g_not {t : TT} {R : Bool → Hp → Prop} (q : t σ H fun c H1 => R (!c) H1) : tNot t σ H R := q
theorem g_tIf {t : TT} (q : t σ H fun c H1 => if c = true then ta σ H1 Q else tb σ H1 Q) : tIf t ta tb σ H Q := q
theorem g_andV (q : ta σ H fun x H1 => ∃ c, x = .bl c ∧ if c = true then tb σ H1 Q else Q (.bl false) H1) : tAndV ta tb σ H Q := q
theorem g_exbi {b : Bool} {A B : Bool → Prop} (q : if b = true then A b else B b) : ∃ c, V.bl b = .bl c ∧ if c = true then A c else B c := ⟨b, rfl, q⟩
theorem g_chain {r r' : R2} (q : ta σ H fun x H1 => tb σ H1 fun y H2 => r x y H2 fun z H3 => ∃ k, z = .bl k ∧ (if k = true then tc σ H3 fun w' H4 => r' y w' H4 Q else Q (.bl false) H3)) : tChain r r' ta tb tc σ H Q := q
theorem g_chain3 {r r' r'' : R2} (q : ta σ H fun x H1 => tb σ H1 fun y H2 => r x y H2 fun z H3 => ∃ k, z = .bl k ∧
  (if k = true then tc σ H3 fun u H4 => r' y u H4 fun z' H5 => ∃ k', z' = .bl k' ∧ (if k' = true then td σ H5 fun v H6 => r'' u v H6 Q else Q (.bl false) H5) else Q (.bl false) H3)) : tChain3 r r' r'' ta tb tc td σ H Q := q
theorem g_rI0 {g : Int → Int → V} {m n : Int} (q : Q (g m n) H) : rI0 g (.int m) (.int n) H Q := ⟨m, n, rfl, rfl, q⟩
theorem g_rI {C : Int → Int → Prop} {g : Int → Int → V} {m n : Int} (c : C m n) (q : Q (g m n) H) : rI C g (.int m) (.int n) H Q := ⟨m, n, rfl, rfl, c, q⟩
theorem g_rU {g : Int → V} {m : Int} (q : Q (g m) H) : rU g (.int m) H Q := ⟨m, rfl, q⟩
theorem g_eqI {m n : Int} (q : Q (.bl (decide (m = n))) H) : rEq (.int m) (.int n) H Q := ⟨rfl, by
  have e : decide (V.int m = V.int n) = decide (m = n) := decide_eq_decide.mpr ⟨fun h => V.int.inj h, fun h => by rw [h]⟩
  rw [e]; exact q⟩
theorem g_neI {m n : Int} (q : Q (.bl (!decide (m = n))) H) : rNe (.int m) (.int n) H Q := ⟨rfl, by
  have e : decide (V.int m = V.int n) = decide (m = n) := decide_eq_decide.mpr ⟨fun h => V.int.inj h, fun h => by rw [h]⟩
  rw [e]; exact q⟩
theorem g_eqS {m n : Str} (q : Q (.bl (decide (m = n))) H) : rEq (.str m) (.str n) H Q := ⟨rfl, by
  have e : decide (V.str m = V.str n) = decide (m = n) := decide_eq_decide.mpr ⟨fun h => V.str.inj h, fun h => by rw [h]⟩
  rw [e]; exact q⟩
theorem g_neS {m n : Str} (q : Q (.bl (!decide (m = n))) H) : rNe (.str m) (.str n) H Q := ⟨rfl, by
  have e : decide (V.str m = V.str n) = decide (m = n) := decide_eq_decide.mpr ⟨fun h => V.str.inj h, fun h => by rw [h]⟩
  rw [e]; exact q⟩
theorem g_isNo (q : Q (.bl (decide (x = .non))) H) : rIsNo x .non H Q := ⟨rfl, q⟩
theorem g_notNo (q : Q (.bl (!decide (x = .non))) H) : rNotNo x .non H Q := ⟨rfl, q⟩
theorem g_isNoR {a : Addr} (q : Q (.bl false) H) : rIsNo (.ref a) .non H Q := ⟨rfl, q⟩
theorem g_isNoN (q : Q (.bl true) H) : rIsNo .non .non H Q := ⟨rfl, q⟩
theorem g_isNoS {a : Str} (q : Q (.bl false) H) : rIsNo (.str a) .non H Q := ⟨rfl, q⟩
theorem g_notNoR {a : Addr} (q : Q (.bl true) H) : rNotNo (.ref a) .non H Q := ⟨rfl, q⟩
theorem g_notNoS {a : Str} (q : Q (.bl true) H) : rNotNo (.str a) .non H Q := ⟨rfl, q⟩
theorem g_notNoN (q : Q (.bl false) H) : rNotNo .non .non H Q := ⟨rfl, q⟩
theorem g_nil {R : List V → Hp → Prop} (q : R [] H) : tNil σ H R := q
theorem g_cons {ts : TA} {R : List V → Hp → Prop} (q : ta σ H fun x H1 => ts σ H1 fun xs H2 => R (x :: xs) H2) : tCons ta ts σ H R := q
theorem g_cb {r : List V → Hp → VK → Prop} {ts : TA} (q : ts σ H fun vs H1 => r vs H1 Q) : tCB r ts σ H Q := q
theorem g_call {sp : Sp} {E : XK} {ts : TA} (q : ts σ H fun vs H1 => sp vs H1 Q E) : tCall sp [] E ts σ H Q := by
  have e : (fun (vs : List V) (H1 : Hp) => sp (vs ++ []) H1 Q E) = fun vs H1 => sp vs H1 Q E := by
    funext vs H1
    rw [List.append_nil]
  show ts σ H fun vs H1 => sp (vs ++ []) H1 Q E
  rw [e]
  exact q
theorem g_prop {C a dx : Addr} {fs : List (Str × V)} {sp : Sp} {E : XK} (hv : σ[i]? = some (some (.ref a))) (h : H a = some (.ins C dx fs)) (q : sp [.ref a] H Q E) : tProp C sp [] E (tVar i) σ H Q :=
  ⟨_, hv, a, dx, fs, rfl, h, q⟩
theorem g_meth0 {C a dx : Addr} {fs : List (Str × V)} {m : Str} {sp : Sp} {E : XK} (hv : σ[i]? = some (some (.ref a))) (h : H a = some (.ins C dx fs)) (hl : fs.lookup m = none) (q : sp [.ref a] H Q E) : tMeth C m sp [] E (tVar i) tNil σ H Q :=
  ⟨_, hv, a, dx, fs, rfl, h, hl, q⟩
theorem g_meth1 {C a dx : Addr} {fs : List (Str × V)} {m : Str} {sp : Sp} {E : XK} (hv : σ[i]? = some (some (.ref a))) (hw : σ[j]? = some (some y)) (h : H a = some (.ins C dx fs)) (hl : fs.lookup m = none) (q : sp [.ref a, y] H Q E) :
    tMeth C m sp [] E (tVar i) (tCons (tVar j) tNil) σ H Q := ⟨_, hv, a, dx, fs, rfl, h, hl, _, hw, q⟩
theorem g_fld {C a dx : Addr} {fs : List (Str × V)} {f : Str} (hv : σ[i]? = some (some (.ref a))) (h : H a = some (.ins C dx fs)) (hc : Cls K C) (hn : NoAttr K C f) (hl : fs.lookup f = some v) (q : Q v H) : tFld K (tVar i) f σ H Q :=
  ⟨_, hv, a, C, dx, fs, v, rfl, h, hc, hn, hl, q⟩
/-! ### new objects: the heap behind is another letter -/
theorem same_upd {p : Addr} {o : HO} (h : H p = none) : Same H (upd H p o) := fun b u e => by
  rw [upd_ne (ne_of_none e h)]
  exact e
theorem le_line {n : Nat} (h : n ≤ 1000) : n ≤ sizeLine := Nat.le_trans h (by decide)
theorem lt_line {n : Nat} (h : n < 1000) : n < sizeLine := Nat.lt_of_lt_of_le h (by decide)
theorem fresh_of {H0 H1 : Hp} {p : Addr} (e : Same H0 H1) (h : H1 p = none) : H0 p = none := by
  cases q : H0 p with
  | none => rfl
  | some o => rw [e _ _ q] at h; cases h
def kNew (o : HO) (H : Hp) (Q : VK) : Prop := ∀ p, H p = none → Q (.ref p) (upd H p o)
theorem g_new {o : HO} (q : ∀ p H1, H p = none → Same H H1 → H1 p = some o → Q (.ref p) H1) : kNew o H Q := fun p h => q p _ h (same_upd h) upd_same
def kTup (xs : List V) (H : Hp) (Q : VK) : Prop := xs.length ≤ sizeLine ∧ kNew (.tup xs) H Q
def kLst (xs : List V) (H : Hp) (Q : VK) : Prop := xs.length ≤ sizeLine ∧ kNew (.lst xs) H Q
theorem g_tup {ts : TA} (q : ts σ H fun xs H1 => kTup xs H1 Q) : tTup ts σ H Q := q
theorem g_lst {ts : TA} (q : ts σ H fun xs H1 => kLst xs H1 Q) : tLst ts σ H Q := q
theorem g_newT {xs : List V} (hn : xs.length ≤ 1000) (q : ∀ p H1, H p = none → Same H H1 → H1 p = some (.tup xs) → Q (.ref p) H1) : kTup xs H Q := ⟨le_line hn, g_new q⟩
theorem g_newL {xs : List V} (hn : xs.length ≤ 1000) (q : ∀ p H1, H p = none → Same H H1 → H1 p = some (.lst xs) → Q (.ref p) H1) : kLst xs H Q := ⟨le_line hn, g_new q⟩
/-! ### lists, tuples -/
theorem g_ixT {p : Addr} {xs : List V} {n : Int} (h : H p = some (.tup xs)) (ha : atI xs n = some v) (q : Q v H) : rIxT K (.ref p) (.int n) H Q := ⟨p, xs, n, v, rfl, rfl, SqT.of h, ha, q⟩
theorem g_ixL {p : Addr} {xs : List V} {n : Int} (h : H p = some (.lst xs)) (ha : atI xs n = some v) (q : Q v H) : rIxL K (.ref p) (.int n) H Q := ⟨p, xs, n, v, rfl, rfl, SqL.of h, ha, q⟩
theorem g_inS {p : Addr} {s : Str} {xs : List Str} (h : H p = some (ls xs)) (q : Q (.bl (decide (s ∈ xs))) H) : rIn K false (.str s) (.ref p) H Q := by
  refine ⟨p, xs.map V.str, rfl, .inl (SqL.of h), rfl, flat_str xs, ?_⟩
  rw [inV_str]
  exact q
theorem g_ninS {p : Addr} {s : Str} {xs : List Str} (h : H p = some (ls xs)) (q : Q (.bl (!decide (s ∈ xs))) H) : rIn K true (.str s) (.ref p) H Q := by
  refine ⟨p, xs.map V.str, rfl, .inl (SqL.of h), rfl, flat_str xs, ?_⟩
  rw [inV_str]
  exact q
theorem g_lenL {p : Addr} {xs : List V} (h : H p = some (.lst xs)) (q : Q (.int (xs.length : Int)) H) : rLenQ K [.ref p] H Q := ⟨p, xs, rfl, .inl (SqL.of h), q⟩
theorem g_lenT {p : Addr} {xs : List V} (h : H p = some (.tup xs)) (q : Q (.int (xs.length : Int)) H) : rLenQ K [.ref p] H Q := ⟨p, xs, rfl, .inr (SqT.of h), q⟩
theorem g_listL {p : Addr} {xs : List V} (h : H p = some (.lst xs)) (q : ∀ l H1, H l = none → Same H H1 → H1 l = some (.lst xs) → Q (.ref l) H1) : rListQ K [.ref p] H Q := ⟨p, xs, rfl, .inl (SqL.of h), g_new q⟩
theorem g_cat {l b : Addr} {xs zs : List V} (h1 : H l = some (.lst xs)) (h2 : H b = some (.lst zs)) (hl : xs.length + zs.length ≤ 1000) (q : ∀ p H1, H p = none → Same H H1 → H1 p = some (.lst (xs ++ zs)) → Q (.ref p) H1) : rCat (.ref l) (.ref b) H Q :=
  ⟨l, b, xs, zs, rfl, rfl, h1, h2, le_line hl, g_new q⟩
def kApp (l : Addr) (y : V) (H : Hp) (Q : VK) : Prop := ∃ ys, H l = some (.lst ys) ∧ ys.length < sizeLine ∧ Q .non (upd H l (.lst (ys ++ [y])))
theorem g_append {l : Addr} {xs : List V} (hv : σ[i]? = some (some (.ref l))) (h : H l = some (.lst xs)) (q : te σ H fun y H2 => kApp l y H2 Q) :
    tBM K "list" rAppend (tVar i) (tCons te tNil) σ H Q := by
  refine ⟨_, hv, .inl ⟨rfl, xs, SqL.of h⟩, ?_⟩
  show te σ H fun x H1 => tNil σ H1 fun xs H2 => rAppend (.ref l) (x :: xs) H2 Q
  have e : (fun (x : V) (H1 : Hp) => tNil σ H1 fun xs H2 => rAppend (.ref l) (x :: xs) H2 Q) = fun y H2 => kApp l y H2 Q := by
    funext y H2
    apply propext
    constructor
    · rintro ⟨l', xs', y', e1, e2, h3, h4, h5⟩
      cases e1
      cases e2
      exact ⟨xs', h3, h4, h5⟩
    · rintro ⟨ys, h3, h4, h5⟩
      exact ⟨l, ys, y, rfl, rfl, h3, h4, h5⟩
  rw [e]
  exact q
theorem g_kapp {l : Addr} {xs : List V} (h : H l = some (.lst xs)) (hl : xs.length < 1000) (q : Q .non (upd H l (.lst (xs ++ [y])))) : kApp l y H Q := ⟨xs, h, lt_line hl, q⟩
/-! ### dicts -/
def kGet (x y : V) (H : Hp) (Q : VK) : Prop := ∃ a v, x = .ref a ∧ DGet H a y (some v) ∧ Q v H
def kIn (x y : V) (H : Hp) (Q : VK) : Prop := ∃ a o, x = .ref a ∧ DGet H a y o ∧ Q (.bl o.isSome) H
def kNin (x y : V) (H : Hp) (Q : VK) : Prop := ∃ a o, x = .ref a ∧ DGet H a y o ∧ Q (.bl (!o.isSome)) H
def kPut (x y v : V) (H : Hp) (R : Hp → Prop) : Prop := ∃ a H', x = .ref a ∧ DPut H a y v H' ∧ R H'
def kGet2 (x y : V) (H : Hp) (R : Addr → V → Prop) : Prop := ∃ a v, x = .ref a ∧ DGet H a y (some v) ∧ R a v
def kPut2 (a : Addr) (y v : V) (H : Hp) (R : Hp → Prop) : Prop := ∃ H', DPut H a y v H' ∧ R H'
theorem g_dget (q : td σ H fun x H1 => ty σ H1 fun y H2 => kGet x y H2 Q) : tDGet td ty σ H Q := q
theorem g_din (q : ty σ H fun y H1 => td σ H1 fun x H2 => kIn x y H2 Q) : tDIn ty td σ H Q := q
theorem g_dnin (q : ty σ H fun y H1 => td σ H1 fun x H2 => kNin x y H2 Q) : tDNotIn ty td σ H Q := q
theorem g_dput (q : tv σ H fun v H1 => td σ H1 fun x H2 => ty σ H2 fun y H3 => kPut x y v H3 fun H4 => nx σ H4) : sDPut td ty tv ⟨nx, rt, bk, ct⟩ σ H := q
theorem g_daug {rd : V → V → Hp → VK → Prop} (q : td σ H fun x H1 => ty σ H1 fun y H2 => kGet2 x y H2 fun a v => tv σ H2 fun u H3 => rd v u H3 fun z H4 => kPut2 a y z H4 fun H5 => nx σ H5) :
    sDAug td ty tv rd ⟨nx, rt, bk, ct⟩ σ H := q
theorem g_kget {a : Addr} {ks : List Str} {val : Str → V} {n : Str} (h : Rd H a (dk ks val)) (m : n ∈ ks) (q : Q (val n) H) : kGet (.ref a) (.str n) H Q :=
  ⟨a, val n, rfl, .inl ⟨_, Sum.inr n, h, rfl, by rw [valV_dk, if_pos m]⟩, q⟩
theorem g_kgetI {a : Addr} {ks : List Str} {f : Str → Int} {n : Str} (h : Rd H a (dk ks fun n => .int (f n))) (m : n ∈ ks) (q : Q (.int (f n)) H) : kGet (.ref a) (.str n) H Q := g_kget h m q
theorem g_kgetR {a : Addr} {ks : List Str} {f : Str → Addr} {n : Str} (h : Rd H a (dk ks fun n => .ref (f n))) (m : n ∈ ks) (q : Q (.ref (f n)) H) : kGet (.ref a) (.str n) H Q := g_kget h m q
theorem g_kget2 {a : Addr} {ks : List Str} {val : Str → V} {n : Str} {R : Addr → V → Prop} (h : Rd H a (dk ks val)) (m : n ∈ ks) (q : R a (val n)) : kGet2 (.ref a) (.str n) H R :=
  ⟨a, val n, rfl, .inl ⟨_, Sum.inr n, h, rfl, by rw [valV_dk, if_pos m]⟩, q⟩
theorem g_kin {a : Addr} {ks : List Str} {val : Str → V} {n : Str} (h : Rd H a (dk ks val)) (q : Q (.bl (decide (n ∈ ks))) H) : kIn (.ref a) (.str n) H Q :=
  ⟨a, _, rfl, .inl ⟨_, Sum.inr n, h, rfl, rfl⟩, by
    rw [valV_dk]
    by_cases m : n ∈ ks
    · rw [if_pos m]; rw [decide_eq_true m] at q; exact q
    · rw [if_neg m]; rw [decide_eq_false m] at q; exact q⟩
theorem g_knin {a : Addr} {ks : List Str} {val : Str → V} {n : Str} (h : Rd H a (dk ks val)) (q : Q (.bl (!decide (n ∈ ks))) H) : kNin (.ref a) (.str n) H Q :=
  ⟨a, _, rfl, .inl ⟨_, Sum.inr n, h, rfl, rfl⟩, by
    rw [valV_dk]
    by_cases m : n ∈ ks
    · rw [if_pos m]; rw [decide_eq_true m] at q; exact q
    · rw [if_neg m]; rw [decide_eq_false m] at q; exact q⟩
theorem g_kput {a : Addr} {ks : List Str} {val : Str → V} {n : Str} {R : Hp → Prop} (h : H a = some (dk ks val)) (hl : ks.length < 1000) (q : R (upd H a (dk (ins ks n) (fup val n v)))) : kPut (.ref a) (.str n) v H R :=
  ⟨a, _, rfl, .inl ⟨_, Sum.inr n, h, rfl, by rw [List.length_map]; exact lt_line hl, rfl⟩, by
    rw [putK_dk]
    exact q⟩
theorem g_kput2 {a : Addr} {ks : List Str} {val : Str → V} {n : Str} {R : Hp → Prop} (h : H a = some (dk ks val)) (hl : ks.length < 1000) (q : R (upd H a (dk (ins ks n) (fup val n v)))) : kPut2 a (.str n) v H R :=
  ⟨_, .inl ⟨_, Sum.inr n, h, rfl, by rw [List.length_map]; exact lt_line hl, rfl⟩, by
    rw [putK_dk]
    exact q⟩
theorem g_rAdd {m n : Int} (q : Q (.int (m + n)) H) : rAdd (.int m) (.int n) H Q := ⟨m, n, rfl, rfl, q⟩
theorem g_rSub {m n : Int} (q : Q (.int (m - n)) H) : rSub (.int m) (.int n) H Q := ⟨m, n, rfl, rfl, q⟩
def rListDk : List V → Hp → VK → Prop := fun xs H Q => ∃ (a : Addr) (kvs : List (Key × V)), xs = [.ref a] ∧ Rd H a (.dK kvs) ∧ ∀ p, H p = none → Q (.ref p) (upd H p (.lst (kvs.map fun kv => kV kv.1)))
theorem cr_listDk {X : Cx} (hc : X.calm = true) : CallR X (.type "list") rListDk := call_listD hc
theorem dk_keys (ks : List Str) (val : Str → V) : ((ks.map fun k => ((Sum.inr k : Key), val k)).map fun kv => kV kv.1) = ks.map V.str := by rw [List.map_map]; rfl
theorem g_listD {a : Addr} {ks : List Str} {val : Str → V} (h : Rd H a (dk ks val)) (q : ∀ p H1, H p = none → Same H H1 → H1 p = some (ls ks) → Q (.ref p) H1) : rListDk [.ref a] H Q :=
  ⟨a, _, rfl, h, by
    rw [dk_keys]
    exact g_new (o := ls ks) q⟩
def rDictDk : List V → Hp → VK → Prop := fun xs H Q => ∃ (a : Addr) (kvs : List (Key × V)), xs = [.ref a] ∧ Rd H a (.dK kvs) ∧ ∀ p, H p = none → Q (.ref p) (upd H p (.dK kvs))
theorem cr_dictDk {X : Cx} : CallR X (.type "dict") rDictDk := call_dictD
theorem g_dictD {a : Addr} {ks : List Str} {val : Str → V} (h : Rd H a (dk ks val)) (q : ∀ p H1, H p = none → Same H H1 → H1 p = some (dk ks val) → Q (.ref p) H1) : rDictDk [.ref a] H Q :=
  ⟨a, _, rfl, h, g_new (o := dk ks val) q⟩
def rSortDk : List V → Hp → VK → Prop := fun xs H Q => ∃ (a : Addr) (kvs : List (Key × V)) (ks : List Str), xs = [.ref a] ∧ Rd H a (.dK kvs) ∧ kvs.map (·.1) = ks.map Sum.inr ∧ ks.length < 64 ∧
  ∀ ys p, List.Perm ys ks → sortedS ys = true → H p = none → Q (.ref p) (upd H p (.lst (ys.map V.str)))
theorem cr_sortDk {X : Cx} (hc : X.calm = true) : CallR X (.builtin "sorted") rSortDk := call_sortedD hc
theorem g_sortD {a : Addr} {ks : List Str} {val : Str → V} (h : Rd H a (dk ks val)) (hl : ks.length < 64) (q : ∀ ys p H1, List.Perm ys ks → sortedS ys = true → H p = none → Same H H1 → H1 p = some (ls ys) → Q (.ref p) H1) : rSortDk [.ref a] H Q :=
  ⟨a, _, ks, rfl, h, by rw [List.map_map]; rfl, hl, fun ys p hp hs hn => q ys p _ hp hs hn (same_upd hn) upd_same⟩
theorem g_sortS {a : Addr} {ks : List Str} (h : H a = some (ls ks)) (hl : ks.length < 64) (q : ∀ ys p H1, List.Perm ys ks → sortedS ys = true → H p = none → Same H H1 → H1 p = some (ls ys) → Q (.ref p) H1) : rSortedS K [.ref a] H Q :=
  ⟨a, ks, rfl, SqL.of h, hl, fun ys p hp hs hn => q ys p _ hp hs hn (same_upd hn) upd_same⟩
theorem g_setOf {P : Program} {w : World} {a : Addr} {ks : List Str} (h : H a = some (ls ks)) (hl : ks.length < 64) (q : ∀ p l H1, l.Nodup → (∀ z, z ∈ l ↔ z ∈ ks) → H p = none → Same H H1 → H1 p = some (SetS P w p l) → Q (.ref p) H1) : rSetOfS K P w [.ref a] H Q :=
  ⟨a, ks, rfl, SqL.of h, hl, fun p l hn ld lm => q p l _ ld lm hn (same_upd hn) upd_same⟩
theorem g_lenSet {P : Program} {w : World} {a : Addr} {l : List Str} (h : H a = some (SetS P w a l)) (q : Q (.int (l.length : Int)) H) : rLenS P w [.ref a] H Q := ⟨a, l, rfl, h, q⟩
theorem g_sortSet {P : Program} {w : World} {a : Addr} {l : List Str} (h : H a = some (SetS P w a l)) (hl : l.length < 64) (q : ∀ ys p H1, List.Perm ys l → H p = none → Same H H1 → H1 p = some (ls ys) → Q (.ref p) H1) : rSortedSet2 P w [.ref a] H Q :=
  ⟨a, l, rfl, h, hl, fun ys p hp hn => q ys p _ hp hn (same_upd hn) upd_same⟩
theorem g_abs {m : Int} (q : Q (.int (if m < 0 then -m else m)) H) : rAbs1 [.int m] H Q := ⟨m, rfl, q⟩
theorem g_maxI {m n : Int} (q : Q (.int (if n > m then n else m)) H) : rMaxI [.int m, .int n] H Q := ⟨m, n, rfl, q⟩
theorem g_minI {m n : Int} (q : Q (.int (if n < m then n else m)) H) : rMinI [.int m, .int n] H Q := ⟨m, n, rfl, q⟩
theorem g_int1 {m : Int} (q : Q (.int m) H) : rInt1 [.int m] H Q := .inl ⟨m, rfl, q⟩
theorem g_intB {b : Bool} (q : Q (.int (if b then 1 else 0)) H) : rInt1 [.bl b] H Q := .inr ⟨b, rfl, q⟩
/-! ### targets -/
theorem g_tt {n : Nat} {ts : TGs} {a : Addr} {xs : List V} {R : L2.St → Hp → Prop} (h : H a = some (.tup xs)) (hl : xs.length = n) (q : ts xs σ H R) : gTup K n ts (.ref a) σ H R := ⟨a, xs, rfl, SqT.of h, hl, q⟩
theorem g_tcons {g : TG} {gs : TGs} {r : List V} {R : L2.St → Hp → Prop} (q : g v σ H fun σ' H' => gs r σ' H' R) : gCons g gs (v :: r) σ H R := ⟨v, r, rfl, q⟩
theorem g_tnil {R : L2.St → Hp → Prop} (q : R σ H) : gNil [] σ H R := ⟨rfl, q⟩
end
end Mh
set_option Elab.async false
set_option linter.all false
set_option maxRecDepth 100000
set_option maxHeartbeats 4000000
/-! W3: loops and comprehensions over lists whose items are told by a list of one's own. -/
namespace Mh
open PySem PySem.Spec PyProof.Rows L2
open C8 (Cal Mak Met pe_c pe_mk pe_mt pe_mt0 pe_gc)

/-- a list of tuples at a: what they say, one by one -/
def Tups {α : Type} (row : α → List V) (H : Hp) (a : Addr) (xs : List α) : Prop := ∃ L : List (Addr × α), L.map (·.2) = xs ∧ H a = some (rf (L.map (·.1))) ∧ ∀ p ∈ L, H p.1 = some (.tup (row p.2))
theorem Tups.mono {α : Type} {row : α → List V} {H H' : Hp} {a : Addr} {xs : List α} (h : Tups row H a xs) (e : Same H H') : Tups row H' a xs := by
  obtain ⟨L, h1, h2, h3⟩ := h
  exact ⟨L, h1, e _ _ h2, fun p hp => e _ _ (h3 p hp)⟩
def fst {α : Type} (p : Addr × α) : V := V.ref p.1
theorem rf_fst {α : Type} (L : List (Addr × α)) : rf (L.map (·.1)) = .lst (L.map fst) := by unfold rf; rw [List.map_map]; rfl
/-- tuples stay where they are -/
def TupE (H H' : Hp) : Prop := ∀ r xs, H r = some (.tup xs) → H' r = some (.tup xs)
theorem TupE.of {H H' : Hp} (e : Same H H') : TupE H H' := fun r xs h => e r _ h
theorem TupE.refl (H : Hp) : TupE H H := fun _ _ h => h
theorem TupE.trans {H H1 H2 : Hp} (a : TupE H H1) (b : TupE H1 H2) : TupE H H2 := fun r xs h => b r xs (a r xs h)
theorem TupE.upd {H : Hp} {p : Addr} {o u : HO} (h : H p = some u) (hu : ∀ xs, u ≠ .tup xs) : TupE H (upd H p o) := fun r xs e => by
  rw [upd_ne (fun z => by rw [z, h] at e; exact hu xs (Option.some.inj e))]
  exact e
/-- a local object changes: what stood at the base heap stays -/
theorem sm_chg {H0 H : Hp} {p : Addr} {o : HO} (e : Same H0 H) (h : H0 p = none) : Same H0 (upd H p o) := fun b u q => by
  rw [upd_ne (ne_of_none q h)]
  exact e b u q

section
variable {K : PySem.W.Frag} {σ : L2.St} {H : Hp} {Q : VK} {nx : L2.St → Hp → Prop} {rt : VK} {bk ct : L2.St → Hp → Prop} {t u : TS} {tl te tk tv : TE} {tt : TT} {g : TG} {tb : TS} {a : Addr} {vs : List Nat}
def kFor (K : PySem.W.Frag) (g : TG) (tb : TS) (D : Ends) (σ : L2.St) (x : V) (H1 : Hp) : Prop := ∃ a, x = .ref a ∧ (∃ xs, SqL K H1 a xs) ∧ ∃ W : Nat → Nat → L2.St → Hp → Prop, (∃ m, W 0 m σ H1) ∧ ∀ i m σ H, W i m σ H →
  ((Itl K a).stop i H ∧ D.nx σ H) ∨ ((Itl K a).go i H ∧ ∃ N : L2.St → Hp → Prop, (∀ σ' H', N σ' H' → ∃ m', m' < m ∧ W (i + 1) m' σ' H') ∧ ∀ x H', (Itl K a).yld i H x H' → g x σ H' fun σ2 H2 => tb { D with nx := N, ct := N, bk := D.nx } σ2 H2)
theorem g_forL (q : tl σ H fun x H1 => kFor K g tb ⟨nx, rt, bk, ct⟩ σ x H1) : tFor (iList K tl) g tb ⟨nx, rt, bk, ct⟩ σ H := q
theorem take_dec {α : Type} {L : List α} {i : Nat} {y : α} (h : L[i]? = some y) : L = L.take i ++ y :: L.drop (i + 1) := by
  obtain ⟨hi, e⟩ := List.getElem?_eq_some_iff.mp h
  rw [← e, ← List.drop_eq_getElem_cons hi, List.take_append_drop]
theorem take_suc {α : Type} {L : List α} {i : Nat} {y : α} (h : L[i]? = some y) : L.take (i + 1) = L.take i ++ [y] := by
  rw [List.take_add_one, h]; rfl
/-- over a list that the body leaves as it is; Pv by what has been taken -/
theorem kFor_run {α : Type} (L : List α) (f : α → V) (h : SqL K H a (L.map f)) (Pv : List α → L2.St → Hp → Prop) (h0 : Pv [] σ H) (stay : ∀ d σ' H', Pv d σ' H' → SqL K H' a (L.map f))
    (hs : ∀ d y r σ' H', L = d ++ y :: r → Pv d σ' H' → g (f y) σ' H' fun σ2 H2 => tb ⟨Pv (d ++ [y]), rt, nx, Pv (d ++ [y])⟩ σ2 H2) (hd : ∀ σ' H', Pv L σ' H' → nx σ' H') : kFor K g tb ⟨nx, rt, bk, ct⟩ σ (.ref a) H := by
  refine ⟨a, rfl, ⟨_, h⟩, for_list (D := ⟨nx, rt, bk, ct⟩) (xs := L.map f) (fun i σ' H' => Pv (L.take i) σ' H') (by simpa using h0) (fun i σ' H' _ p => stay _ _ _ p) (fun i x σ' H' hi p => ?_) (fun σ' H' p => hd _ _ ?_)⟩
  · rw [List.getElem?_map] at hi
    cases e : L[i]? with
    | none => rw [e] at hi; cases hi
    | some y =>
      rw [e] at hi
      have ex : f y = x := Option.some.inj hi
      subst ex
      show g (f y) σ' H' fun σ2 H2 => tb ⟨fun σ' H' => Pv (L.take (i + 1)) σ' H', rt, nx, fun σ' H' => Pv (L.take (i + 1)) σ' H'⟩ σ2 H2
      rw [take_suc e]
      exact hs _ y _ σ' H' (take_dec e) p
  · rw [List.length_map] at p
    rwa [List.take_length] at p
/-- one turn of a comprehension -/
def It1 (g : TG) (tt : TT) (te : TE) (σ0 : L2.St) (vs : List Nat) (x : V) (H : Hp) (C : Option V → Hp → Prop) : Prop :=
  g x σ0 H fun σ2 H2 => wipe σ2 vs = σ0 ∧ tt σ2 H2 fun b H3 => if b = true then te σ2 H3 fun y H4 => C (some y) H4 else C none H3
def kLc (K : PySem.W.Frag) (g : TG) (tt : TT) (te : TE) (vs : List Nat) (σ : L2.St) (x : V) (H1 : Hp) (Q : VK) : Prop := ∃ a, x = .ref a ∧ (∃ xs, SqL K H1 a xs) ∧ ∀ D, H1 D = none → ∃ W : Nat → Nat → Hp → Prop, (∃ m, W 0 m (upd H1 D (.lst []))) ∧ ∀ i m H, W i m H →
  ((Itl K a).stop i H ∧ Q (.ref D) H) ∨ ((Itl K a).go i H ∧ ∃ Nx : Hp → Prop, (∀ H', Nx H' → ∃ m', m' < m ∧ W (i + 1) m' H') ∧ ∀ x H', (Itl K a).yld i H x H' → g x (wipe σ vs) H' fun σ2 H2 => wipe σ2 vs = wipe σ vs ∧ tt σ2 H2 fun b H3 =>
    if b = true then te σ2 H3 fun y H4 => ∃ acc, H4 D = some (.lst acc) ∧ acc.length < sizeLine ∧ Nx (upd H4 D (.lst (acc ++ [y]))) else Nx H3)
theorem g_lc (q : tl σ H fun x H1 => kLc K g tt te vs σ x H1 Q) : tLc (iList K tl) g tt te vs σ H Q := q
theorem Paired.rel {α β : Type} {F : α → β → Prop} {x : α} {y : β} : ∀ {l₁ : List α} {l₂ : List β}, Paired F l₁ l₂ → (x, y) ∈ l₁.zip l₂ → F x y
  | _, _, .nil, h => by cases h
  | _, _, .cons r t, h => by
    rcases List.mem_cons.mp h with e | h
    · cases e; exact r
    · exact Paired.rel t h
theorem fm_snoc {β : Type} (os : List (Option β)) (o : Option β) : (os ++ [o]).filterMap id = os.filterMap id ++ (match o with | some y => [y] | none => []) := by
  rw [List.filterMap_append]
  cases o <;> rfl
theorem kLc_run {α : Type} (L : List α) (f : α → V) (h : SqL K H a (L.map f)) (hz : L.length ≤ 900) (R : α → Option V → Hp → Prop) (mono : ∀ y o H1 H2, TupE H1 H2 → R y o H1 → R y o H2)
    (step : ∀ y ∈ L, ∀ H1, Same H H1 → ∀ C : Option V → Hp → Prop, (∀ o H2, Same H1 H2 → R y o H2 → C o H2) → It1 g tt te (wipe σ vs) vs (f y) H1 C)
    (k : ∀ D H1 os, H D = none → Same H H1 → Paired (fun y o => R y o H1) L os → H1 D = some (.lst (os.filterMap id)) → Q (.ref D) H1) : kLc K g tt te vs σ (.ref a) H Q := by
  refine ⟨a, rfl, ⟨_, h⟩, fun D hD => lc_list (xs := L.map f)
    (fun i H' => ∃ os : List (Option V), Same H H' ∧ H' D = some (.lst (os.filterMap id)) ∧ os.length = i ∧ Paired (fun y o => R y o H') (L.take i) os)
    ⟨[], sm_chg (Same.refl H) hD, upd_same, rfl, .nil⟩ (fun i H' hi p => ?_) (fun i x H' hi p => ?_) (fun H' p => ?_)⟩
  · obtain ⟨os, s1, _⟩ := p
    exact L2.Same.seq s1 h
  · obtain ⟨os, s1, d1, hl, hp⟩ := p
    rw [List.getElem?_map] at hi
    cases e : L[i]? with
    | none => rw [e] at hi; cases hi
    | some y =>
      rw [e] at hi
      have ex : f y = x := Option.some.inj hi
      subst ex
      have hiL : i < L.length := (List.getElem?_eq_some_iff.mp e).1
      have hlen : (os.filterMap id).length ≤ os.length := List.length_filterMap_le _ _
      have st := step y (List.mem_of_getElem? e) H' s1 (fun o H4 => match o with
        | some z => ∃ acc, H4 D = some (.lst acc) ∧ acc.length < sizeLine ∧ (fun H' => ∃ os : List (Option V), Same H H' ∧ H' D = some (.lst (os.filterMap id)) ∧ os.length = i + 1 ∧ Paired (fun y o => R y o H') (L.take (i + 1)) os) (upd H4 D (.lst (acc ++ [z])))
        | none => ∃ os : List (Option V), Same H H4 ∧ H4 D = some (.lst (os.filterMap id)) ∧ os.length = i + 1 ∧ Paired (fun y o => R y o H4) (L.take (i + 1)) os) (fun o H4 s4 r => ?_)
      · exact st
      · have s2 : Same H H4 := L2.Same.trans s1 s4
        have d4 := s4 _ _ d1
        cases o with
        | none =>
          refine ⟨os ++ [none], s2, by rw [fm_snoc, List.append_nil]; exact d4, by rw [List.length_append, hl]; rfl, ?_⟩
          rw [take_suc e]
          exact PySem.Paired.snoc (L2.Paired.mapP hp fun _ _ z => mono _ _ _ _ (TupE.of s4) z) r
        | some z =>
          have te : TupE H4 (upd H4 D (.lst (os.filterMap id ++ [z]))) := TupE.upd d4 (fun _ q => by cases q)
          refine ⟨os.filterMap id, d4, lt_line (by omega), os ++ [some z], sm_chg s2 hD, by rw [fm_snoc]; exact upd_same, by rw [List.length_append, hl]; rfl, ?_⟩
          rw [take_suc e]
          exact PySem.Paired.snoc (L2.Paired.mapP hp fun _ _ z => mono _ _ _ _ te (mono _ _ _ _ (TupE.of s4) z)) (mono _ _ _ _ te r)
  · obtain ⟨os, s1, d1, hl, hp⟩ := p
    rw [List.length_map, List.take_length] at hp
    exact k D H' os hD s1 hp d1
/-- .. flat values -/
theorem kLc_pure {α : Type} (L : List α) (f : α → V) (F : α → Option V) (h : SqL K H a (L.map f)) (hz : L.length ≤ 900)
    (step : ∀ y ∈ L, ∀ H1, Same H H1 → ∀ C : Option V → Hp → Prop, (∀ H2, Same H1 H2 → C (F y) H2) → It1 g tt te (wipe σ vs) vs (f y) H1 C)
    (k : ∀ D H1, H D = none → Same H H1 → H1 D = some (.lst (L.filterMap F)) → Q (.ref D) H1) : kLc K g tt te vs σ (.ref a) H Q := by
  refine kLc_run L f h hz (fun y o _ => o = F y) (fun _ _ _ _ _ z => z) (fun y hy H1 s1 C c => step y hy H1 s1 C fun H2 s2 => c _ H2 s2 rfl) (fun D H1 os hD s1 hp e => ?_)
  have eo : ∀ {l : List α} {os : List (Option V)}, Paired (fun y o => o = F y) l os → os.filterMap id = l.filterMap F := by
    intro l os hp
    induction hp with
    | nil => rfl
    | cons r t ih =>
      subst r
      rw [List.filterMap_cons, List.filterMap_cons, ih]
      rfl
  rw [eo hp] at e
  exact k D H1 hD s1 e
/-- .. tuples -/
theorem kLc_tups {α β : Type} (L : List α) (f : α → V) (c : α → Bool) (out : α → β) (row : β → List V) (h : SqL K H a (L.map f)) (hz : L.length ≤ 900)
    (step : ∀ y ∈ L, ∀ H1, Same H H1 → ∀ C : Option V → Hp → Prop, (∀ H2, Same H1 H2 → c y = false → C none H2) → (∀ r H2, Same H1 H2 → c y = true → H2 r = some (.tup (row (out y))) → C (some (.ref r)) H2) → It1 g tt te (wipe σ vs) vs (f y) H1 C)
    (k : ∀ D H1, H D = none → Same H H1 → Tups row H1 D ((L.filter c).map out) → Q (.ref D) H1) : kLc K g tt te vs σ (.ref a) H Q := by
  refine kLc_run L f h hz (fun y o H' => (c y = false ∧ o = none) ∨ (c y = true ∧ ∃ r, o = some (.ref r) ∧ H' r = some (.tup (row (out y)))))
    (fun y o H1 H2 e z => z.imp id fun ⟨a, r, b, d⟩ => ⟨a, r, b, e _ _ d⟩)
    (fun y hy H1 s1 C c => step y hy H1 s1 C (fun H2 s2 q => c _ _ s2 (.inl ⟨q, rfl⟩)) fun r H2 s2 q e => c _ _ s2 (.inr ⟨q, r, rfl, e⟩)) (fun D H1 os hD s1 hp e => k D H1 hD s1 ?_)
  have eo : ∀ {l : List α} {os : List (Option V)}, Paired (fun y o => (c y = false ∧ o = none) ∨ (c y = true ∧ ∃ r, o = some (V.ref r) ∧ H1 r = some (.tup (row (out y))))) l os →
      ∃ M : List (Addr × β), M.map (·.2) = (l.filter c).map out ∧ os.filterMap id = M.map fst ∧ ∀ p ∈ M, H1 p.1 = some (.tup (row p.2)) := by
    intro l os hp
    induction hp with
    | nil => exact ⟨[], rfl, rfl, fun _ h => by cases h⟩
    | @cons y o l os r t ih =>
      obtain ⟨M, h1, h2, h3⟩ := ih
      rcases r with ⟨q, rfl⟩ | ⟨q, r, rfl, e⟩
      · refine ⟨M, ?_, ?_, h3⟩
        · rw [List.filter_cons, if_neg (by rw [q]; decide)]; exact h1
        · rw [List.filterMap_cons]; exact h2
      · refine ⟨(r, out y) :: M, ?_, ?_, fun p hp => ?_⟩
        · rw [List.filter_cons, if_pos q, List.map_cons, List.map_cons, h1]
        · rw [List.filterMap_cons, List.map_cons, ← h2]; rfl
        · rcases List.mem_cons.mp hp with z | z
          · rw [z]; exact e
          · exact h3 p z
  obtain ⟨M, h1, h2, h3⟩ := eo hp
  exact ⟨M, h1, by rw [e, h2, rf_fst], h3⟩
/-! ### dict comprehensions over a list -/
def kDc (K : PySem.W.Frag) (g : TG) (tt : TT) (tk tv : TE) (vs : List Nat) (σ : L2.St) (x : V) (H1 : Hp) (Q : VK) : Prop := ∃ a, x = .ref a ∧ (∃ xs, SqL K H1 a xs) ∧ ∀ D, H1 D = none → ∃ W : Nat → Nat → Hp → Prop, (∃ m, W 0 m (upd H1 D (.dK []))) ∧ ∀ i m H, W i m H →
  ((Itl K a).stop i H ∧ Q (.ref D) H) ∨ ((Itl K a).go i H ∧ ∃ Nx : Hp → Prop, (∀ H', Nx H' → ∃ m', m' < m ∧ W (i + 1) m' H') ∧ ∀ x H', (Itl K a).yld i H x H' → g x (wipe σ vs) H' fun σ2 H2 => wipe σ2 vs = wipe σ vs ∧ tt σ2 H2 fun b H3 =>
    if b = true then tk σ2 H3 fun y H4 => tv σ2 H4 fun z H5 => ∃ kvs k, y = kV k ∧ H5 D = some (.dK kvs) ∧ kvs.length < sizeLine ∧ Nx (upd H5 D (.dK (putK kvs k z))) else Nx H3)
theorem g_dc (q : tl σ H fun x H1 => kDc K g tt tk tv vs σ x H1 Q) : tDc (iList K tl) g tt tk tv vs σ H Q := q
/-- one turn: nothing, or a key and a value -/
def It2 (g : TG) (tt : TT) (tk tv : TE) (σ0 : L2.St) (vs : List Nat) (x : V) (H : Hp) (C : Option (V × V) → Hp → Prop) : Prop :=
  g x σ0 H fun σ2 H2 => wipe σ2 vs = σ0 ∧ tt σ2 H2 fun b H3 => if b = true then tk σ2 H3 fun y H4 => tv σ2 H4 fun z H5 => C (some (y, z)) H5 else C none H3
end
end Mh
set_option Elab.async false
set_option linter.all false
set_option maxRecDepth 100000
set_option maxHeartbeats 4000000
/-! W4: comprehensions over any walk; over locked dicts; dict comprehensions. -/
namespace Mh
open PySem PySem.Spec PyProof.Rows L2
open C8 (Cal Mak Met pe_c pe_mk pe_mt pe_mt0 pe_gc)
section
variable {K : PySem.W.Frag} {σ : L2.St} {H : Hp} {Q : VK} {tl te tk tv td : TE} {tt : TT} {g : TG} {vs : List Nat}
/-- what a walk gives, one by one: L; G: it stands -/
structure Wk {α : Type} (J : It) (L : List α) (G : Hp → Prop) (item : α → V → Hp → Prop) (H : Hp) : Prop where
  go : ∀ i H', G H' → i < L.length → J.go i H'
  stop : ∀ i H', G H' → L.length ≤ i → J.stop i H'
  yld : ∀ i y H' x H'', G H' → L[i]? = some y → J.yld i H' x H'' → Same H' H'' ∧ item y x H''
  st : ∀ H', Same H H' → G H'
theorem lcJ {α : Type} {J : It} {L : List α} {G : Hp → Prop} {item : α → V → Hp → Prop} (w : Wk J L G item H) (hz : L.length ≤ 900) (R : α → Option V → Hp → Prop) (mono : ∀ y o H1 H2, TupE H1 H2 → R y o H1 → R y o H2)
    (step : ∀ y ∈ L, ∀ x H1, Same H H1 → item y x H1 → ∀ C : Option V → Hp → Prop, (∀ o H2, Same H1 H2 → R y o H2 → C o H2) → It1 g tt te (wipe σ vs) vs x H1 C)
    (k : ∀ D H1 os, H D = none → Same H H1 → Paired (fun y o => R y o H1) L os → H1 D = some (.lst (os.filterMap id)) → Q (.ref D) H1) :
    ∀ D, H D = none → ∃ W : Nat → Nat → Hp → Prop, (∃ m, W 0 m (upd H D (.lst []))) ∧ ∀ i m H, W i m H →
  (J.stop i H ∧ Q (.ref D) H) ∨ (J.go i H ∧ ∃ Nx : Hp → Prop, (∀ H', Nx H' → ∃ m', m' < m ∧ W (i + 1) m' H') ∧ ∀ x H', J.yld i H x H' → g x (wipe σ vs) H' fun σ2 H2 => wipe σ2 vs = wipe σ vs ∧ tt σ2 H2 fun b H3 =>
    if b = true then te σ2 H3 fun y H4 => ∃ acc, H4 D = some (.lst acc) ∧ acc.length < sizeLine ∧ Nx (upd H4 D (.lst (acc ++ [y]))) else Nx H3) := by
  intro D hD
  have Pv0 : ∃ os : List (Option V), Same H (upd H D (.lst [])) ∧ (upd H D (.lst [])) D = some (.lst (os.filterMap id)) ∧ os.length = 0 ∧ Paired (fun y o => R y o (upd H D (.lst []))) (L.take 0) os :=
    ⟨[], sm_chg (Same.refl H) hD, upd_same, rfl, .nil⟩
  refine ⟨fun i m H' => m = L.length - i ∧ i ≤ L.length ∧ ∃ os : List (Option V), Same H H' ∧ H' D = some (.lst (os.filterMap id)) ∧ os.length = i ∧ Paired (fun y o => R y o H') (L.take i) os, ⟨_, rfl, Nat.zero_le _, Pv0⟩, ?_⟩
  rintro i m H' ⟨rfl, hi, os, s1, d1, hl, hp⟩
  by_cases hlt : i < L.length
  · refine .inr ⟨w.go i H' (w.st _ s1) hlt, fun H' => ∃ os : List (Option V), Same H H' ∧ H' D = some (.lst (os.filterMap id)) ∧ os.length = i + 1 ∧ Paired (fun y o => R y o H') (L.take (i + 1)) os, fun H' p' => ⟨L.length - (i + 1), by omega, rfl, hlt, p'⟩, fun x H'' yl => ?_⟩
    have e : L[i]? = some L[i] := List.getElem?_eq_getElem hlt
    obtain ⟨s2, it⟩ := w.yld i _ H' x H'' (w.st _ s1) e yl
    have hlen : (os.filterMap id).length ≤ os.length := List.length_filterMap_le _ _
    have st := step _ (List.mem_of_getElem? e) x H'' (L2.Same.trans s1 s2) it (fun o H4 => match o with
      | some z => ∃ acc, H4 D = some (.lst acc) ∧ acc.length < sizeLine ∧ (fun H' => ∃ os : List (Option V), Same H H' ∧ H' D = some (.lst (os.filterMap id)) ∧ os.length = i + 1 ∧ Paired (fun y o => R y o H') (L.take (i + 1)) os) (upd H4 D (.lst (acc ++ [z])))
      | none => ∃ os : List (Option V), Same H H4 ∧ H4 D = some (.lst (os.filterMap id)) ∧ os.length = i + 1 ∧ Paired (fun y o => R y o H4) (L.take (i + 1)) os) (fun o H4 s4 r => ?_)
    · exact st
    · have s3 : Same H' H4 := L2.Same.trans s2 s4
      have s5 : Same H H4 := L2.Same.trans s1 s3
      have d4 := s3 _ _ d1
      cases o with
      | none =>
        refine ⟨os ++ [none], s5, by rw [fm_snoc, List.append_nil]; exact d4, by rw [List.length_append, hl]; rfl, ?_⟩
        rw [take_suc e]
        exact PySem.Paired.snoc (L2.Paired.mapP hp fun _ _ z => mono _ _ _ _ (TupE.of s3) z) r
      | some z =>
        have te : TupE H4 (upd H4 D (.lst (os.filterMap id ++ [z]))) := TupE.upd d4 (fun _ q => by cases q)
        refine ⟨os.filterMap id, d4, lt_line (by omega), os ++ [some z], sm_chg s5 hD, by rw [fm_snoc]; exact upd_same, by rw [List.length_append, hl]; rfl, ?_⟩
        rw [take_suc e]
        exact PySem.Paired.snoc (L2.Paired.mapP hp fun _ _ z => mono _ _ _ _ te (mono _ _ _ _ (TupE.of s3) z)) (mono _ _ _ _ te r)
  · have e : i = L.length := by omega
    subst e
    rw [List.take_length] at hp
    exact .inl ⟨w.stop _ H' (w.st _ s1) (Nat.le_refl _), k D H' os hD s1 hp d1⟩
theorem pr_pure {α β : Type} {F : α → Option β} {l : List α} {os : List (Option β)} (hp : Paired (fun y o => o = F y) l os) : os.filterMap id = l.filterMap F := by
  induction hp with
  | nil => rfl
  | cons r t ih =>
    subst r
    rw [List.filterMap_cons, List.filterMap_cons, ih]
    rfl
theorem lcJ_pure {α : Type} {J : It} {L : List α} {G : Hp → Prop} {item : α → V → Hp → Prop} (w : Wk J L G item H) (hz : L.length ≤ 900) (F : α → Option V)
    (step : ∀ y ∈ L, ∀ x H1, Same H H1 → item y x H1 → ∀ C : Option V → Hp → Prop, (∀ H2, Same H1 H2 → C (F y) H2) → It1 g tt te (wipe σ vs) vs x H1 C)
    (k : ∀ D H1, H D = none → Same H H1 → H1 D = some (.lst (L.filterMap F)) → Q (.ref D) H1) :
    ∀ D, H D = none → ∃ W : Nat → Nat → Hp → Prop, (∃ m, W 0 m (upd H D (.lst []))) ∧ ∀ i m H, W i m H →
  (J.stop i H ∧ Q (.ref D) H) ∨ (J.go i H ∧ ∃ Nx : Hp → Prop, (∀ H', Nx H' → ∃ m', m' < m ∧ W (i + 1) m' H') ∧ ∀ x H', J.yld i H x H' → g x (wipe σ vs) H' fun σ2 H2 => wipe σ2 vs = wipe σ vs ∧ tt σ2 H2 fun b H3 =>
    if b = true then te σ2 H3 fun y H4 => ∃ acc, H4 D = some (.lst acc) ∧ acc.length < sizeLine ∧ Nx (upd H4 D (.lst (acc ++ [y]))) else Nx H3) :=
  lcJ w hz (fun y o _ => o = F y) (fun _ _ _ _ _ z => z) (fun y hy x H1 s1 it C c => step y hy x H1 s1 it C fun H2 s2 => c _ H2 s2 rfl) (fun D H1 os hD s1 hp e => k D H1 hD s1 (by rw [e, pr_pure hp]))
/-- a dict comprehension: every turn nothing, or a new text key with its value -/
theorem dcJ {α : Type} {J : It} {L : List α} {G : Hp → Prop} {item : α → V → Hp → Prop} (w : Wk J L G item H) (hz : L.length ≤ 900) (key : α → Str) (hn : (L.map key).Nodup) (c : α → Bool) (val : Str → V)
    (step : ∀ y ∈ L, ∀ x H1, Same H H1 → item y x H1 → ∀ C : Option (V × V) → Hp → Prop, (∀ H2, Same H1 H2 → c y = true → C (some (.str (key y), val (key y))) H2) → (∀ H2, Same H1 H2 → c y = false → C none H2) → It2 g tt tk tv (wipe σ vs) vs x H1 C)
    (k : ∀ D H1, H D = none → Same H H1 → H1 D = some (dk ((L.filter c).map key) val) → Q (.ref D) H1) :
    ∀ D, H D = none → ∃ W : Nat → Nat → Hp → Prop, (∃ m, W 0 m (upd H D (.dK []))) ∧ ∀ i m H, W i m H →
  (J.stop i H ∧ Q (.ref D) H) ∨ (J.go i H ∧ ∃ Nx : Hp → Prop, (∀ H', Nx H' → ∃ m', m' < m ∧ W (i + 1) m' H') ∧ ∀ x H', J.yld i H x H' → g x (wipe σ vs) H' fun σ2 H2 => wipe σ2 vs = wipe σ vs ∧ tt σ2 H2 fun b H3 =>
    if b = true then tk σ2 H3 fun y H4 => tv σ2 H4 fun z H5 => ∃ kvs k, y = kV k ∧ H5 D = some (.dK kvs) ∧ kvs.length < sizeLine ∧ Nx (upd H5 D (.dK (putK kvs k z))) else Nx H3) := by
  intro D hD
  refine ⟨fun i m H' => m = L.length - i ∧ i ≤ L.length ∧ Same H H' ∧ H' D = some (dk (((L.take i).filter c).map key) val), ⟨_, rfl, Nat.zero_le _, sm_chg (Same.refl H) hD, upd_same⟩, ?_⟩
  rintro i m H' ⟨rfl, hi, s1, d1⟩
  by_cases hlt : i < L.length
  · refine .inr ⟨w.go i H' (w.st _ s1) hlt, fun H' => Same H H' ∧ H' D = some (dk (((L.take (i + 1)).filter c).map key) val), fun H' p' => ⟨L.length - (i + 1), by omega, rfl, hlt, p'⟩, fun x H'' yl => ?_⟩
    have e : L[i]? = some L[i] := List.getElem?_eq_getElem hlt
    obtain ⟨s2, it⟩ := w.yld i _ H' x H'' (w.st _ s1) e yl
    have hlen : (((L.take i).filter c).map key).length ≤ i := by
      rw [List.length_map]
      exact Nat.le_trans (List.length_filter_le _ _) (by rw [List.length_take]; exact Nat.min_le_left _ _)
    have hnew : key L[i] ∉ ((L.take i).filter c).map key := fun hm => by
      obtain ⟨z, hz1, hz2⟩ := List.mem_map.mp hm
      have hz3 := (List.mem_filter.mp hz1).1
      rw [take_dec e, List.map_append, List.map_cons] at hn
      exact (List.nodup_append.mp hn).2.2 _ (List.mem_map.mpr ⟨z, hz3, rfl⟩) _ List.mem_cons_self hz2
    have st := step _ (List.mem_of_getElem? e) x H'' (L2.Same.trans s1 s2) it (fun o H5 => match o with
      | some (y, z) => ∃ kvs k, y = kV k ∧ H5 D = some (.dK kvs) ∧ kvs.length < sizeLine ∧ (fun H' => Same H H' ∧ H' D = some (dk (((L.take (i + 1)).filter c).map key) val)) (upd H5 D (.dK (putK kvs k z)))
      | none => Same H H5 ∧ H5 D = some (dk (((L.take (i + 1)).filter c).map key) val)) (fun H5 s4 q => ?_) (fun H5 s4 q => ?_)
    · exact st
    · have s3 : Same H' H5 := L2.Same.trans s2 s4
      have d5 := s3 _ _ d1
      refine ⟨_, Sum.inr (key L[i]), rfl, d5, by rw [List.length_map]; exact lt_line (by omega), sm_chg (L2.Same.trans s1 s3) hD, ?_⟩
      rw [upd_same, putK_dk]
      show some (dk (ins (((L.take i).filter c).map key) (key L[i])) (fup val (key L[i]) (val (key L[i])))) = some (dk (((L.take (i + 1)).filter c).map key) val)
      rw [ins_new hnew, take_suc e, List.filter_append, List.filter_cons, if_pos q, List.map_append]
      congr 1
      refine dk_congr fun k hk => ?_
      unfold fup
      by_cases z : k = key L[i]
      · rw [if_pos z, z]
      · rw [if_neg z]
    · have s3 : Same H' H5 := L2.Same.trans s2 s4
      refine ⟨L2.Same.trans s1 s3, ?_⟩
      rw [take_suc e, List.filter_append, List.filter_cons, if_neg (by rw [q]; decide), List.filter_nil, List.append_nil]
      exact s3 _ _ d1
  · have e : i = L.length := by omega
    subst e
    rw [List.take_length] at d1
    exact .inl ⟨w.stop _ H' (w.st _ s1) (Nat.le_refl _), k D H' hD s1 d1⟩
/-! ### walks -/
theorem wk_list {α : Type} {a : Addr} {L : List α} {f : α → V} (h : SqL K H a (L.map f)) : Wk (Itl K a) L (fun H' => SqL K H' a (L.map f)) (fun y x _ => x = f y) H where
  go := fun i H' g hi => ⟨_, f L[i], g, by rw [List.getElem?_map, List.getElem?_eq_getElem hi]; rfl⟩
  stop := fun i H' g hi => ⟨_, g, by rw [List.length_map]; exact hi⟩
  yld := fun i y H' x H'' g e yl => by
    obtain ⟨e1, e2⟩ := yl
    subst e1
    have q := e2 _ g
    rw [List.getElem?_map, e] at q
    exact ⟨Same.refl _, (Option.some.inj q).symm⟩
  st := fun H' s => L2.Same.seq s h
theorem wk_keys {d : Addr} {o : Obj} {ks : List Str} {val : Str → V} (h : H d = some (.frz o (dk ks val))) : Wk (Itk d o (ks.map fun k => (Sum.inr k, val k))) ks (fun H' => H' d = some (.frz o (dk ks val))) (fun y x _ => x = V.str y) H where
  go := fun i H' g hi => ⟨g, by rw [List.length_map]; exact hi⟩
  stop := fun i H' g hi => ⟨g, by rw [List.length_map]; exact hi⟩
  yld := fun i y H' x H'' g e yl => by
    obtain ⟨e1, k, v, e2, e3⟩ := yl
    subst e1
    rw [List.getElem?_map, e] at e2
    have q := Option.some.inj e2
    cases q
    exact ⟨Same.refl _, e3⟩
  st := fun H' s => s _ _ h
theorem wk_vals {d : Addr} {o : Obj} {ks : List Str} {val : Str → V} (h : H d = some (.frz o (dk ks val))) : Wk (Itd d o (ks.map fun k => (Sum.inr k, val k))) ks (fun H' => H' d = some (.frz o (dk ks val))) (fun y x _ => x = val y) H where
  go := fun i H' g hi => ⟨g, by rw [List.length_map]; exact hi⟩
  stop := fun i H' g hi => ⟨g, by rw [List.length_map]; exact hi⟩
  yld := fun i y H' x H'' g e yl => by
    obtain ⟨e1, k, e2⟩ := yl
    subst e1
    rw [List.getElem?_map, e] at e2
    have q := Option.some.inj e2
    cases q
    exact ⟨Same.refl _, rfl⟩
  st := fun H' s => s _ _ h
theorem wk_items {d : Addr} {o : Obj} {ks : List Str} {val : Str → V} (h : H d = some (.frz o (dk ks val))) : Wk (Iti d o (ks.map fun k => (Sum.inr k, val k))) ks (fun H' => H' d = some (.frz o (dk ks val)))
    (fun y x H' => ∃ r, x = V.ref r ∧ H' r = some (.tup [.str y, val y])) H where
  go := fun i H' g hi => ⟨g, by rw [List.length_map]; exact hi⟩
  stop := fun i H' g hi => ⟨g, by rw [List.length_map]; exact hi⟩
  yld := fun i y H' x H'' g e yl => by
    obtain ⟨r, k, v, e2, e3, e4, e5⟩ := yl
    rw [List.getElem?_map, e] at e2
    have q := Option.some.inj e2
    cases q
    subst e5
    exact ⟨same_upd e4, r, e3, upd_same⟩
  st := fun H' s => s _ _ h
/-! ### as steps -/
/-- {.. for y in xs} -/
theorem kDc_run {α : Type} {a : Addr} (L : List α) (f : α → V) (h : SqL K H a (L.map f)) (hz : L.length ≤ 900) (key : α → Str) (hn : (L.map key).Nodup) (c : α → Bool) (val : Str → V)
    (step : ∀ y ∈ L, ∀ H1, Same H H1 → ∀ C : Option (V × V) → Hp → Prop, (∀ H2, Same H1 H2 → c y = true → C (some (.str (key y), val (key y))) H2) → (∀ H2, Same H1 H2 → c y = false → C none H2) → It2 g tt tk tv (wipe σ vs) vs (f y) H1 C)
    (k : ∀ D H1, H D = none → Same H H1 → H1 D = some (dk ((L.filter c).map key) val) → Q (.ref D) H1) : kDc K g tt tk tv vs σ (.ref a) H Q :=
  ⟨a, rfl, ⟨_, h⟩, dcJ (wk_list h) hz key hn c val (fun y hy x H1 s1 it C c1 c2 => by subst it; exact step y hy H1 s1 C c1 c2) k⟩
/-- what stands while d is locked -/
def Lk (H : Hp) (d : Addr) (u : HO) (H' : Hp) : Prop := (∀ b o, b ≠ d → H b = some o → H' b = some o) ∧ Rd H' d u
theorem lk_same {d : Addr} {u : HO} {od : Obj} {H' : Hp} (h : H d = some u) (e : Same (upd H d (.frz od u)) H') : Lk H d u H' :=
  ⟨fun b o hb q => e b o (by rw [upd_ne hb]; exact q), .inr ⟨od, e d _ upd_same⟩⟩
theorem unlk {d : Addr} {u : HO} {od : Obj} {H' : Hp} (h : H d = some u) (e : Same (upd H d (.frz od u)) H') : Same H (upd H' d u) := fun b o q => by
  by_cases z : b = d
  · subst z
    rw [upd_same, ← h, q]
  · rw [upd_ne z]
    exact e b o (by rw [upd_ne z]; exact q)
/-- {.. for y in d}, d a dict -/
theorem g_dcKeys {i : Nat} {d : Addr} {ks : List Str} {val0 : Str → V} (hv : σ[i]? = some (some (.ref d))) (h : H d = some (dk ks val0)) (hz : ks.length ≤ 900) (hn : ks.Nodup) (c : Str → Bool) (val : Str → V)
    (step : ∀ y ∈ ks, ∀ H1, Lk H d (dk ks val0) H1 → ∀ C : Option (V × V) → Hp → Prop, (∀ H2, Same H1 H2 → c y = true → C (some (.str y, val y)) H2) → (∀ H2, Same H1 H2 → c y = false → C none H2) → It2 g tt tk tv (wipe σ vs) vs (.str y) H1 C)
    (k : ∀ D H1, H D = none → Same H H1 → H1 D = some (dk (ks.filter c) val) → Q (.ref D) H1) : tLockE (tDc (iKeys (tVar i)) g tt tk tv vs) σ H Q := by
  refine ⟨d, dk ks val0, h, True.intro, fun od => ?_⟩
  refine ⟨_, hv, d, od, rfl, .inl ⟨_, upd_same, ?_⟩⟩
  refine dcJ (Q := fun v H' => H' d = some (.frz od (dk ks val0)) ∧ Q v (upd H' d (dk ks val0))) (wk_keys upd_same) hz id (by rw [List.map_id]; exact hn) c val (fun y hy x H1 s1 it C c1 c2 => by subst it; exact step y hy H1 (lk_same h s1) C c1 c2) (fun D H1 hD s1 e => ?_)
  have hDd : D ≠ d := fun z => by rw [z, upd_same] at hD; cases hD
  rw [upd_ne hDd] at hD
  refine ⟨s1 _ _ upd_same, k D _ hD (unlk h s1) ?_⟩
  rw [upd_ne hDd, e, List.map_id]
/-- [.. for y in d], d a dict, flat values -/
theorem g_lcKeys {i : Nat} {d : Addr} {ks : List Str} {val0 : Str → V} (hv : σ[i]? = some (some (.ref d))) (h : H d = some (dk ks val0)) (hz : ks.length ≤ 900) (F : Str → Option V)
    (step : ∀ y ∈ ks, ∀ H1, Lk H d (dk ks val0) H1 → ∀ C : Option V → Hp → Prop, (∀ H2, Same H1 H2 → C (F y) H2) → It1 g tt te (wipe σ vs) vs (.str y) H1 C)
    (k : ∀ D H1, H D = none → Same H H1 → H1 D = some (.lst (ks.filterMap F)) → Q (.ref D) H1) : tLockE (tLc (iKeys (tVar i)) g tt te vs) σ H Q := by
  refine ⟨d, dk ks val0, h, True.intro, fun od => ?_⟩
  refine ⟨_, hv, d, od, rfl, .inl ⟨_, upd_same, ?_⟩⟩
  refine lcJ_pure (Q := fun v H' => H' d = some (.frz od (dk ks val0)) ∧ Q v (upd H' d (dk ks val0))) (wk_keys upd_same) hz F (fun y hy x H1 s1 it C c1 => by subst it; exact step y hy H1 (lk_same h s1) C c1) (fun D H1 hD s1 e => ?_)
  have hDd : D ≠ d := fun z => by rw [z, upd_same] at hD; cases hD
  rw [upd_ne hDd] at hD
  refine ⟨s1 _ _ upd_same, k D _ hD (unlk h s1) ?_⟩
  rw [upd_ne hDd, e]
/-- the statement y = {.. for ..} with the lock outside -/
theorem g_lockDc {i j : Nat} {nx : L2.St → Hp → Prop} {rt : VK} {bk ct : L2.St → Hp → Prop} (q : tLockE (tDc (iKeys (tVar i)) g tt tk tv vs) σ H fun x H1 => nx (σ.set j (some x)) H1) :
    tLock (tAsg (tDc (iKeys (tVar i)) g tt tk tv vs) (gName j)) ⟨nx, rt, bk, ct⟩ σ H := q
/-- [.. for y in e.values()], the dict locked for good -/
theorem g_lcVals {α : Type} (q : td σ H fun x H1 => ∃ d u, x = .ref d ∧ H1 d = some u ∧ Mut (some u) ∧ ∀ od, ∃ d' o kvs, x = .ref d' ∧ (upd H1 d (.frz od u)) d' = some (.frz o (.dK kvs)) ∧ ∀ D, (upd H1 d (.frz od u)) D = none → ∃ W : Nat → Nat → Hp → Prop, (∃ m, W 0 m (upd (upd H1 d (.frz od u)) D (.lst []))) ∧ ∀ i m H, W i m H →
  ((Itd d' o kvs).stop i H ∧ Q (.ref D) H) ∨ ((Itd d' o kvs).go i H ∧ ∃ Nx : Hp → Prop, (∀ H', Nx H' → ∃ m', m' < m ∧ W (i + 1) m' H') ∧ ∀ x H', (Itd d' o kvs).yld i H x H' → g x (wipe σ vs) H' fun σ2 H2 => wipe σ2 vs = wipe σ vs ∧ tt σ2 H2 fun b H3 =>
    if b = true then te σ2 H3 fun y H4 => ∃ acc, H4 D = some (.lst acc) ∧ acc.length < sizeLine ∧ Nx (upd H4 D (.lst (acc ++ [y]))) else Nx H3)) : tLc (iVals (tFrz td)) g tt te vs σ H Q := by
  have e : tLc (iVals (tFrz td)) g tt te vs σ H Q = (td σ H fun x H1 => ∃ d u, x = .ref d ∧ H1 d = some u ∧ Mut (some u) ∧ ∀ od, ∃ d' o kvs, x = .ref d' ∧ (upd H1 d (.frz od u)) d' = some (.frz o (.dK kvs)) ∧ ∀ D, (upd H1 d (.frz od u)) D = none → ∃ W : Nat → Nat → Hp → Prop, (∃ m, W 0 m (upd (upd H1 d (.frz od u)) D (.lst []))) ∧ ∀ i m H, W i m H →
  ((Itd d' o kvs).stop i H ∧ Q (.ref D) H) ∨ ((Itd d' o kvs).go i H ∧ ∃ Nx : Hp → Prop, (∀ H', Nx H' → ∃ m', m' < m ∧ W (i + 1) m' H') ∧ ∀ x H', (Itd d' o kvs).yld i H x H' → g x (wipe σ vs) H' fun σ2 H2 => wipe σ2 vs = wipe σ vs ∧ tt σ2 H2 fun b H3 =>
    if b = true then te σ2 H3 fun y H4 => ∃ acc, H4 D = some (.lst acc) ∧ acc.length < sizeLine ∧ Nx (upd H4 D (.lst (acc ++ [y]))) else Nx H3)) := rfl
  rw [e]
  exact q
end
end Mh
set_option Elab.async false
set_option linter.all false
set_option maxRecDepth 100000
set_option maxHeartbeats 4000000
/-! D0: the data: streams, lines, arcs, plants. -/
namespace Mh
open PySem PySem.Spec PyProof.Rows L2
structure Stm where
  nm : Str
  tl : Str
  hd : Str
  lo : Int
  hi : Int
def Stm.row (s : Stm) : List V := [.str s.nm, .str s.tl, .str s.hd, .int s.lo, .int s.hi]
structure Ln where
  nm : Str
  tl : Str
  hd : Str
def Ln.row (s : Ln) : List V := [.str s.nm, .str s.tl, .str s.hd]
/-- fr, to, name, sign, room -/
structure Arc where
  fr : Str
  to : Str
  nm : Str
  sg : Int
  rm : Int
def Arc.row (s : Arc) : List V := [.str s.fr, .str s.to, .str s.nm, .int s.sg, .int s.rm]
def prow (p : Str × Str) : List V := [.str p.1, .str p.2]
/-- a step: name, way, there -/
structure Stp where
  nm : Str
  wy : Int
  to : Str
def Stp.row (s : Stp) : List V := [.str s.nm, .int s.wy, .str s.to]
/-- a plant: its knots, its streams -/
structure Pl where
  kn : List Str
  ss : List Stm
def Pl.names (p : Pl) : List Str := p.ss.map (·.nm)
structure Pl.Ok (p : Pl) : Prop where
  kn : p.kn.Nodup
  nm : p.names.Nodup
  tl : ∀ s ∈ p.ss, s.tl ∈ p.kn
  hd : ∀ s ∈ p.ss, s.hd ∈ p.kn
  kl : p.kn.length ≤ 24
  sl : p.ss.length ≤ 30
def pfs (a b : Addr) : List (Str × V) := [("_knots", .ref a), ("_streams", .ref b)]
/-- the plant p stands at a -/
def PlAt (C : Addr) (H : Hp) (a : Addr) (p : Pl) : Prop := p.Ok ∧ ∃ dx ak as, H a = some (.ins C dx (pfs ak as)) ∧ H ak = some (ls p.kn) ∧ Tups Stm.row H as p.ss
theorem PlAt.mono {C : Addr} {H H' : Hp} {a : Addr} {p : Pl} (h : PlAt C H a p) (e : Same H H') : PlAt C H' a p := by
  obtain ⟨ok, dx, ak, as, h1, h2, h3⟩ := h
  exact ⟨ok, dx, ak, as, e _ _ h1, e _ _ h2, h3.mono e⟩
theorem pfs_knots (a b : Addr) : (pfs a b).lookup ("_knots" : Str) = some (.ref a) := by
  unfold pfs
  rw [List.lookup_cons]
  simp
theorem pfs_streams (a b : Addr) : (pfs a b).lookup ("_streams" : Str) = some (.ref b) := by
  have h : (("_streams" : Str) == "_knots") = false := by decide +kernel
  unfold pfs
  rw [List.lookup_cons, h, List.lookup_cons]
  simp
theorem pfs_no (a b : Addr) {m : Str} (h1 : (m == ("_knots" : Str)) = false) (h2 : (m == ("_streams" : Str)) = false) : (pfs a b).lookup m = none := by
  unfold pfs
  rw [List.lookup_cons, h1, List.lookup_cons, h2]
  rfl
/-- what the top says of the three classes -/
structure Cx3 (K : PySem.W.Frag) (C CM CR : Addr) : Prop where
  cl : Cls K C
  nK : NoAttr K C "_knots"
  nS : NoAttr K C "_streams"
  clM : Cls K CM
  mN : NoAttr K CM "number"
  mF : NoAttr K CM "flows"
  mL : NoAttr K CM "least"
  mG : NoAttr K CM "greatest"
  clR : Cls K CR
  rL : NoAttr K CR "low"
  rH : NoAttr K CR "high"
  rLF : NoAttr K CR "low_flows"
  rHF : NoAttr K CR "high_flows"
  rLL : NoAttr K CR "low_lot"
  rHL : NoAttr K CR "high_lot"
end Mh
set_option Elab.async false
set_option linter.all false
set_option maxRecDepth 100000
set_option maxHeartbeats 4000000
/-! W5: more steps. -/
namespace Mh
open PySem PySem.Spec PyProof.Rows L2
section
variable {K : PySem.W.Frag} {σ : L2.St} {H H' : Hp} {Q : VK} {nx : L2.St → Hp → Prop} {rt : VK} {bk ct : L2.St → Hp → Prop} {t u : TS} {ta tb tc te td ty tv : TE} {tt : TT} {g : TG} {v x y z : V} {i j : Nat} {vs : List Nat}
theorem g_iteT {p : Prop} [Decidable p] {A B : Prop} (h : p) (q : A) : if decide p = true then A else B := by rw [if_pos (decide_eq_true h)]; exact q
theorem g_iteF {p : Prop} [Decidable p] {A B : Prop} (h : ¬ p) (q : B) : if decide p = true then A else B := by rw [if_neg (by simpa using h)]; exact q
theorem g_iteNT {p : Prop} [Decidable p] {A B : Prop} (h : ¬ p) (q : A) : if (!decide p) = true then A else B := by rw [if_pos (by simp [h])]; exact q
theorem g_iteNF {p : Prop} [Decidable p] {A B : Prop} (h : p) (q : B) : if (!decide p) = true then A else B := by rw [if_neg (by simp [h])]; exact q
theorem g_nT {A B : Prop} (h : B) : if (!true) = true then A else B := h
theorem g_nF {A B : Prop} (h : A) : if (!false) = true then A else B := h
theorem g_lenZ {s : Str} (hz : s.length ≤ 1000) (q : Q (.int s.length) H) : rLenZ [.str s] H Q := ⟨s, rfl, le_line hz, q⟩
theorem g_yes {R : Bool → Hp → Prop} (q : R true H) : tYes σ H R := q
theorem fm_some {α β : Type} (L : List α) (f : α → β) : (L.filterMap fun y => some (f y)) = L.map f := by
  rw [List.filterMap_eq_map']
theorem g_allB {p : Addr} {α : Type} {L : List α} {b : α → Bool} (h : H p = some (.lst (L.filterMap fun y => some (V.bl (b y))))) (q : Q (.bl (L.all b)) H) : rAll K [.ref p] H Q := by
  refine ⟨p, L.map b, rfl, SqL.of ?_, ?_⟩
  · rw [h, fm_some, List.map_map]; rfl
  · rw [List.all_map]; exact q
theorem g_sumI {p : Addr} {α : Type} {L : List α} {f : α → Int} (h : H p = some (.lst (L.filterMap fun y => some (V.int (f y))))) (q : Q (.int (L.map f).sum) H) : rSum K [.ref p] H Q := by
  refine ⟨p, L.map f, rfl, SqL.of ?_, q⟩
  rw [h, fm_some, List.map_map]; rfl
theorem wk_str {s : Str} : Wk (Its s) s.cps.toList (fun _ => True) (fun c x _ => x = V.str ⟨#[c]⟩) H where
  go := fun i H' _ hi => by
    show i < s.cps.size
    simpa using hi
  stop := fun i H' _ hi => by
    show s.cps.size ≤ i
    simpa using hi
  yld := fun i y H' x H'' _ e yl => by
    obtain ⟨e1, c, e2, e3⟩ := yl
    subst e1
    have q : s.cps[i]? = some y := by rw [← Array.getElem?_toList]; exact e
    rw [e2] at q
    cases q
    exact ⟨Same.refl _, e3⟩
  st := fun _ _ => True.intro
/-- [.. for c in s], flat -/
theorem g_lcStr {s : Str} (hv : σ[i]? = some (some (.str s))) (hz : s.cps.toList.length ≤ 900) (F : Nat → Option V)
    (step : ∀ c ∈ s.cps.toList, ∀ H1, Same H H1 → ∀ C : Option V → Hp → Prop, (∀ H2, Same H1 H2 → C (F c) H2) → It1 g tt te (wipe σ vs) vs (.str ⟨#[c]⟩) H1 C)
    (k : ∀ D H1, H D = none → Same H H1 → H1 D = some (.lst (s.cps.toList.filterMap F)) → Q (.ref D) H1) : tLc (iStr (tVar i)) g tt te vs σ H Q :=
  ⟨_, hv, s, rfl, lcJ_pure wk_str hz F (fun y hy x H1 s1 it C c => by subst it; exact step y hy H1 s1 C c) k⟩
/-- [.. for x in t], t a tuple, flat -/
theorem wk_tup {α : Type} {a : Addr} {L : List α} {f : α → V} (h : SqT K H a (L.map f)) : Wk (Itt K a) L (fun H' => SqT K H' a (L.map f)) (fun y x _ => x = f y) H where
  go := fun i H' g hi => ⟨_, f L[i], g, by rw [List.getElem?_map, List.getElem?_eq_getElem hi]; rfl⟩
  stop := fun i H' g hi => ⟨_, g, by rw [List.length_map]; exact hi⟩
  yld := fun i y H' x H'' g e yl => by
    obtain ⟨e1, e2⟩ := yl
    subst e1
    have q := e2 _ g
    rw [List.getElem?_map, e] at q
    exact ⟨Same.refl _, (Option.some.inj q).symm⟩
  st := fun H' s => by
    rcases h with (h | ⟨o, h⟩) | h
    · exact .inl (.inl (s _ _ h))
    · exact .inl (.inr ⟨o, s _ _ h⟩)
    · exact .inr h
theorem g_lcTup {a : Addr} {α : Type} {L : List α} {f : α → V} (hv : σ[i]? = some (some (.ref a))) (h : H a = some (.tup (L.map f))) (hz : L.length ≤ 900) (F : α → Option V)
    (step : ∀ y ∈ L, ∀ H1, Same H H1 → ∀ C : Option V → Hp → Prop, (∀ H2, Same H1 H2 → C (F y) H2) → It1 g tt te (wipe σ vs) vs (f y) H1 C)
    (k : ∀ D H1, H D = none → Same H H1 → H1 D = some (.lst (L.filterMap F)) → Q (.ref D) H1) : tLc (iTup K (tVar i)) g tt te vs σ H Q :=
  ⟨_, hv, a, rfl, ⟨_, SqT.of h⟩, lcJ_pure (wk_tup (SqT.of h)) hz F (fun y hy x H1 s1 it C c => by subst it; exact step y hy H1 s1 C c) k⟩
theorem g_stm {ts : TGs} {a : Addr} {s : Stm} {R : L2.St → Hp → Prop} (h : H a = some (.tup s.row)) (q : ts [.str s.nm, .str s.tl, .str s.hd, .int s.lo, .int s.hi] σ H R) : gTup K 5 ts (.ref a) σ H R := ⟨a, s.row, rfl, SqT.of h, rfl, q⟩
theorem g_ln {ts : TGs} {a : Addr} {s : Ln} {R : L2.St → Hp → Prop} (h : H a = some (.tup s.row)) (q : ts [.str s.nm, .str s.tl, .str s.hd] σ H R) : gTup K 3 ts (.ref a) σ H R := ⟨a, s.row, rfl, SqT.of h, rfl, q⟩
theorem g_stp {ts : TGs} {a : Addr} {s : Stp} {R : L2.St → Hp → Prop} (h : H a = some (.tup s.row)) (q : ts [.str s.nm, .int s.wy, .str s.to] σ H R) : gTup K 3 ts (.ref a) σ H R := ⟨a, s.row, rfl, SqT.of h, rfl, q⟩
theorem g_prw {ts : TGs} {a : Addr} {s : Str × Str} {R : L2.St → Hp → Prop} (h : H a = some (.tup (prow s))) (q : ts [.str s.1, .str s.2] σ H R) : gTup K 2 ts (.ref a) σ H R := ⟨a, prow s, rfl, SqT.of h, rfl, q⟩
theorem g_two {ts : TGs} {a : Addr} {R : L2.St → Hp → Prop} (h : H a = some (.tup [x, y])) (q : ts [x, y] σ H R) : gTup K 2 ts (.ref a) σ H R := ⟨a, [x, y], rfl, SqT.of h, rfl, q⟩
/-- o.f = e, o a name -/
def kFld (K : PySem.W.Frag) (f : Str) (y x : V) (H : Hp) (R : Hp → Prop) : Prop := ∃ a C dx fs, x = .ref a ∧ H a = some (.ins C dx fs) ∧ Cls K C ∧ NoAttr K C f ∧ fs.length < 1000 ∧ R (upd H a (.ins C dx (putF f y fs)))
theorem g_sfld {f : Str} (q : tv σ H fun y H1 => ta σ H1 fun x H2 => kFld K f y x H2 fun H3 => nx σ H3) : sFld K ta tv f ⟨nx, rt, bk, ct⟩ σ H := q
theorem g_kfld {a C dx : Addr} {fs : List (Str × V)} {f : Str} {R : Hp → Prop} (h : H a = some (.ins C dx fs)) (hc : Cls K C) (hn : NoAttr K C f) (hl : fs.length < 1000) (q : R (upd H a (.ins C dx (putF f y fs)))) : kFld K f y (.ref a) H R :=
  ⟨a, C, dx, fs, rfl, h, hc, hn, hl, q⟩
theorem inj_of_nodup {α β : Type} {f : α → β} : ∀ {l : List α} {x y : α}, (l.map f).Nodup → x ∈ l → y ∈ l → f x = f y → x = y
  | [], _, _, _, hx, _, _ => by cases hx
  | a :: r, x, y, h, hx, hy, e => by
    rw [List.map_cons, List.nodup_cons] at h
    rcases List.mem_cons.mp hx with h1 | h1
    · rcases List.mem_cons.mp hy with h2 | h2
      · rw [h1, h2]
      · exact absurd (List.mem_map.mpr ⟨y, h2, by rw [← e, h1]⟩) h.1
    · rcases List.mem_cons.mp hy with h2 | h2
      · exact absurd (List.mem_map.mpr ⟨x, h1, by rw [e, h2]⟩) h.1
      · exact inj_of_nodup h.2 h1 h2 e
theorem perm_lift {α β : Type} (f : α → β) : ∀ {l1 l2 : List β}, l1.Perm l2 → ∀ {L : List α}, L.map f = l2 → ∃ L' : List α, L'.Perm L ∧ L'.map f = l1 := by
  intro l1 l2 h
  induction h with
  | nil => intro L e; exact ⟨L, List.Perm.refl _, e⟩
  | cons x p ih =>
    intro L e
    cases L with
    | nil => cases e
    | cons a r =>
      rw [List.map_cons] at e
      obtain ⟨e1, e2⟩ := List.cons.inj e
      obtain ⟨L', p', e'⟩ := ih e2
      exact ⟨a :: L', p'.cons a, by rw [List.map_cons, e1, e']⟩
  | swap x y l =>
    intro L e
    match L, e with
    | a :: b :: r, e =>
      rw [List.map_cons, List.map_cons] at e
      obtain ⟨e1, e2⟩ := List.cons.inj e
      obtain ⟨e3, e4⟩ := List.cons.inj e2
      exact ⟨b :: a :: r, List.Perm.swap a b r, by rw [List.map_cons, List.map_cons, e1, e3, e4]⟩
  | trans p q ih1 ih2 =>
    intro L e
    obtain ⟨L1, p1, e1⟩ := ih2 e
    obtain ⟨L2, p2, e2⟩ := ih1 e1
    exact ⟨L2, p2.trans p1, e2⟩
theorem Paired.of_map {α β γ : Type} {F : α → β → Prop} (f : γ → α) (g : γ → β) : ∀ (L : List γ), (∀ x ∈ L, F (f x) (g x)) → Paired F (L.map f) (L.map g)
  | [], _ => .nil
  | x :: r, h => .cons (h x List.mem_cons_self) (Paired.of_map f g r fun y hy => h y (List.mem_cons_of_mem _ hy))
theorem g_sortStm {a : Addr} {α : Type} {L : List α} {row : α → Str × List V} {adr : α → Addr} (h : H a = some (rf (L.map adr))) (ht : ∀ p ∈ L, H (adr p) = some (.tup (.str (row p).1 :: (row p).2))) (hn : ((L.map row).map (·.1)).Nodup) (hl : L.length < 64)
    (q : ∀ (L' : List α) p H1, List.Perm L' L → H p = none → Same H H1 → H1 p = some (rf (L'.map adr)) → Q (.ref p) H1) : rSortStm K [.ref a] H Q :=
  ⟨a, L.map adr, L.map row, rfl, SqL.of h, Paired.of_map adr row L (fun p hp => SqT.of (ht p hp)), hn, by rw [List.length_map]; exact hl, fun rs' p pr hp => by
    obtain ⟨L', pL, eL⟩ := perm_lift adr pr rfl
    subst eL
    exact q L' p _ pL hp (same_upd hp) upd_same⟩
/-- while: W with its measure -/
theorem g_while {c : TT} {tb : TS} (W : Nat → L2.St → Hp → Prop) (m0 : Nat) (h0 : W m0 σ H) (hs : ∀ m σ' H', W m σ' H' → c σ' H' fun b H1 => if b = true then tb ⟨fun σ2 H2 => ∃ m', m' < m ∧ W m' σ2 H2, rt, nx, fun σ2 H2 => ∃ m', m' < m ∧ W m' σ2 H2⟩ σ' H1 else nx σ' H1)
    (mono : ∀ σ H (R R' : Bool → Hp → Prop), (∀ b H1, R b H1 → R' b H1) → c σ H R → c σ H R') : tWhile c tb ⟨nx, rt, bk, ct⟩ σ H := by
  refine ⟨W, ⟨m0, h0⟩, fun m σ' H' w => mono _ _ _ _ (fun b H1 q => ?_) (hs m σ' H' w)⟩
  cases b with
  | true => exact ⟨_, fun _ _ z => z, q⟩
  | false => exact q
def kRev (K : PySem.W.Frag) (x : V) (H : Hp) (Q : VK) : Prop := ∃ a xs, x = .ref a ∧ SqL K H a xs ∧ kNew (.lst xs.reverse) H Q
theorem g_revL (q : te σ H fun x H1 => kRev K x H1 Q) : tRevL K te σ H Q := q
theorem g_rev {α : Type} {row : α → List V} {a : Addr} {xs : List α} (h : Tups row H a xs) (q : ∀ p H1, H p = none → Same H H1 → Tups row H1 p xs.reverse → Q (.ref p) H1) : kRev K (.ref a) H Q := by
  obtain ⟨M, e1, e2, e3⟩ := h
  refine ⟨a, _, rfl, SqL.of e2, g_new fun p H1 hp s e => q p H1 hp s ⟨M.reverse, ?_, ?_, fun x hx => s _ _ (e3 x (List.mem_reverse.mp hx))⟩⟩
  · rw [List.map_reverse, e1]
  · rw [e]
    simp only [rf, List.map_reverse]
theorem g_min {a : Addr} {ns : List Int} (h : H a = some (li ns)) (h0 : 0 < ns.length) (q : ∀ m, m ∈ ns → (∀ y ∈ ns, m ≤ y) → Q (.int m) H) : rMin K [.ref a] H Q := ⟨a, ns, rfl, SqL.of h, h0, q⟩
end
end Mh
set_option Elab.async false
set_option linter.all false
set_option maxRecDepth 100000
set_option maxHeartbeats 4000000
/-! W6: numbers, ranges. -/
namespace Mh
open PySem PySem.Spec PyProof.Rows L2
section
variable {K : PySem.W.Frag} {σ : L2.St} {H : Hp} {Q : VK} {te : TE} {ta : TA} {g : TG} {tb : TS} {i : Nat} {nx : L2.St → Hp → Prop} {rt : VK} {bk ct : L2.St → Hp → Prop}
theorem g_modP {m n : Int} (h : 0 < n) (q : Q (.int (m % n)) H) : rI (fun _ j => 0 < j) (fun i j => .int (i % j)) (.int m) (.int n) H Q := ⟨m, n, rfl, rfl, h, q⟩
theorem g_fdivP {m n : Int} (h1 : 0 < n) (h2 : n < 1073741824) (q : Q (.int (m / n)) H) : rI CDiv (fun i j => .int (i / j)) (.int m) (.int n) H Q := ⟨m, n, rfl, rfl, ⟨h1, h2⟩, q⟩
theorem g_mulL {m n : Int} (h1 : -1000000000 < m) (h2 : m < 1000000000) (q : Q (.int (m * n)) H) : rI CMul (fun i j => .int (i * j)) (.int m) (.int n) H Q := ⟨m, n, rfl, rfl, .inl ⟨by omega, by omega⟩, q⟩
theorem g_mulR {m n : Int} (h1 : -1000000000 < n) (h2 : n < 1000000000) (q : Q (.int (m * n)) H) : rI CMul (fun i j => .int (i * j)) (.int m) (.int n) H Q := ⟨m, n, rfl, rfl, .inr ⟨by omega, by omega⟩, q⟩
def kRng (g : TG) (tb : TS) (D : Ends) (σ : L2.St) (vs : List V) (H1 : Hp) : Prop := ∃ j : Int, vs = [.int j] ∧ -(2 ^ 62) ≤ j ∧ j < 2 ^ 62 ∧ ∃ W : Nat → Nat → L2.St → Hp → Prop, (∃ m, W 0 m σ H1) ∧ ∀ i m σ H, W i m σ H →
  ((Itr 0 j.toNat).stop i H ∧ D.nx σ H) ∨ ((Itr 0 j.toNat).go i H ∧ ∃ N : L2.St → Hp → Prop, (∀ σ' H', N σ' H' → ∃ m', m' < m ∧ W (i + 1) m' σ' H') ∧ ∀ x H', (Itr 0 j.toNat).yld i H x H' → g x σ H' fun σ2 H2 => tb { D with nx := N, ct := N, bk := D.nx } σ2 H2)
theorem g_forR (q : ta σ H fun vs H1 => kRng g tb ⟨nx, rt, bk, ct⟩ σ vs H1) : tFor (iRng1 ta) g tb ⟨nx, rt, bk, ct⟩ σ H := q
theorem kRng_run {n : Int} (h0 : 0 ≤ n) (h1 : n < 1000000) (Pv : Nat → L2.St → Hp → Prop) (p0 : Pv 0 σ H) (hs : ∀ (i : Nat) σ' H', ((i : Nat) : Int) < n → Pv i σ' H' → g (.int ((i : Nat) : Int)) σ' H' fun σ2 H2 => tb ⟨Pv (i + 1), rt, nx, Pv (i + 1)⟩ σ2 H2)
    (hd : ∀ σ' H', Pv n.toNat σ' H' → nx σ' H') : kRng g tb ⟨nx, rt, bk, ct⟩ σ [.int n] H := by
  refine ⟨n, rfl, by omega, by omega, for_range (D := ⟨nx, rt, bk, ct⟩) Pv p0 (fun i σ' H' hi p => ?_) hd⟩
  have := hs i σ' H' (by omega) p
  rw [Int.zero_add]
  exact this
theorem li_snoc (ns : List Int) (x : Int) : HO.lst (ns.map V.int ++ [V.int x]) = li (ns ++ [x]) := by
  unfold li
  rw [List.map_append]
  rfl
end
end Mh
set_option Elab.async false
set_option linter.all false
set_option maxRecDepth 100000
set_option maxHeartbeats 4000000
/-! W7: sorted lists of texts are one; lists of texts that are equal. -/
namespace Mh
open PySem PySem.Spec PyProof.Rows L2
def leS (a b : Str) : Prop := ¬ b.cps.toList < a.cps.toList
theorem leS_trans {a b c : Str} (h1 : leS a b) (h2 : leS b c) : leS a c := List.le_trans (α := Nat) h1 h2
theorem leS_anti {a b : Str} (h1 : leS a b) (h2 : leS b a) : a = b := by
  have h : a.cps.toList = b.cps.toList := List.le_antisymm (α := Nat) h1 h2
  have h3 : a.cps = b.cps := Array.toList_inj.mp h
  cases a; cases b; cases h3; rfl
theorem pw_rising : ∀ (p : Str) (l : List Str), risingS p l = true → (p :: l).Pairwise leS
  | p, [], _ => List.pairwise_singleton _ _
  | p, x :: r, h => by
    have h' : (!ltCps x.cps.toList p.cps.toList && risingS x r) = true := h
    obtain ⟨h1, h2⟩ := Bool.and_eq_true_iff.mp h'
    have ih := pw_rising x r h2
    have hx : leS p x := by
      unfold leS
      rw [ltCps_eq] at h1
      simpa using h1
    refine List.pairwise_cons.mpr ⟨fun c hc => ?_, ih⟩
    rcases List.mem_cons.mp hc with z | z
    · rw [z]; exact hx
    · exact leS_trans hx ((List.pairwise_cons.mp ih).1 c z)
theorem pw_sorted : ∀ (l : List Str), sortedS l = true → l.Pairwise leS
  | [], _ => List.Pairwise.nil
  | x :: r, h => pw_rising x r h
theorem sorted_uniq {ys zs : List Str} (h1 : sortedS ys = true) (h2 : sortedS zs = true) (p : ys.Perm zs) : ys = zs :=
  List.Perm.eq_of_pairwise (le := leS) (fun a b _ _ h h' => leS_anti h h') (pw_sorted ys h1) (pw_sorted zs h2) p
section
variable {K : PySem.W.Frag} {H : Hp} {Q : VK}
theorem dp_strs : ∀ (xs : List Str), DpAll K H (xs.map V.str) (xs.map PyData.str)
  | [] => .nil
  | x :: r => .cons (.str x) (dp_strs r)
theorem shaped_strs {xs : List Str} (h : ∀ x ∈ xs, PyData.strOk x = true) : SeqAt.shaped (.list (xs.map PyData.str)) = true := by
  unfold SeqAt.shaped
  rw [show PyData.canLay0 (.list (xs.map PyData.str)) = PyData.canLayAll0 (xs.map PyData.str) from rfl, canLayAll_strs', List.all_eq_true.mpr h]
  simp only [PyData.depth, depthAll_strs']
  decide
theorem eqv_strs (xs : List Str) : PyData.eqv (.list (xs.map PyData.str)) (.list (xs.map PyData.str)) = true := by
  refine SeqAt.eqv_refl_plain _ ?_
  have : ∀ xs : List Str, PyData.plainAll (xs.map PyData.str) = true := fun xs => by
    induction xs with
    | nil => rfl
    | cons x r ih => exact ih
  exact this xs
theorem g_neLS {a b : Addr} {xs : List Str} (h1 : H a = some (ls xs)) (h2 : H b = some (ls xs)) (h : ∀ x ∈ xs, PyData.strOk x = true) (q : Q (.bl false) H) : rNeD K (.ref a) (.ref b) H Q :=
  ⟨_, _, .lst (SqL.of h1) (dp_strs xs), .lst (SqL.of h2) (dp_strs xs), shaped_strs h, shaped_strs h, by rw [eqv_strs]; exact q⟩
end
theorem mem_ins {ks : List Str} {n m : Str} : m ∈ ins ks n ↔ m ∈ ks ∨ m = n := by
  unfold ins
  by_cases h : n ∈ ks
  · rw [if_pos h]
    exact ⟨.inl, fun z => z.elim id fun e => e ▸ h⟩
  · rw [if_neg h, List.mem_append, List.mem_singleton]
theorem nd_ins {ks : List Str} {n : Str} (h : ks.Nodup) : (ins ks n).Nodup := by
  unfold ins
  by_cases z : n ∈ ks
  · rw [if_pos z]; exact h
  · rw [if_neg z]; exact L2.nd_snoc h z
theorem len_ins (ks : List Str) (n : Str) : (ins ks n).length ≤ ks.length + 1 := by
  unfold ins
  split
  · omega
  · simp
end Mh
set_option Elab.async false
set_option linter.all false
set_option maxRecDepth 100000
set_option maxHeartbeats 4000000
/-! M1: the mathematics of arcs and ways. -/
namespace Mh
open PySem PySem.Spec PyProof.Rows L2
def arcs1 (lo hi f : Str → Int) (l : Ln) : List Arc :=
  (if f l.nm < hi l.nm then [⟨l.tl, l.hd, l.nm, 1, hi l.nm - f l.nm⟩] else []) ++ (if lo l.nm < f l.nm then [⟨l.hd, l.tl, l.nm, -1, f l.nm - lo l.nm⟩] else [])
def arcsOf (L : List Ln) (lo hi f : Str → Int) : List Arc := L.flatMap (arcs1 lo hi f)
theorem arcsOf_snoc (L : List Ln) (l : Ln) (lo hi f : Str → Int) : arcsOf (L ++ [l]) lo hi f = arcsOf L lo hi f ++ arcs1 lo hi f l := by
  unfold arcsOf
  rw [List.flatMap_append]
  simp
theorem arcs1_len (lo hi f : Str → Int) (l : Ln) : (arcs1 lo hi f l).length ≤ 2 := by
  unfold arcs1
  split <;> split <;> simp
theorem arcsOf_len (L : List Ln) (lo hi f : Str → Int) : (arcsOf L lo hi f).length ≤ 2 * L.length := by
  induction L with
  | nil => simp [arcsOf]
  | cons a r ih =>
    have h := arcs1_len lo hi f a
    unfold arcsOf at ih ⊢
    rw [List.flatMap_cons, List.length_append, List.length_cons]
    omega
/-- a chain of arcs from s to e -/
def Ch : Str → List Arc → Str → Prop
  | s, [], e => s = e
  | s, a :: w, e => a.fr = s ∧ Ch a.to w e
theorem Ch.snoc : ∀ {s : Str} {w : List Arc} {e : Str} {a : Arc}, Ch s w e → a.fr = e → Ch s (w ++ [a]) a.to
  | s, [], e, a, h, q => ⟨by rw [q]; exact h.symm, rfl⟩
  | s, b :: w, e, a, ⟨h1, h2⟩, q => ⟨h1, Ch.snoc h2 q⟩
/-- a way from a start to an end, along arcs, never twice at a place -/
def Way (arcs : List Arc) (starts ends : List Str) (w : List Arc) : Prop :=
  ∃ (rk : Str → Nat) (s e : Str), s ∈ starts ∧ e ∈ ends ∧ Ch s w e ∧ ∀ a ∈ w, a ∈ arcs ∧ rk a.fr < rk a.to
/-- no way: a set of places that holds the starts, no end, and that no arc leaves -/
def NoWay (arcs : List Arc) (starts ends : List Str) : Prop := ∃ R : List Str, (∀ s ∈ starts, s ∈ R) ∧ (∀ e ∈ ends, e ∉ R) ∧ ∀ a ∈ arcs, a.fr ∈ R → a.to ∈ R
def pushF (f : Str → Int) (w : List Arc) (m : Int) : Str → Int := w.foldl (fun f a => fup f a.nm (f a.nm + a.sg * m)) f
theorem pushF_snoc (f : Str → Int) (w : List Arc) (a : Arc) (m : Int) : pushF f (w ++ [a]) m = fup (pushF f w m) a.nm (pushF f w m a.nm + a.sg * m) := by
  unfold pushF
  rw [List.foldl_append]
  rfl
end Mh
set_option Elab.async false
set_option linter.all false
set_option maxRecDepth 100000
set_option maxHeartbeats 4000000
/-! M2: the search for a way. -/
namespace Mh
open PySem PySem.Spec PyProof.Rows L2
theorem nodup_len {α : Type} [DecidableEq α] : ∀ {l D : List α}, l.Nodup → (∀ x ∈ l, x ∈ D) → l.length ≤ D.length
  | [], _, _, _ => Nat.zero_le _
  | a :: r, D, h, s => by
    obtain ⟨h1, h2⟩ := List.nodup_cons.mp h
    have ha := s a List.mem_cons_self
    have ih := nodup_len (D := D.erase a) h2 fun x hx => by
      have hne : x ≠ a := fun z => h1 (z ▸ hx)
      exact (List.mem_erase_of_ne hne).mpr (s x (List.mem_cons_of_mem _ hx))
    have := List.length_erase_of_mem ha
    have hp : 0 < D.length := List.length_pos_of_mem ha
    rw [List.length_cons]
    omega
/-- the search: W the places met, in order; bf the arcs by which they were met; the first t of W are done -/
structure Bfs (arcs : List Arc) (starts ends : List Str) (W : List Str) (bf : Str → Option Arc) (t : Nat) : Prop where
  nd : W.Nodup
  st : ∀ s ∈ starts, s ∈ W
  root : ∀ n ∈ W, bf n = none → n ∈ starts
  par : ∀ n ∈ W, ∀ a, bf n = some a → a.to = n ∧ a.fr ∈ W ∧ W.idxOf a.fr < W.idxOf n ∧ a ∈ arcs
  don : ∀ i n, i < t → W[i]? = some n → n ∉ ends ∧ ∀ a ∈ arcs, a.fr = n → a.to ∈ W
  sub : ∀ n ∈ W, n ∈ starts ++ arcs.map (·.to)
  tl : t ≤ W.length
section
variable {arcs : List Arc} {starts ends W : List Str} {bf : Str → Option Arc} {t : Nat}
theorem Bfs.start (h : starts.Nodup) : Bfs arcs starts ends starts (fun _ => none) 0 :=
  ⟨h, fun _ z => z, fun _ z _ => z, (fun _ _ _ z => by cases z), (fun _ _ z => by cases z), (fun n z => List.mem_append_left _ z), Nat.zero_le _⟩
theorem Bfs.len (b : Bfs arcs starts ends W bf t) : W.length ≤ starts.length + arcs.length := by
  have := nodup_len b.nd b.sub
  rw [List.length_append, List.length_map] at this
  exact this
theorem idx_app {W : List Str} {x y : Str} (h : x ∈ W) : (W ++ [y]).idxOf x = W.idxOf x := by
  rw [List.idxOf_append, if_pos h]
theorem idx_new {W : List Str} {y : Str} (h : y ∉ W) : (W ++ [y]).idxOf y = W.length := by
  rw [List.idxOf_append, if_neg h]
  simp
theorem Bfs.add (b : Bfs arcs starts ends W bf t) {a : Arc} (ha : a ∈ arcs) (hf : a.fr ∈ W) (hn : a.to ∉ W) : Bfs arcs starts ends (W ++ [a.to]) (fup bf a.to (some a)) t := by
  have ne : ∀ n ∈ W, n ≠ a.to := fun n hm z => hn (z ▸ hm)
  refine ⟨?_, fun s hs => List.mem_append_left _ (b.st s hs), fun n hm e => ?_, fun n hm x e => ?_, fun i n hi e => ?_, fun n hm => ?_, by rw [List.length_append]; exact Nat.le_trans b.tl (Nat.le_add_right _ _)⟩
  · exact L2.nd_snoc b.nd hn
  · unfold fup at e
    rcases List.mem_append.mp hm with z | z
    · rw [if_neg (ne n z)] at e
      exact b.root n z e
    · rw [if_pos (List.mem_singleton.mp z)] at e
      cases e
  · unfold fup at e
    rcases List.mem_append.mp hm with z | z
    · rw [if_neg (ne n z)] at e
      obtain ⟨h1, h2, h3, h4⟩ := b.par n z x e
      refine ⟨h1, List.mem_append_left _ h2, ?_, h4⟩
      rw [idx_app h2, idx_app z]
      exact h3
    · have z := List.mem_singleton.mp z
      rw [if_pos z] at e
      cases e
      subst z
      refine ⟨rfl, List.mem_append_left _ hf, ?_, ha⟩
      rw [idx_app hf, idx_new hn]
      exact List.idxOf_lt_length_of_mem hf
  · by_cases hl : i < W.length
    · rw [List.getElem?_append_left hl] at e
      obtain ⟨h1, h2⟩ := b.don i n hi e
      exact ⟨h1, fun x hx hxf => List.mem_append_left _ (h2 x hx hxf)⟩
    · exact absurd (Nat.lt_of_lt_of_le hi b.tl) hl
  · rcases List.mem_append.mp hm with z | z
    · exact b.sub n z
    · rw [List.mem_singleton.mp z]
      exact List.mem_append_right _ (List.mem_map.mpr ⟨a, ha, rfl⟩)
theorem Bfs.next (b : Bfs arcs starts ends W bf t) {n : Str} (hn : W[t]? = some n) (he : n ∉ ends) (hd : ∀ a ∈ arcs, a.fr = n → a.to ∈ W) : Bfs arcs starts ends W bf (t + 1) := by
  refine ⟨b.nd, b.st, b.root, b.par, fun i m hi e => ?_, b.sub, (List.getElem?_eq_some_iff.mp hn).1⟩
  by_cases h : i < t
  · exact b.don i m h e
  · have e0 : i = t := by omega
    rw [e0, hn] at e
    cases e
    exact ⟨he, hd⟩
theorem Bfs.none (b : Bfs arcs starts ends W bf t) (h : W.length ≤ t) : NoWay arcs starts ends := by
  have q : ∀ n ∈ W, n ∉ ends ∧ ∀ a ∈ arcs, a.fr = n → a.to ∈ W := fun n hn => by
    obtain ⟨i, hi, e⟩ := List.mem_iff_getElem.mp hn
    exact b.don i n (by omega) (by rw [List.getElem?_eq_getElem hi, e])
  exact ⟨W, b.st, fun e he hW => (q e hW).1 he, fun a ha hf => (q a.fr hf).2 a ha rfl⟩
theorem Bfs.way (b : Bfs arcs starts ends W bf t) {s n : Str} {w : List Arc} (hn : n ∈ ends) (hs : s ∈ W) (hb : bf s = Option.none) (hc : Ch s w n) (hw : ∀ a ∈ w, ∃ m ∈ W, bf m = some a) : Way arcs starts ends w :=
  ⟨W.idxOf, s, n, b.root s hs hb, hn, hc, fun a ha => by
    obtain ⟨m, hm, e⟩ := hw a ha
    obtain ⟨h1, h2, h3, h4⟩ := b.par m hm a e
    exact ⟨h4, by rw [h1]; exact h3⟩⟩
end
end Mh
set_option Elab.async false
set_option linter.all false
set_option maxRecDepth 100000
set_option maxHeartbeats 4000000
namespace Mh
open PySem PySem.Spec PyProof.Rows L2
open C8 (Cal Mak Met pe_c pe_mk pe_mt pe_mt0 pe_gc)
local macro_rules
  | `(tactic| walk_at "hp") => `(tactic| first | assumption | (exact upd_same) | (refine (by assumption : Same _ _) _ _ ?_; first | assumption | (refine (by assumption : Same _ _) _ _ ?_; first | assumption | (refine (by assumption : Same _ _) _ _ ?_; assumption))))
local macro_rules
  | `(tactic| walk_at "go") => `(tactic| repeat (first
    | with_reducible refine g_seq ?_
    | with_reducible refine g_asg ?_
    | with_reducible refine g_name ?_
    | with_reducible refine g_ret ?_
    | with_reducible refine g_retN ?_
    | with_reducible refine g_next ?_
    | with_reducible refine g_break ?_
    | with_reducible refine g_drop ?_
    | with_reducible refine g_if ?_
    | ((with_reducible show tVar _ _ _ _); refine g_var rfl ?_)
    | with_reducible refine g_c ?_
    | with_reducible refine g_op ?_
    | with_reducible refine g_un ?_
    | with_reducible refine g_test ?_
    | with_reducible refine g_tB ?_
    | with_reducible refine g_exb ?_
    | with_reducible refine g_exbi ?_
    | with_reducible refine g_and ?_
    | with_reducible refine g_or ?_
    | with_reducible refine g_not ?_
    | with_reducible refine g_tIf ?_
    | with_reducible refine g_andV ?_
    | with_reducible refine g_chain ?_
    | with_reducible refine g_chain3 ?_
    | with_reducible refine g_rI0 ?_
    | with_reducible refine g_rU ?_
    | with_reducible refine g_eqI ?_
    | with_reducible refine g_neI ?_
    | with_reducible refine g_eqS ?_
    | with_reducible refine g_neS ?_
    | with_reducible refine g_isNoR ?_
    | with_reducible refine g_isNoN ?_
    | with_reducible refine g_isNoS ?_
    | with_reducible refine g_notNoR ?_
    | with_reducible refine g_notNoS ?_
    | with_reducible refine g_notNoN ?_
    | with_reducible refine g_nil ?_
    | with_reducible refine g_cons ?_
    | with_reducible refine g_cb ?_
    | with_reducible refine g_call ?_
    | with_reducible refine g_tup ?_
    | with_reducible refine g_lst ?_
    | with_reducible refine g_dget ?_
    | with_reducible refine g_din ?_
    | with_reducible refine g_dnin ?_
    | with_reducible refine g_dput ?_
    | with_reducible refine g_daug ?_
    | with_reducible refine g_rAdd ?_
    | with_reducible refine g_rSub ?_
    | with_reducible refine g_tcons ?_
    | with_reducible refine g_tnil ?_
    | with_reducible refine g_forL ?_
    | with_reducible refine g_lc ?_
    | with_reducible refine g_dc ?_
    | with_reducible refine g_yes ?_
    | with_reducible refine g_ipI ?_
    | ((with_reducible show tAug _ _ _ _ _ _); refine g_aug rfl ?_)
    | with_reducible refine g_revL ?_
    | with_reducible refine g_sfld ?_
    | with_reducible refine g_abs ?_
    | with_reducible refine g_maxI ?_
    | with_reducible refine g_minI ?_
    | with_reducible refine g_int1 ?_
    | ((with_reducible refine g_modP ?_ ?_); (focus decide))
    | ((with_reducible refine g_fdivP ?_ ?_ ?_); (focus decide); (focus decide))
    | ((with_reducible refine g_mulL ?_ ?_ ?_); (focus decide); (focus decide))
    | ((with_reducible refine g_mulR ?_ ?_ ?_); (focus decide); (focus decide))
    | with_reducible refine g_forR ?_
    | with_reducible refine g_slice ?_
    | with_reducible refine g_nopart ?_
    | with_reducible refine g_part ?_
    | with_reducible refine g_partI ?_
    | with_reducible refine g_intB ?_
    | with_reducible refine g_nT ?_
    | with_reducible refine g_nF ?_
    | with_reducible refine g_T ?_
    | with_reducible refine g_F ?_))
local macro_rules
  | `(tactic| walk_at "len") => `(tactic| (intro vs H Q E h; first | (obtain ⟨e, _⟩ := h; rw [e]; rfl) | (obtain ⟨_, e, _⟩ := h; rw [e]; rfl) | (obtain ⟨_, _, e, _⟩ := h; rw [e]; rfl) | (obtain ⟨_, _, _, e, _⟩ := h; rw [e]; rfl) | (obtain ⟨_, _, _, _, e, _⟩ := h; rw [e]; rfl) | (obtain ⟨_, _, _, _, _, e, _⟩ := h; rw [e]; rfl) | (obtain ⟨_, _, _, _, _, _, e, _⟩ := h; rw [e]; rfl) | (obtain ⟨_, _, _, _, _, _, _, e, _⟩ := h; rw [e]; rfl) | (obtain ⟨_, _, _, _, _, _, _, _, e, _⟩ := h; rw [e]; rfl) | (obtain ⟨_, _, _, _, _, _, _, _, _, e, _⟩ := h; rw [e]; rfl) | (obtain ⟨_, _, _, _, _, _, _, _, _, _, e, _⟩ := h; rw [e]; rfl) | (obtain ⟨_, _, _, _, _, _, _, _, _, _, _, e, _⟩ := h; rw [e]; rfl) | (obtain ⟨_, _, _, _, _, _, _, _, _, _, _, _, e, _⟩ := h; rw [e]; rfl) | (obtain ⟨_, _, _, _, _, _, _, _, _, _, _, _, _, e, _⟩ := h; rw [e]; rfl) | (obtain ⟨_, _, _, _, _, _, _, _, _, _, _, _, _, _, e, _⟩ := h; rw [e]; rfl) | (obtain ⟨_, _, _, _, _, _, _, _, _, _, _, _, _, _, _, e, _⟩ := h; rw [e]; rfl)))
local macro_rules
  | `(tactic| walk_at "nf") => `(tactic| try simp only [L2.start, List.map_cons, List.map_nil, List.length_cons, List.length_nil, List.drop_succ_cons, List.drop_zero, List.replicate_succ, List.replicate_zero, List.cons_append, List.nil_append, List.set_cons_succ, List.set_cons_zero, Nat.reduceAdd, Nat.reduceSub])
structure Ad where
  C : Addr
  CM : Addr
  CR : Addr
/-! ### is_name, are_names, is_stream -/
def nameOk (t : Str) : Prop := 1 ≤ t.length ∧ t.length ≤ 12 ∧ ∀ c ∈ t.cps.toList, c ∈ letters.cps.toList
abbrev s_is_name : Stmt := top 11
abbrev N_is_name : List Str := ["text", "sign"]
theorem sc_is_name : FnScope N_is_name ["text"] (defScope s_is_name) := ⟨rfl, rfl, rfl, by decide +kernel, rfl, by decide +kernel, by decide +kernel⟩
def sp_is_name (K : PySem.W.Frag) (z : Ad) : Sp := fun vs H Q _ => ∃ t : Str, vs = [.str t] ∧ nameOk t ∧ ∀ H', Same H H' → Q (.bl true) H'
theorem ok_is_name {P : Program} {w : World} {K : PySem.W.Frag} {mg : Str → Option Value} {base : Heap} {z : Ad} (T : Bi mg) (Z : Cx3 K z.C z.CM z.CR) (D : Df K mg "is_name" s_is_name ["text"])  : Cal P w K mg base 1 "is_name" (sp_is_name K z) [] := by
  have nd := sc_is_name.nd
  refine cal_mk D sc_is_name (by walk_at "len") (fun cdv A outer s H vs Q E f hr h => ⟨_, (pss_one (ps_ret (pe_and (pe_chain op_le op_le pe_int (pe_callB cr_lenZ (by rfl) T.b_len (by decide +kernel) (pa_cons (pv 0) pa_nil)) pe_int) (pe_one (pe_callB (cr_allK (K := K) rfl rfl) (by rfl) T.b_all (by decide +kernel) (pa_cons (pe_lc (own := [("sign", 1)]) rfl nd (pi_str (pv 0)) (blkOk_by (own := [("sign", 1)]) (N := N_is_name) (sc := defScope s_is_name) (by decide +kernel)) (fun _ _ _ _ _ => (pg_name (i := 1) nd rfl (.inl rfl))) (fun _ _ _ _ _ => pts_nil) (fun _ _ _ _ _ => (pe_cmpR op_sign (pv 1) (pe_gc (by rfl) T.g_LETTERS) rfl))) pa_nil)))))), ?_⟩)
  obtain ⟨t, rfl, ⟨n1, n2, n3⟩, k⟩ := h
  walk_at "go"
  refine g_lenZ (by omega) ?_
  walk_at "go"
  refine g_iteT (by omega) ?_
  walk_at "go"
  refine g_iteT (by omega) ?_
  walk_at "go"
  refine g_lcStr rfl (by rw [Array.length_toList]; exact (by omega : t.length ≤ 900)) (fun _ => some (.bl true)) (fun c hc H1 s1 C q => ?_) (fun p H1 hp s1 e => ?_)
  · refine g_name ⟨rfl, ?_⟩
    walk_at "go"
    refine ⟨c, letters, rfl, rfl, ?_⟩
    rw [decide_eq_true (n3 c hc)]
    exact q H1 (Same.refl _)
  · walk_at "go"
    refine g_allB e ?_
    rw [show (t.cps.toList.all fun _ => true) = true from List.all_eq_true.mpr fun _ _ => rfl]
    exact k H1 s1
abbrev s_are_names : Stmt := top 12
abbrev N_are_names : List Str := ["texts", "text"]
theorem sc_are_names : FnScope N_are_names ["texts"] (defScope s_are_names) := ⟨rfl, rfl, rfl, by decide +kernel, rfl, by decide +kernel, by decide +kernel⟩
def sp_are_names (K : PySem.W.Frag) (z : Ad) : Sp := fun vs H Q _ => ∃ (a : Addr) (ts : List Str), vs = [.ref a] ∧ H a = some (ls ts) ∧ (∀ t ∈ ts, nameOk t) ∧ ts.Nodup ∧ ts.length ≤ 60 ∧ ∀ H', Same H H' → Q (.bl true) H'
theorem ok_are_names {P : Program} {w : World} {K : PySem.W.Frag} {mg : Str → Option Value} {base : Heap} {z : Ad} (T : Bi mg) (Z : Cx3 K z.C z.CM z.CR) (D : Df K mg "are_names" s_are_names ["texts"]) (c_is_name : Cal P w K mg base 1 "is_name" (sp_is_name K z) []) : Cal P w K mg base 2 "are_names" (sp_are_names K z) [] := by
  have nd := sc_are_names.nd
  refine cal_mk D sc_are_names (by walk_at "len") (fun cdv A outer s H vs Q E f hr h => ⟨_, (pss_one (ps_ret (pe_and (pe_callB (cr_allK (K := K) rfl rfl) (by rfl) T.b_all (by decide +kernel) (pa_cons (pe_lc (own := [("text", 1)]) rfl nd (pi_list (pv 0)) (blkOk_by (own := [("text", 1)]) (N := N_are_names) (sc := defScope s_are_names) (by decide +kernel)) (fun _ _ _ _ _ => (pg_name (i := 1) nd rfl (.inl rfl))) (fun _ _ _ _ _ => pts_nil) (fun _ _ _ _ _ => (pe_c c_is_name hr (by decide) (by rfl) (pa_cons (pv 1) pa_nil)))) pa_nil)) (pe_one (pe_cmpR op_eq (pe_callB cr_lenSet (by rfl) T.b_len (by decide +kernel) (pa_cons (pe_callTy (cr_setOf rfl) (by rfl) T.b_set (by decide +kernel) (pa_cons (pv 0) pa_nil)) pa_nil)) (pe_callB (cr_lenQ (K := K) rfl) (by rfl) T.b_len (by decide +kernel) (pa_cons (pv 0) pa_nil)) (nomark _)))))), ?_⟩)
  obtain ⟨a, ts, rfl, ha, hn, hd, hl, k⟩ := h
  walk_at "go"
  refine kLc_pure (α := Str) ts V.str (fun _ => some (.bl true)) (SqL.of ha) (by omega) (fun t ht H1 s1 C q => ?_) (fun p H1 hp s1 e => ?_)
  · refine g_name ⟨rfl, ?_⟩
    walk_at "go"
    exact ⟨t, rfl, hn t ht, fun H2 s2 => q H2 s2⟩
  · walk_at "go"
    refine g_allB e ?_
    rw [show (ts.all fun _ => true) = true from List.all_eq_true.mpr fun _ _ => rfl]
    walk_at "go"
    refine g_setOf (s1 _ _ ha) (by omega) fun b l H2 lnd lm hb s2 eb => ?_
    have hlen : l.length = ts.length := (List.perm_ext_iff_of_nodup lnd hd).mpr lm |>.length_eq
    walk_at "go"
    refine g_lenSet eb ?_
    walk_at "go"
    have s12 := L2.Same.trans s1 s2
    refine g_lenL (xs := ts.map V.str) (s12 _ _ ha) ?_
    walk_at "go"
    rw [List.length_map, hlen, decide_eq_true rfl]
    exact k _ s12
abbrev s_is_stream : Stmt := top 13
abbrev N_is_stream : List Str := ["stream", "knots", "_", "tail", "head", "low", "high"]
theorem sc_is_stream : FnScope N_is_stream ["stream", "knots"] (defScope s_is_stream) := ⟨rfl, rfl, rfl, by decide +kernel, rfl, by decide +kernel, by decide +kernel⟩
def stmOk (kn : List Str) (s : Stm) : Prop := s.tl ∈ kn ∧ s.hd ∈ kn ∧ 0 ≤ s.lo ∧ s.lo ≤ s.hi ∧ s.hi ≤ 1000000
def sp_is_stream (K : PySem.W.Frag) (z : Ad) : Sp := fun vs H Q _ => ∃ (r a : Addr) (s : Stm) (kn : List Str), vs = [.ref r, .ref a] ∧ H r = some (.tup s.row) ∧ H a = some (ls kn) ∧ stmOk kn s ∧ Q (.bl true) H
theorem ok_is_stream {P : Program} {w : World} {K : PySem.W.Frag} {mg : Str → Option Value} {base : Heap} {z : Ad} (T : Bi mg) (Z : Cx3 K z.C z.CM z.CR) (D : Df K mg "is_stream" s_is_stream ["stream", "knots"])  : Cal P w K mg base 1 "is_stream" (sp_is_stream K z) [] := by
  have nd := sc_is_stream.nd
  refine cal_mk D sc_is_stream (by walk_at "len") (fun cdv A outer s H vs Q E f hr h => ⟨_, (pss_cons (ps_if (pt_cmpR op_ne (pe_callB (cr_lenQ (K := K) rfl) (by rfl) T.b_len (by decide +kernel) (pa_cons (pv 0) pa_nil)) pe_int (nomark _))
    (pss_one (ps_ret pe_bl)) pss_nil)
    (pss_cons (ps_asg (pv 0) (pg_tupK (K := K) (n := 5) rfl rfl (pgs_cons (pg_name (i := 2) nd rfl (.inl rfl)) (pgs_cons (pg_name (i := 3) nd rfl (.inl rfl)) (pgs_cons (pg_name (i := 4) nd rfl (.inl rfl)) (pgs_cons (pg_name (i := 5) nd rfl (.inl rfl)) (pgs_cons (pg_name (i := 6) nd rfl (.inl rfl)) pgs_nil)))))))
    (pss_one (ps_ret (pe_and (pe_cmpR (op_inK (K := K) rfl) (pv 3) (pv 1) rfl) (pe_and (pe_cmpR (op_inK (K := K) rfl) (pv 4) (pv 1) rfl) (pe_one (pe_chain3 op_le op_le op_le pe_int (pv 5) (pv 6) (pe_gc (by rfl) T.g_MOST_FLOW))))))))), ?_⟩)
  obtain ⟨r, a, s, kn, rfl, hr', ha, ⟨h1, h2, h3, h4, h5⟩, k⟩ := h
  walk_at "go"
  refine g_lenT hr' ?_
  walk_at "go"
  refine g_iteNF rfl ?_
  walk_at "go"
  refine g_stm hr' ?_
  walk_at "go"
  refine g_inS ha ?_
  walk_at "go"
  refine g_iteT h1 ?_
  walk_at "go"
  refine g_inS ha ?_
  walk_at "go"
  refine g_iteT h2 ?_
  walk_at "go"
  refine g_iteT h3 ?_
  walk_at "go"
  refine g_iteT h4 ?_
  walk_at "go"
  rw [decide_eq_true h5]
  exact k

end Mh
set_option Elab.async false
set_option linter.all false
set_option maxRecDepth 100000
set_option maxHeartbeats 4000000
namespace Mh
open PySem PySem.Spec PyProof.Rows L2
open C8 (Cal Mak Met pe_c pe_mk pe_mt pe_mt0 pe_gc)
local macro_rules
  | `(tactic| walk_at "hp") => `(tactic| first | assumption | (exact upd_same) | (refine (by assumption : Same _ _) _ _ ?_; first | assumption | (refine (by assumption : Same _ _) _ _ ?_; first | assumption | (refine (by assumption : Same _ _) _ _ ?_; assumption))))
local macro_rules
  | `(tactic| walk_at "go") => `(tactic| repeat (first
    | with_reducible refine g_seq ?_
    | with_reducible refine g_asg ?_
    | with_reducible refine g_name ?_
    | with_reducible refine g_ret ?_
    | with_reducible refine g_retN ?_
    | with_reducible refine g_next ?_
    | with_reducible refine g_break ?_
    | with_reducible refine g_drop ?_
    | with_reducible refine g_if ?_
    | ((with_reducible show tVar _ _ _ _); refine g_var rfl ?_)
    | with_reducible refine g_c ?_
    | with_reducible refine g_op ?_
    | with_reducible refine g_un ?_
    | with_reducible refine g_test ?_
    | with_reducible refine g_tB ?_
    | with_reducible refine g_exb ?_
    | with_reducible refine g_exbi ?_
    | with_reducible refine g_and ?_
    | with_reducible refine g_or ?_
    | with_reducible refine g_not ?_
    | with_reducible refine g_tIf ?_
    | with_reducible refine g_andV ?_
    | with_reducible refine g_chain ?_
    | with_reducible refine g_chain3 ?_
    | with_reducible refine g_rI0 ?_
    | with_reducible refine g_rU ?_
    | with_reducible refine g_eqI ?_
    | with_reducible refine g_neI ?_
    | with_reducible refine g_eqS ?_
    | with_reducible refine g_neS ?_
    | with_reducible refine g_isNoR ?_
    | with_reducible refine g_isNoN ?_
    | with_reducible refine g_isNoS ?_
    | with_reducible refine g_notNoR ?_
    | with_reducible refine g_notNoS ?_
    | with_reducible refine g_notNoN ?_
    | with_reducible refine g_nil ?_
    | with_reducible refine g_cons ?_
    | with_reducible refine g_cb ?_
    | with_reducible refine g_call ?_
    | with_reducible refine g_tup ?_
    | with_reducible refine g_lst ?_
    | with_reducible refine g_dget ?_
    | with_reducible refine g_din ?_
    | with_reducible refine g_dnin ?_
    | with_reducible refine g_dput ?_
    | with_reducible refine g_daug ?_
    | with_reducible refine g_rAdd ?_
    | with_reducible refine g_rSub ?_
    | with_reducible refine g_tcons ?_
    | with_reducible refine g_tnil ?_
    | with_reducible refine g_forL ?_
    | with_reducible refine g_lc ?_
    | with_reducible refine g_dc ?_
    | with_reducible refine g_yes ?_
    | with_reducible refine g_ipI ?_
    | ((with_reducible show tAug _ _ _ _ _ _); refine g_aug rfl ?_)
    | with_reducible refine g_revL ?_
    | with_reducible refine g_sfld ?_
    | with_reducible refine g_abs ?_
    | with_reducible refine g_maxI ?_
    | with_reducible refine g_minI ?_
    | with_reducible refine g_int1 ?_
    | ((with_reducible refine g_modP ?_ ?_); (focus decide))
    | ((with_reducible refine g_fdivP ?_ ?_ ?_); (focus decide); (focus decide))
    | ((with_reducible refine g_mulL ?_ ?_ ?_); (focus decide); (focus decide))
    | ((with_reducible refine g_mulR ?_ ?_ ?_); (focus decide); (focus decide))
    | with_reducible refine g_forR ?_
    | with_reducible refine g_slice ?_
    | with_reducible refine g_nopart ?_
    | with_reducible refine g_part ?_
    | with_reducible refine g_partI ?_
    | with_reducible refine g_intB ?_
    | with_reducible refine g_nT ?_
    | with_reducible refine g_nF ?_
    | with_reducible refine g_T ?_
    | with_reducible refine g_F ?_))
local macro_rules
  | `(tactic| walk_at "len") => `(tactic| (intro vs H Q E h; first | (obtain ⟨e, _⟩ := h; rw [e]; rfl) | (obtain ⟨_, e, _⟩ := h; rw [e]; rfl) | (obtain ⟨_, _, e, _⟩ := h; rw [e]; rfl) | (obtain ⟨_, _, _, e, _⟩ := h; rw [e]; rfl) | (obtain ⟨_, _, _, _, e, _⟩ := h; rw [e]; rfl) | (obtain ⟨_, _, _, _, _, e, _⟩ := h; rw [e]; rfl) | (obtain ⟨_, _, _, _, _, _, e, _⟩ := h; rw [e]; rfl) | (obtain ⟨_, _, _, _, _, _, _, e, _⟩ := h; rw [e]; rfl) | (obtain ⟨_, _, _, _, _, _, _, _, e, _⟩ := h; rw [e]; rfl) | (obtain ⟨_, _, _, _, _, _, _, _, _, e, _⟩ := h; rw [e]; rfl) | (obtain ⟨_, _, _, _, _, _, _, _, _, _, e, _⟩ := h; rw [e]; rfl) | (obtain ⟨_, _, _, _, _, _, _, _, _, _, _, e, _⟩ := h; rw [e]; rfl) | (obtain ⟨_, _, _, _, _, _, _, _, _, _, _, _, e, _⟩ := h; rw [e]; rfl) | (obtain ⟨_, _, _, _, _, _, _, _, _, _, _, _, _, e, _⟩ := h; rw [e]; rfl) | (obtain ⟨_, _, _, _, _, _, _, _, _, _, _, _, _, _, e, _⟩ := h; rw [e]; rfl) | (obtain ⟨_, _, _, _, _, _, _, _, _, _, _, _, _, _, _, e, _⟩ := h; rw [e]; rfl)))
local macro_rules
  | `(tactic| walk_at "nf") => `(tactic| try simp only [L2.start, List.map_cons, List.map_nil, List.length_cons, List.length_nil, List.drop_succ_cons, List.drop_zero, List.replicate_succ, List.replicate_zero, List.cons_append, List.nil_append, List.set_cons_succ, List.set_cons_zero, Nat.reduceAdd, Nat.reduceSub])
abbrev s_Plant___init__ : Stmt := inClass (top 14) 0
abbrev N_Plant___init__ : List Str := ["self", "knots", "streams", "stream"]
theorem sc_Plant___init__ : FnScope N_Plant___init__ ["self", "knots", "streams"] (defScope s_Plant___init__) := ⟨rfl, rfl, rfl, by decide +kernel, rfl, by decide +kernel, by decide +kernel⟩
def sp_Plant___init__ (K : PySem.W.Frag) (z : Ad) : Sp := fun vs H Q _ => ∃ (x dx a b : Addr) (kn : List Str) (ss : List Stm), vs = [.ref x, .ref a, .ref b] ∧ H x = some (.ins z.C dx []) ∧ H a = some (ls kn) ∧ Tups Stm.row H b ss ∧
  (∀ t ∈ kn, nameOk t) ∧ kn.Nodup ∧ 1 ≤ kn.length ∧ kn.length ≤ 24 ∧ ss.length ≤ 30 ∧ (∀ s ∈ ss, stmOk kn s) ∧ (∀ s ∈ ss, nameOk s.nm) ∧ (ss.map (·.nm)).Nodup ∧
  ∀ H' kn' ss', (∀ b o, b ≠ x → H b = some o → H' b = some o) → List.Perm kn' kn → List.Perm ss' ss → PlAt z.C H' x ⟨kn', ss'⟩ → Q .non H'
theorem ok_Plant___init__ {P : Program} {w : World} {K : PySem.W.Frag} {mg : Str → Option Value} {base : Heap} {z : Ad} (T : Bi mg) (Z : Cx3 K z.C z.CM z.CR) (D : Dk K mg "Plant" "Plant.__init__" z.C s_Plant___init__ ["self", "knots", "streams"]) (c_are_names : Cal P w K mg base 2 "are_names" (sp_are_names K z) []) (c_is_stream : Cal P w K mg base 1 "is_stream" (sp_is_stream K z) []) : Mak P w K mg base 3 "Plant" z.C (sp_Plant___init__ K z) [] := by
  have nd := sc_Plant___init__.nd
  refine mak_mk D sc_Plant___init__ (by walk_at "len") (fun cdv A outer s H vs Q E f hr h => ⟨_, (pss_cons (ps_if (PW.pt (pw_or (pt_not (pt_chain op_le op_le pe_int (pe_callB (cr_lenQ (K := K) rfl) (by rfl) T.b_len (by decide +kernel) (pa_cons (pv 1) pa_nil)) (pe_gc (by rfl) T.g_MOST_KNOTS))) (pw_or1 (pt_not (pt_val (pe_c c_are_names hr (by decide) (by rfl) (pa_cons (pv 1) pa_nil)))))))
    (pss_one ps_never) pss_nil)
    (pss_cons (ps_if (PW.pt (pw_or (pt_cmpR op_gt (pe_callB (cr_lenQ (K := K) rfl) (by rfl) T.b_len (by decide +kernel) (pa_cons (pv 2) pa_nil)) (pe_gc (by rfl) T.g_MOST_STREAMS) (nomark _)) (pw_or1 (pt_not (pt_val (pe_callB (cr_allK (K := K) rfl rfl) (by rfl) T.b_all (by decide +kernel) (pa_cons (pe_lc (own := [("stream", 3)]) rfl nd (pi_list (pv 2)) (blkOk_by (own := [("stream", 3)]) (N := N_Plant___init__) (sc := defScope s_Plant___init__) (by decide +kernel)) (fun _ _ _ _ _ => (pg_name (i := 3) nd rfl (.inl rfl))) (fun _ _ _ _ _ => pts_nil) (fun _ _ _ _ _ => (pe_c c_is_stream hr (by decide) (by rfl) (pa_cons (pv 3) (pa_cons (pv 1) pa_nil))))) pa_nil)))))))
    (pss_one ps_never) pss_nil)
    (pss_cons (ps_if (pt_not (pt_val (pe_c c_are_names hr (by decide) (by rfl) (pa_cons (pe_lc (own := [("stream", 3)]) rfl nd (pi_list (pv 2)) (blkOk_by (own := [("stream", 3)]) (N := N_Plant___init__) (sc := defScope s_Plant___init__) (by decide +kernel)) (fun _ _ _ _ _ => (pg_name (i := 3) nd rfl (.inl rfl))) (fun _ _ _ _ _ => pts_nil) (fun _ _ _ _ _ => (pe_ix (ix_tupK (K := K) rfl) (pv 3) pe_int (fun _ _ => rfl)))) pa_nil))))
    (pss_one ps_never) pss_nil)
    (pss_cons (ps_fld (pv 0) (pe_callB cr_sortedS (by rfl) T.b_sorted (by decide +kernel) (pa_cons (pv 1) pa_nil)) rfl)
    (pss_one (ps_fld (pv 0) (pe_callB cr_sortedStm (by rfl) T.b_sorted (by decide +kernel) (pa_cons (pv 2) pa_nil)) rfl)))))), ?_⟩)
  obtain ⟨x, dx, a, b, kn, ss, rfl, hx, ha, ⟨L, hL, hb, ht⟩, kok, knd, k1, k24, s60, sok, sn, snd, k⟩ := h
  subst hL
  have hlen : L.length ≤ 30 := by simpa using s60
  rw [rf_fst] at hb
  walk_at "go"
  refine g_lenL ha ?_
  walk_at "go"
  refine g_iteT (by rw [List.length_map]; omega) ?_
  walk_at "go"
  rw [decide_eq_true (show ((kn.map V.str).length : Int) ≤ 24 by rw [List.length_map]; omega)]
  walk_at "go"
  refine ⟨a, kn, rfl, ha, kok, knd, by omega, fun H1 s1 => ?_⟩
  walk_at "go"
  refine g_lenL (s1 _ _ hb) ?_
  walk_at "go"
  refine g_iteF (by rw [List.length_map]; omega) ?_
  walk_at "go"
  refine kLc_pure L fst (fun _ => some (.bl true)) (SqL.of (s1 _ _ hb)) (by omega) (fun p hp H2 s2 C q => ?_) (fun D H2 hD s2 e => ?_)
  · refine g_name ⟨rfl, ?_⟩
    walk_at "go"
    exact ⟨p.1, a, p.2, kn, rfl, s2 _ _ (s1 _ _ (ht p hp)), s2 _ _ (s1 _ _ ha), sok _ (List.mem_map.mpr ⟨p, hp, rfl⟩), q H2 (Same.refl _)⟩
  · walk_at "go"
    refine g_allB e ?_
    rw [show (L.all fun _ => true) = true from List.all_eq_true.mpr fun _ _ => rfl]
    walk_at "go"
    have s12 := L2.Same.trans s1 s2
    refine kLc_pure L fst (fun p => some (.str p.2.nm)) (SqL.of (s12 _ _ hb)) (by omega) (fun p hp H3 s3 C q => ?_) (fun D2 H3 hD2 s3 e2 => ?_)
    · refine g_name ⟨rfl, ?_⟩
      walk_at "go"
      refine g_ixT (s3 _ _ (s12 _ _ (ht p hp))) rfl ?_
      exact q H3 (Same.refl _)
    · walk_at "go"
      have s13 := L2.Same.trans s12 s3
      have e3 : H3 D2 = some (ls (L.map fun p => p.2.nm)) := by
        rw [e2, fm_some]
        unfold ls
        rw [List.map_map]
        rfl
      rw [List.map_map] at snd
      refine ⟨D2, _, rfl, e3, fun t htm => ?_, snd, by rw [List.length_map]; omega, fun H4 s4 => ?_⟩
      · obtain ⟨p, hp, rfl⟩ := List.mem_map.mp htm
        exact sn _ (List.mem_map.mpr ⟨p, hp, rfl⟩)
      walk_at "go"
      have s14 := L2.Same.trans s13 s4
      refine g_sortS (s14 _ _ ha) (by omega) fun ys p1 H5 py _ hp1 s45 e5 => ?_
      have s5 := L2.Same.trans s14 s45
      have nx1 : x ≠ p1 := ne_of_none (s14 _ _ hx) hp1
      walk_at "go"
      refine g_kfld (s5 _ _ hx) Z.cl Z.nK (by decide) ?_
      have hxb : ∀ r xs, H5 r = some (.lst xs) → r ≠ x := fun r xs q => ne_of q (s5 _ _ hx) (by intro z; cases z)
      have hxt : ∀ r xs, H5 r = some (.tup xs) → r ≠ x := fun r xs q => ne_of q (s5 _ _ hx) (by intro z; cases z)
      walk_at "go"
      refine g_sortStm (L := L) (row := fun p : Addr × Stm => (p.2.nm, [.str p.2.tl, .str p.2.hd, .int p.2.lo, .int p.2.hi])) (adr := fun p => p.1) ?_ (fun p hp => ?_) (by rw [List.map_map]; exact snd) (by omega) fun L' p2 H6 pL hp2 s6 e6 => ?_
      · rw [upd_ne (hxb _ _ (s5 _ _ hb))]
        rw [s5 _ _ hb]
        unfold rf
        rw [List.map_map]
        rfl
      · rw [upd_ne (hxt _ _ (s5 _ _ (ht p hp)))]
        exact s5 _ _ (ht p hp)
      have nx2 : x ≠ p2 := fun q => by rw [← q, upd_same] at hp2; cases hp2
      walk_at "go"
      refine g_kfld (s6 _ _ upd_same) Z.cl Z.nS (by show 1 < 1000; decide) ?_
      have hp2' : H5 p2 = none := by rw [upd_ne nx2.symm] at hp2; exact hp2
      refine k _ ys (L'.map (·.2)) (fun c o hc q => ?_) py (pL.map _) ⟨⟨?_, ?_, ?_, ?_, ?_, ?_⟩, dx, p1, p2, ?_, ?_, L', rfl, ?_, ?_⟩
      · rw [upd_ne hc]
        exact s6 _ _ (by rw [upd_ne hc]; exact s5 _ _ q)
      · exact py.nodup_iff.mpr knd
      · show ((L'.map (·.2)).map (·.nm)).Nodup
        rw [List.map_map]
        exact (pL.map _).nodup_iff.mpr snd
      · intro s hs
        obtain ⟨p, hp, rfl⟩ := List.mem_map.mp hs
        exact py.mem_iff.mpr (sok _ (List.mem_map.mpr ⟨p, pL.mem_iff.mp hp, rfl⟩)).1
      · intro s hs
        obtain ⟨p, hp, rfl⟩ := List.mem_map.mp hs
        exact py.mem_iff.mpr (sok _ (List.mem_map.mpr ⟨p, pL.mem_iff.mp hp, rfl⟩)).2.1
      · rw [show (⟨ys, L'.map (·.2)⟩ : Pl).kn = ys from rfl, py.length_eq]; exact k24
      · show (L'.map (·.2)).length ≤ 30
        rw [List.length_map, pL.length_eq]; exact hlen
      · rw [upd_same]
        have e : putF "_streams" (V.ref p2) (putF "_knots" (.ref p1) []) = pfs p1 p2 := by
          show (if ("_knots" : Str) = "_streams" then [(("_knots" : Str), V.ref p2)] else (("_knots" : Str), V.ref p1) :: putF "_streams" (V.ref p2) []) = _
          rw [if_neg (by decide +kernel)]
          rfl
        rw [e]
      · rw [upd_ne nx1.symm]
        exact s6 _ _ (by rw [upd_ne nx1.symm]; exact e5)
      · rw [upd_ne nx2.symm]
        exact e6
      · intro p hp
        have q := ht p (pL.mem_iff.mp hp)
        have nq := hxt _ _ (s5 _ _ q)
        rw [upd_ne nq]
        exact s6 _ _ (by rw [upd_ne nq]; exact s5 _ _ q)
abbrev s_Plant_knots : Stmt := inClass (top 14) 1
abbrev N_Plant_knots : List Str := ["self"]
theorem sc_Plant_knots : FnScope N_Plant_knots ["self"] (defScope s_Plant_knots) := ⟨rfl, rfl, rfl, by decide +kernel, rfl, by decide +kernel, by decide +kernel⟩
def sp_Plant_knots (K : PySem.W.Frag) (z : Ad) : Sp := fun vs H Q _ => ∃ (a : Addr) (p : Pl), vs = [.ref a] ∧ PlAt z.C H a p ∧ ∀ D H', H D = none → Same H H' → H' D = some (ls p.kn) → Q (.ref D) H'
theorem ok_Plant_knots {P : Program} {w : World} {K : PySem.W.Frag} {mg : Str → Option Value} {base : Heap} {z : Ad} (T : Bi mg) (Z : Cx3 K z.C z.CM z.CR) (D : Dp K z.C "knots" "Plant.knots" s_Plant_knots ["self"])  : Prp P w K mg base 1 z.C "knots" (sp_Plant_knots K z) := by
  have nd := sc_Plant_knots.nd
  refine prp_mk D sc_Plant_knots (by walk_at "len") (fun cdv A outer s H vs Q E f hr h => ⟨_, (pss_one (ps_ret (pe_callTy (cr_listQ (K := K) rfl) (by rfl) T.b_list (by decide +kernel) (pa_cons (pe_fld (pv 0) rfl) pa_nil)))), ?_⟩)
  obtain ⟨a, p, rfl, ⟨ok, dx, ak, as, h1, h2, h3⟩, k⟩ := h
  walk_at "go"
  refine g_fld rfl h1 Z.cl Z.nK (pfs_knots _ _) ?_
  walk_at "go"
  exact g_listL h2 fun D H1 hD s1 e => k D H1 hD s1 e
abbrev s_Plant_streams : Stmt := inClass (top 14) 2
abbrev N_Plant_streams : List Str := ["self"]
theorem sc_Plant_streams : FnScope N_Plant_streams ["self"] (defScope s_Plant_streams) := ⟨rfl, rfl, rfl, by decide +kernel, rfl, by decide +kernel, by decide +kernel⟩
def sp_Plant_streams (K : PySem.W.Frag) (z : Ad) : Sp := fun vs H Q _ => ∃ (a : Addr) (p : Pl), vs = [.ref a] ∧ PlAt z.C H a p ∧ ∀ D H', H D = none → Same H H' → Tups Stm.row H' D p.ss → Q (.ref D) H'
theorem ok_Plant_streams {P : Program} {w : World} {K : PySem.W.Frag} {mg : Str → Option Value} {base : Heap} {z : Ad} (T : Bi mg) (Z : Cx3 K z.C z.CM z.CR) (D : Dp K z.C "streams" "Plant.streams" s_Plant_streams ["self"])  : Prp P w K mg base 1 z.C "streams" (sp_Plant_streams K z) := by
  have nd := sc_Plant_streams.nd
  refine prp_mk D sc_Plant_streams (by walk_at "len") (fun cdv A outer s H vs Q E f hr h => ⟨_, (pss_one (ps_ret (pe_callTy (cr_listQ (K := K) rfl) (by rfl) T.b_list (by decide +kernel) (pa_cons (pe_fld (pv 0) rfl) pa_nil)))), ?_⟩)
  obtain ⟨a, p, rfl, ⟨ok, dx, ak, as, h1, h2, L, e1, e2, e3⟩, k⟩ := h
  walk_at "go"
  refine g_fld rfl h1 Z.cl Z.nS (pfs_streams _ _) ?_
  walk_at "go"
  exact g_listL e2 fun D H1 hD s1 e => k D H1 hD s1 ⟨L, e1, e, fun p hp => s1 _ _ (e3 p hp)⟩
abbrev s_Plant_stream_names : Stmt := inClass (top 14) 3
abbrev N_Plant_stream_names : List Str := ["self", "stream"]
theorem sc_Plant_stream_names : FnScope N_Plant_stream_names ["self"] (defScope s_Plant_stream_names) := ⟨rfl, rfl, rfl, by decide +kernel, rfl, by decide +kernel, by decide +kernel⟩
def sp_Plant_stream_names (K : PySem.W.Frag) (z : Ad) : Sp := fun vs H Q _ => ∃ (a : Addr) (p : Pl), vs = [.ref a] ∧ PlAt z.C H a p ∧ ∀ D H', H D = none → Same H H' → H' D = some (ls p.names) → Q (.ref D) H'
theorem ok_Plant_stream_names {P : Program} {w : World} {K : PySem.W.Frag} {mg : Str → Option Value} {base : Heap} {z : Ad} (T : Bi mg) (Z : Cx3 K z.C z.CM z.CR) (D : Dm K z.C "stream_names" "Plant.stream_names" s_Plant_stream_names ["self"])  : Met P w K mg base 1 z.C "stream_names" (sp_Plant_stream_names K z) [] := by
  have nd := sc_Plant_stream_names.nd
  refine met_mk D sc_Plant_stream_names (by walk_at "len") (fun cdv A outer s H vs Q E f hr h => ⟨_, (pss_one (ps_ret (pe_lc (own := [("stream", 1)]) rfl nd (pi_list (pe_fld (pv 0) rfl)) (blkOk_by (own := [("stream", 1)]) (N := N_Plant_stream_names) (sc := defScope s_Plant_stream_names) (by decide +kernel)) (fun _ _ _ _ _ => (pg_name (i := 1) nd rfl (.inl rfl))) (fun _ _ _ _ _ => pts_nil) (fun _ _ _ _ _ => (pe_ix (ix_tupK (K := K) rfl) (pv 1) pe_int (fun _ _ => rfl)))))), ?_⟩)
  obtain ⟨a, p, rfl, ⟨ok, dx, ak, as, h1, h2, L, e1, e2, e3⟩, k⟩ := h
  rw [rf_fst] at e2
  have hlen : L.length ≤ 30 := by have := ok.sl; rw [← e1, List.length_map] at this; exact this
  walk_at "go"
  refine g_fld rfl h1 Z.cl Z.nS (pfs_streams _ _) ?_
  refine kLc_pure L fst (fun p => some (.str p.2.nm)) (SqL.of e2) (by omega) (fun q hq H3 s3 C c => ?_) (fun D H3 hD s3 e => k D H3 hD s3 ?_)
  · refine g_name ⟨rfl, ?_⟩
    walk_at "go"
    refine g_ixT (s3 _ _ (e3 q hq)) rfl ?_
    exact c H3 (Same.refl _)
  · rw [e, fm_some]
    unfold ls Pl.names
    rw [← e1, List.map_map, List.map_map]
    rfl
abbrev s_Plant_stream_named : Stmt := inClass (top 14) 4
abbrev N_Plant_stream_named : List Str := ["self", "name", "stream"]
theorem sc_Plant_stream_named : FnScope N_Plant_stream_named ["self", "name"] (defScope s_Plant_stream_named) := ⟨rfl, rfl, rfl, by decide +kernel, rfl, by decide +kernel, by decide +kernel⟩
def sp_Plant_stream_named (K : PySem.W.Frag) (z : Ad) : Sp := fun vs H Q _ => ∃ (a : Addr) (p : Pl) (s : Stm), vs = [.ref a, .str s.nm] ∧ PlAt z.C H a p ∧ s ∈ p.ss ∧ ∀ r, H r = some (.tup s.row) → Q (.ref r) H
theorem ok_Plant_stream_named {P : Program} {w : World} {K : PySem.W.Frag} {mg : Str → Option Value} {base : Heap} {z : Ad} (T : Bi mg) (Z : Cx3 K z.C z.CM z.CR) (D : Dm K z.C "stream_named" "Plant.stream_named" s_Plant_stream_named ["self", "name"])  : Met P w K mg base 1 z.C "stream_named" (sp_Plant_stream_named K z) [] := by
  have nd := sc_Plant_stream_named.nd
  refine met_mk D sc_Plant_stream_named (by walk_at "len") (fun cdv A outer s H vs Q E f hr h => ⟨_, (pss_cons (ps_for PassesOwn.never rfl (pi_list (pe_fld (pv 0) rfl)) (pg_name (i := 2) nd rfl (.inl rfl))
    (pss_one (ps_if (pt_cmpR op_eq (pe_ix (ix_tupK (K := K) rfl) (pv 2) pe_int (fun _ _ => rfl)) (pv 1) (nomark _))
    (pss_one (ps_ret (pv 2))) pss_nil)))
    (pss_one ps_never)), ?_⟩)
  obtain ⟨a, p, s0, rfl, ⟨ok, dx, ak, as, h1, h2, L, e1, e2, e3⟩, hs, k⟩ := h
  rw [rf_fst] at e2
  walk_at "go"
  refine g_fld rfl h1 Z.cl Z.nS (pfs_streams _ _) ?_
  refine kFor_run L fst (SqL.of e2) (fun d σ' H' => H' = H ∧ (∀ q ∈ d, q.2.nm ≠ s0.nm) ∧ ∃ y, σ' = [some (.ref a), some (.str s0.nm), y]) ⟨rfl, (fun _ z => by cases z), none, rfl⟩ (fun d σ' H' ⟨eH, _⟩ => by rw [eH]; exact SqL.of e2) (fun d q r σ' H' hL hP => ?_) (fun σ' H' hP => ?_)
  · obtain ⟨rfl, hd, y, rfl⟩ := hP
    have hq : q ∈ L := by rw [hL]; exact List.mem_append_right _ List.mem_cons_self
    refine g_name ?_
    walk_at "go"
    refine g_ixT (e3 q hq) rfl ?_
    walk_at "go"
    refine g_ite (fun hn => ?_) (fun hn => ?_)
    · walk_at "go"
      refine k q.1 ?_
      have hm : q.2 ∈ p.ss := by rw [← e1]; exact List.mem_map.mpr ⟨q, hq, rfl⟩
      have es : q.2 = s0 := by
        have nd2 := ok.nm
        exact inj_of_nodup nd2 hm hs hn
      rw [← es]
      exact e3 q hq
    · walk_at "go"
      refine ⟨rfl, fun q' h' => ?_, _, rfl⟩
      rcases List.mem_append.mp h' with z | z
      · exact hd q' z
      · rw [List.mem_singleton.mp z]; exact hn
  · obtain ⟨rfl, hd, _⟩ := hP
    have hm : s0 ∈ L.map (·.2) := by rw [e1]; exact hs
    obtain ⟨q, hq, e⟩ := List.mem_map.mp hm
    exact absurd (by rw [e]) (hd q hq)
section
variable {K : PySem.W.Frag} {z : Ad} {σ : L2.St} {H : Hp} {Q : VK} {i j : Nat} {a : Addr} {p : Pl} {E : XK}
theorem PlAt.ins {C : Addr} (h : PlAt C H a p) : ∃ dx ak as, H a = some (.ins C dx (pfs ak as)) := by obtain ⟨_, dx, ak, as, h1, _⟩ := h; exact ⟨dx, ak, as, h1⟩
theorem g_pknots (hv : σ[i]? = some (some (.ref a))) (hP : PlAt z.C H a p) (k : ∀ D H', H D = none → Same H H' → H' D = some (ls p.kn) → Q (.ref D) H') : tProp z.C (sp_Plant_knots K z) [] E (tVar i) σ H Q := by
  obtain ⟨dx, ak, as, h1⟩ := hP.ins
  exact g_prop hv h1 ⟨a, p, rfl, hP, k⟩
theorem g_pstreams (hv : σ[i]? = some (some (.ref a))) (hP : PlAt z.C H a p) (k : ∀ D H', H D = none → Same H H' → Tups Stm.row H' D p.ss → Q (.ref D) H') : tProp z.C (sp_Plant_streams K z) [] E (tVar i) σ H Q := by
  obtain ⟨dx, ak, as, h1⟩ := hP.ins
  exact g_prop hv h1 ⟨a, p, rfl, hP, k⟩
theorem g_pnames (hv : σ[i]? = some (some (.ref a))) (hP : PlAt z.C H a p) (k : ∀ D H', H D = none → Same H H' → H' D = some (ls p.names) → Q (.ref D) H') : tMeth z.C "stream_names" (sp_Plant_stream_names K z) [] E (tVar i) tNil σ H Q := by
  obtain ⟨dx, ak, as, h1⟩ := hP.ins
  exact g_meth0 hv h1 (pfs_no _ _ (by decide +kernel) (by decide +kernel)) ⟨a, p, rfl, hP, k⟩
theorem g_pnamed {s : Stm} (hv : σ[i]? = some (some (.ref a))) (hw : σ[j]? = some (some (.str s.nm))) (hP : PlAt z.C H a p) (hs : s ∈ p.ss) (k : ∀ r, H r = some (.tup s.row) → Q (.ref r) H) : tMeth z.C "stream_named" (sp_Plant_stream_named K z) [] E (tVar i) (tCons (tVar j) tNil) σ H Q := by
  obtain ⟨dx, ak, as, h1⟩ := hP.ins
  exact g_meth1 hv hw h1 (pfs_no _ _ (by decide +kernel) (by decide +kernel)) ⟨a, p, s, rfl, hP, hs, k⟩
end
/-! ### all but some objects stay -/
def But (l : List Addr) (H H' : Hp) : Prop := ∀ b o, b ∉ l → H b = some o → H' b = some o
theorem But.refl (l : List Addr) (H : Hp) : But l H H := fun _ _ _ h => h
theorem But.trans {l : List Addr} {H H1 H2 : Hp} (a : But l H H1) (b : But l H1 H2) : But l H H2 := fun c o n h => b c o n (a c o n h)
theorem But.of {l : List Addr} {H H' : Hp} (e : Same H H') : But l H H' := fun b o _ h => e b o h
theorem But.upd {l : List Addr} {H : Hp} {p : Addr} {o : HO} (h : p ∈ l) : But l H (upd H p o) := fun b u n q => by
  rw [upd_ne (by intro z; subst z; exact n h)]
  exact q
theorem But.same {l : List Addr} {H0 H H' : Hp} (b : But l H H') (e : Same H0 H) (n : ∀ p ∈ l, H0 p = none) : Same H0 H' := fun c o h =>
  b c o (fun m => by rw [n c m] at h; cases h) (e c o h)
theorem But.mono {l m : List Addr} {H H' : Hp} (b : But l H H') (s : ∀ x ∈ l, x ∈ m) : But m H H' := fun c o n h => b c o (fun z => n (s c z)) h
def fl (f : Str → Int) : Str → V := fun n => V.int (f n)
def netOf (ss : List Stm) (f : Str → Int) (k : Str) : Int := (ss.map fun s => (if s.hd = k then f s.nm else 0) - (if s.tl = k then f s.nm else 0)).sum
theorem netOf_snoc (ss : List Stm) (s : Stm) (f : Str → Int) (k : Str) : netOf (ss ++ [s]) f k = netOf ss f k + ((if s.hd = k then f s.nm else 0) - (if s.tl = k then f s.nm else 0)) := by
  unfold netOf
  rw [List.map_append, List.sum_append]
  simp

end Mh
set_option Elab.async false
set_option linter.all false
set_option maxRecDepth 100000
set_option maxHeartbeats 4000000
/-! M3: pushing along ways; cuts. -/
namespace Mh
open PySem PySem.Spec PyProof.Rows L2
def netL (L : List Ln) (f : Str → Int) (k : Str) : Int := (L.map fun l => (if l.hd = k then f l.nm else 0) - (if l.tl = k then f l.nm else 0)).sum
def cutL (L : List Ln) (f : Str → Int) (R : List Str) : Int := (L.map fun l => (if l.hd ∈ R then f l.nm else 0) - (if l.tl ∈ R then f l.nm else 0)).sum
theorem sum_add {α : Type} (L : List α) (f g : α → Int) : (L.map fun x => f x + g x).sum = (L.map f).sum + (L.map g).sum := by
  induction L with
  | nil => rfl
  | cons a r ih => simp only [List.map_cons, List.sum_cons, ih]; omega
theorem sum_sub {α : Type} (L : List α) (f g : α → Int) : (L.map fun x => f x - g x).sum = (L.map f).sum - (L.map g).sum := by
  induction L with
  | nil => rfl
  | cons a r ih => simp only [List.map_cons, List.sum_cons, ih]; omega
theorem sum_zero {α : Type} (L : List α) (f : α → Int) (h : ∀ x ∈ L, f x = 0) : (L.map f).sum = 0 := by
  induction L with
  | nil => rfl
  | cons a r ih =>
    rw [List.map_cons, List.sum_cons, h a List.mem_cons_self, ih fun x hx => h x (List.mem_cons_of_mem _ hx)]
    rfl
theorem sum_le {α : Type} (L : List α) (f g : α → Int) (h : ∀ x ∈ L, f x ≤ g x) : (L.map f).sum ≤ (L.map g).sum := by
  induction L with
  | nil => exact Int.le_refl _
  | cons a r ih =>
    rw [List.map_cons, List.sum_cons, List.map_cons, List.sum_cons]
    have := h a List.mem_cons_self
    have := ih fun x hx => h x (List.mem_cons_of_mem _ hx)
    omega
theorem sum_cong {α : Type} (L : List α) (f g : α → Int) (h : ∀ x ∈ L, f x = g x) : (L.map f).sum = (L.map g).sum := by
  rw [List.map_congr_left h]
/-- a sum of terms that are not negative is nought: all are -/
theorem sum_pos {α : Type} : ∀ (L : List α) (f : α → Int), (∀ x ∈ L, 0 ≤ f x) → (L.map f).sum ≤ 0 → ∀ x ∈ L, f x = 0
  | [], _, _, _, _, h => by cases h
  | a :: r, f, h0, hs, x, hx => by
    rw [List.map_cons, List.sum_cons] at hs
    have h1 := h0 a List.mem_cons_self
    have h2 : (r.map fun _ => (0 : Int)).sum ≤ (r.map f).sum := sum_le r _ f fun y hy => h0 y (List.mem_cons_of_mem _ hy)
    rw [sum_zero r _ fun _ _ => rfl] at h2
    rcases List.mem_cons.mp hx with e | e
    · rw [e]; omega
    · exact sum_pos r f (fun y hy => h0 y (List.mem_cons_of_mem _ hy)) (by omega) x e
theorem sum_pick (kn R : List Str) (hn : kn.Nodup) (a : Str) (ha : a ∈ kn) (x : Int) : ((kn.filter fun k => decide (k ∈ R)).map fun k => if a = k then x else 0).sum = if a ∈ R then x else 0 := by
  induction kn with
  | nil => cases ha
  | cons b r ih =>
    obtain ⟨h1, h2⟩ := List.nodup_cons.mp hn
    by_cases e : a = b
    · subst e
      have hz : ((r.filter fun k => decide (k ∈ R)).map fun k => if a = k then x else 0).sum = 0 := sum_zero _ _ fun y hy => by
        have : y ∈ r := (List.mem_filter.mp hy).1
        exact if_neg (fun z : a = y => h1 (z ▸ this))
      by_cases hR : a ∈ R
      · rw [List.filter_cons, if_pos (by simpa using hR), List.map_cons, List.sum_cons, hz, if_pos rfl, if_pos hR]; omega
      · rw [List.filter_cons, if_neg (by simpa using hR), hz, if_neg hR]
    · have ha2 : a ∈ r := (List.mem_cons.mp ha).resolve_left e
      by_cases hR : b ∈ R
      · rw [List.filter_cons, if_pos (by simpa using hR), List.map_cons, List.sum_cons, ih h2 ha2, if_neg e]; omega
      · rw [List.filter_cons, if_neg (by simpa using hR), ih h2 ha2]
theorem cut_sum {kn : List Str} (hn : kn.Nodup) (R : List Str) (f : Str → Int) : ∀ (L : List Ln), (∀ l ∈ L, l.tl ∈ kn ∧ l.hd ∈ kn) → ((kn.filter fun k => decide (k ∈ R)).map (netL L f)).sum = cutL L f R
  | [], _ => sum_zero _ _ fun _ _ => rfl
  | l :: L, hL => by
    have ih := cut_sum hn R f L fun x hx => hL x (List.mem_cons_of_mem _ hx)
    obtain ⟨h1, h2⟩ := hL l List.mem_cons_self
    have e : netL (l :: L) f = fun k => ((if l.hd = k then f l.nm else 0) - (if l.tl = k then f l.nm else 0)) + netL L f k := by
      funext k
      unfold netL
      rw [List.map_cons, List.sum_cons]
    rw [e, sum_add, sum_sub, sum_pick kn R hn _ h2, sum_pick kn R hn _ h1, ih]
    unfold cutL
    rw [List.map_cons, List.sum_cons]
section
variable {L : List Ln} {lo hi f : Str → Int}
theorem arcs_up {l : Ln} (h : l ∈ L) (hf : f l.nm < hi l.nm) : (⟨l.tl, l.hd, l.nm, 1, hi l.nm - f l.nm⟩ : Arc) ∈ arcsOf L lo hi f :=
  List.mem_flatMap.mpr ⟨l, h, by unfold arcs1; rw [if_pos hf]; exact List.mem_append_left _ List.mem_cons_self⟩
theorem arcs_dn {l : Ln} (h : l ∈ L) (hf : lo l.nm < f l.nm) : (⟨l.hd, l.tl, l.nm, -1, f l.nm - lo l.nm⟩ : Arc) ∈ arcsOf L lo hi f :=
  List.mem_flatMap.mpr ⟨l, h, by unfold arcs1; rw [if_pos hf]; exact List.mem_append_right _ List.mem_cons_self⟩
theorem arcs_inv {a : Arc} (h : a ∈ arcsOf L lo hi f) : ∃ l ∈ L, (a = ⟨l.tl, l.hd, l.nm, 1, hi l.nm - f l.nm⟩ ∧ f l.nm < hi l.nm) ∨ (a = ⟨l.hd, l.tl, l.nm, -1, f l.nm - lo l.nm⟩ ∧ lo l.nm < f l.nm) := by
  obtain ⟨l, hl, ha⟩ := List.mem_flatMap.mp h
  refine ⟨l, hl, ?_⟩
  unfold arcs1 at ha
  rcases List.mem_append.mp ha with z | z
  · by_cases hf : f l.nm < hi l.nm
    · rw [if_pos hf] at z; exact .inl ⟨List.mem_singleton.mp z, hf⟩
    · rw [if_neg hf] at z; cases z
  · by_cases hf : lo l.nm < f l.nm
    · rw [if_pos hf] at z; exact .inr ⟨List.mem_singleton.mp z, hf⟩
    · rw [if_neg hf] at z; cases z
theorem cut_le {h : Str → Int} {R : List Str} (hc : ∀ a ∈ arcsOf L lo hi f, a.fr ∈ R → a.to ∈ R) (hh : ∀ l ∈ L, lo l.nm ≤ h l.nm ∧ h l.nm ≤ hi l.nm) : cutL L f R ≤ cutL L h R := by
  refine sum_le _ _ _ fun l hl => ?_
  obtain ⟨b1, b2⟩ := hh l hl
  by_cases m1 : l.hd ∈ R
  · by_cases m2 : l.tl ∈ R
    · simp only [if_pos m1, if_pos m2]; omega
    · have : ¬ lo l.nm < f l.nm := fun q => m2 (hc _ (arcs_dn hl q) m1)
      simp only [if_pos m1, if_neg m2]; omega
  · by_cases m2 : l.tl ∈ R
    · have : ¬ f l.nm < hi l.nm := fun q => m1 (hc _ (arcs_up hl q) m2)
      simp only [if_neg m1, if_pos m2]; omega
    · simp only [if_neg m1, if_neg m2]; omega
theorem net_same {g g' : Str → Int} (h : ∀ l ∈ L, g' l.nm = g l.nm) (k : Str) : netL L g' k = netL L g k := sum_cong _ _ _ fun l hl => by rw [h l hl]
theorem net_fup : ∀ {L : List Ln}, (L.map (·.nm)).Nodup → ∀ {l : Ln}, l ∈ L → ∀ (g : Str → Int) (v : Int) (k : Str),
    netL L (fup g l.nm v) k = netL L g k + ((if l.hd = k then v - g l.nm else 0) - (if l.tl = k then v - g l.nm else 0))
  | a :: r, hn, l, hl, g, v, k => by
    rw [List.map_cons, List.nodup_cons] at hn
    have e : ∀ g : Str → Int, netL (a :: r) g k = ((if a.hd = k then g a.nm else 0) - (if a.tl = k then g a.nm else 0)) + netL r g k := fun g => by
      unfold netL
      rw [List.map_cons, List.sum_cons]
    rw [e, e]
    by_cases z : l = a
    · subst z
      have h1 : netL r (fup g l.nm v) k = netL r g k := net_same (fun x hx => by
        unfold fup
        rw [if_neg (fun q => hn.1 (List.mem_map.mpr ⟨x, hx, q⟩))]) k
      have h2 : fup g l.nm v l.nm = v := by unfold fup; rw [if_pos rfl]
      rw [h1, h2]
      split <;> split <;> omega
    · have hr : l ∈ r := (List.mem_cons.mp hl).resolve_left z
      have h1 := net_fup hn.2 hr g v k
      have h2 : fup g l.nm v a.nm = g a.nm := by unfold fup; rw [if_neg (fun q => hn.1 (List.mem_map.mpr ⟨l, hr, q.symm⟩))]
      rw [h1, h2]
      omega
theorem push_net (hn : (L.map (·.nm)).Nodup) {a : Arc} (ha : a ∈ arcsOf L lo hi f) (g : Str → Int) (m : Int) (k : Str) :
    netL L (fup g a.nm (g a.nm + a.sg * m)) k = netL L g k + ((if a.to = k then m else 0) - (if a.fr = k then m else 0)) := by
  obtain ⟨l, hl, ⟨e, _⟩ | ⟨e, _⟩⟩ := arcs_inv ha <;> subst e <;> rw [net_fup hn hl]
  · show _ + ((if l.hd = k then g l.nm + 1 * m - g l.nm else 0) - (if l.tl = k then g l.nm + 1 * m - g l.nm else 0)) = _ + ((if l.hd = k then m else 0) - (if l.tl = k then m else 0))
    split <;> split <;> omega
  · show _ + ((if l.hd = k then g l.nm + -1 * m - g l.nm else 0) - (if l.tl = k then g l.nm + -1 * m - g l.nm else 0)) = _ + ((if l.tl = k then m else 0) - (if l.hd = k then m else 0))
    split <;> split <;> omega
theorem push_chain (hn : (L.map (·.nm)).Nodup) (m : Int) (k : Str) : ∀ (w : List Arc) (g : Str → Int) (s e : Str), Ch s w e → (∀ a ∈ w, a ∈ arcsOf L lo hi f) →
    netL L (pushF g w m) k = netL L g k + ((if e = k then m else 0) - (if s = k then m else 0))
  | [], g, s, e, h, _ => by
    have h : s = e := h
    subst h
    show netL L g k = _
    omega
  | a :: w, g, s, e, ⟨h1, h2⟩, ha => by
    show netL L (pushF (fup g a.nm (g a.nm + a.sg * m)) w m) k = _
    rw [push_chain hn m k w _ _ _ h2 fun x hx => ha x (List.mem_cons_of_mem _ hx), push_net hn (ha a List.mem_cons_self), h1]
    omega
theorem ch_rank (rk : Str → Nat) : ∀ (w : List Arc) (s e : Str), Ch s w e → (∀ a ∈ w, rk a.fr < rk a.to) → ∀ b ∈ w, rk s ≤ rk b.fr
  | [], _, _, _, _, _, hb => by cases hb
  | a :: w, s, e, ⟨h1, h2⟩, hr, b, hb => by
    rcases List.mem_cons.mp hb with z | z
    · rw [z, h1]; exact Nat.le_refl _
    · have h3 := ch_rank rk w _ _ h2 (fun x hx => hr x (List.mem_cons_of_mem _ hx)) b z
      have h4 := hr a List.mem_cons_self
      rw [← h1]
      omega
theorem way_nodup (hn : (L.map (·.nm)).Nodup) (rk : Str → Nat) : ∀ (w : List Arc) (s e : Str), Ch s w e → (∀ a ∈ w, a ∈ arcsOf L lo hi f ∧ rk a.fr < rk a.to) → (w.map (·.nm)).Nodup
  | [], _, _, _, _ => List.nodup_nil
  | a :: w, s, e, ⟨h1, h2⟩, ha => by
    rw [List.map_cons]
    refine List.nodup_cons.mpr ⟨fun hm => ?_, way_nodup hn rk w _ _ h2 fun x hx => ha x (List.mem_cons_of_mem _ hx)⟩
    obtain ⟨b, hb, eb⟩ := List.mem_map.mp hm
    obtain ⟨q1, q2⟩ := ha a List.mem_cons_self
    obtain ⟨q3, q4⟩ := ha b (List.mem_cons_of_mem _ hb)
    have q5 := ch_rank rk w _ _ h2 (fun x hx => (ha x (List.mem_cons_of_mem _ hx)).2) b hb
    obtain ⟨la, hla, ea⟩ := arcs_inv q1
    obtain ⟨lb, hlb, eb'⟩ := arcs_inv q3
    have en : la = lb := inj_of_nodup hn hla hlb (by rcases ea with ⟨ea, _⟩ | ⟨ea, _⟩ <;> rcases eb' with ⟨eb', _⟩ | ⟨eb', _⟩ <;> rw [ea, eb'] at eb <;> exact eb.symm)
    subst en
    rcases ea with ⟨ea, _⟩ | ⟨ea, _⟩ <;> rcases eb' with ⟨eb', _⟩ | ⟨eb', _⟩ <;> rw [ea] at q2 q5 <;> rw [eb'] at q4 q5 <;> simp only at q2 q4 q5 <;> omega
theorem pushF_out (m : Int) (x : Str) : ∀ (w : List Arc) (g : Str → Int), x ∉ w.map (·.nm) → pushF g w m x = g x
  | [], _, _ => rfl
  | a :: w, g, h => by
    rw [List.map_cons, List.mem_cons] at h
    show pushF (fup g a.nm (g a.nm + a.sg * m)) w m x = _
    rw [pushF_out m x w _ fun z => h (.inr z)]
    unfold fup
    rw [if_neg fun z => h (.inl z)]
theorem pushF_in (m : Int) : ∀ (w : List Arc) (g : Str → Int), (w.map (·.nm)).Nodup → ∀ a ∈ w, pushF g w m a.nm = g a.nm + a.sg * m
  | b :: w, g, hn, a, ha => by
    rw [List.map_cons, List.nodup_cons] at hn
    show pushF (fup g b.nm (g b.nm + b.sg * m)) w m a.nm = _
    rcases List.mem_cons.mp ha with z | z
    · rw [z, pushF_out m _ w _ hn.1]
      unfold fup
      rw [if_pos rfl]
    · rw [pushF_in m w _ hn.2 a z]
      unfold fup
      rw [if_neg fun q => hn.1 (List.mem_map.mpr ⟨a, z, q⟩)]
theorem push_ok (hn : (L.map (·.nm)).Nodup) (hb : ∀ l ∈ L, lo l.nm ≤ f l.nm ∧ f l.nm ≤ hi l.nm) {w : List Arc} {s e : Str} {rk : Str → Nat} (hc : Ch s w e) (ha : ∀ a ∈ w, a ∈ arcsOf L lo hi f ∧ rk a.fr < rk a.to) {m most : Int}
    (hm : m ∈ most :: w.map (·.rm)) (hmin : ∀ y ∈ most :: w.map (·.rm), m ≤ y) (h1 : 1 ≤ most) :
    1 ≤ m ∧ m ≤ most ∧ (∀ l ∈ L, lo l.nm ≤ pushF f w m l.nm ∧ pushF f w m l.nm ≤ hi l.nm) ∧ (∀ x, x ∉ L.map (·.nm) → pushF f w m x = f x) ∧
      ∀ k, netL L (pushF f w m) k = netL L f k + ((if e = k then m else 0) - (if s = k then m else 0)) := by
  have nd := way_nodup hn rk w s e hc ha
  have hm1 : 1 ≤ m := by
    rcases List.mem_cons.mp hm with z | z
    · omega
    · obtain ⟨a, h2, h3⟩ := List.mem_map.mp z
      obtain ⟨l, _, ⟨ea, hl⟩ | ⟨ea, hl⟩⟩ := arcs_inv (ha a h2).1 <;> rw [ea] at h3 <;> simp only at h3 <;> omega
  refine ⟨hm1, hmin _ List.mem_cons_self, fun l hl => ?_, fun x hx => ?_, fun k => push_chain hn m k w f s e hc fun a h => (ha a h).1⟩
  · by_cases q : l.nm ∈ w.map (·.nm)
    · obtain ⟨a, h2, h3⟩ := List.mem_map.mp q
      have h4 := hmin a.rm (List.mem_cons_of_mem _ (List.mem_map.mpr ⟨a, h2, rfl⟩))
      rw [← h3, pushF_in m w f nd a h2]
      obtain ⟨l', hl', ha'⟩ := arcs_inv (ha a h2).1
      have el : l' = l := inj_of_nodup hn hl' hl (by rcases ha' with ⟨ea, _⟩ | ⟨ea, _⟩ <;> rw [ea] at h3 <;> exact h3)
      subst el
      have := hb _ hl
      rcases ha' with ⟨ea, _⟩ | ⟨ea, _⟩ <;> rw [ea] at h4 ⊢ <;> simp only at h4 ⊢ <;> omega
    · rw [pushF_out m _ w f q]
      exact hb l hl
  · refine pushF_out m x w f fun q => ?_
    obtain ⟨a, h2, h3⟩ := List.mem_map.mp q
    obtain ⟨l', hl', ha'⟩ := arcs_inv (ha a h2).1
    exact hx (List.mem_map.mpr ⟨l', hl', by rcases ha' with ⟨ea, _⟩ | ⟨ea, _⟩ <;> rw [ea] at h3 <;> exact h3⟩)
end
theorem ch_head {s e : Str} {w : List Arc} (h : Ch s w e) (hne : s ≠ e) : ∃ a r, w = a :: r ∧ a.fr = s := by
  cases w with
  | nil => exact absurd h hne
  | cons a r => exact ⟨a, r, rfl, h.1⟩
theorem ch_last : ∀ {s e : Str} {w : List Arc}, Ch s w e → ∀ r a, w = r ++ [a] → a.to = e
  | s, e, [], h, r, a, q => by cases r <;> cases q
  | s, e, b :: w, h, [], a, q => by
    obtain ⟨q1, q2⟩ := List.cons.inj q
    subst q1
    subst q2
    exact h.2
  | s, e, b :: w, h, c :: r, a, q => by
    obtain ⟨q1, q2⟩ := List.cons.inj q
    exact ch_last h.2 r a q2
end Mh
set_option Elab.async false
set_option linter.all false
set_option maxRecDepth 100000
set_option maxHeartbeats 4000000
namespace Mh
open PySem PySem.Spec PyProof.Rows L2
open C8 (Cal Mak Met pe_c pe_mk pe_mt pe_mt0 pe_gc)
local macro_rules
  | `(tactic| walk_at "hp") => `(tactic| first | assumption | (exact upd_same) | (refine (by assumption : Same _ _) _ _ ?_; first | assumption | (refine (by assumption : Same _ _) _ _ ?_; first | assumption | (refine (by assumption : Same _ _) _ _ ?_; assumption))))
local macro_rules
  | `(tactic| walk_at "go") => `(tactic| repeat (first
    | with_reducible refine g_seq ?_
    | with_reducible refine g_asg ?_
    | with_reducible refine g_name ?_
    | with_reducible refine g_ret ?_
    | with_reducible refine g_retN ?_
    | with_reducible refine g_next ?_
    | with_reducible refine g_break ?_
    | with_reducible refine g_drop ?_
    | with_reducible refine g_if ?_
    | ((with_reducible show tVar _ _ _ _); refine g_var rfl ?_)
    | with_reducible refine g_c ?_
    | with_reducible refine g_op ?_
    | with_reducible refine g_un ?_
    | with_reducible refine g_test ?_
    | with_reducible refine g_tB ?_
    | with_reducible refine g_exb ?_
    | with_reducible refine g_exbi ?_
    | with_reducible refine g_and ?_
    | with_reducible refine g_or ?_
    | with_reducible refine g_not ?_
    | with_reducible refine g_tIf ?_
    | with_reducible refine g_andV ?_
    | with_reducible refine g_chain ?_
    | with_reducible refine g_chain3 ?_
    | with_reducible refine g_rI0 ?_
    | with_reducible refine g_rU ?_
    | with_reducible refine g_eqI ?_
    | with_reducible refine g_neI ?_
    | with_reducible refine g_eqS ?_
    | with_reducible refine g_neS ?_
    | with_reducible refine g_isNoR ?_
    | with_reducible refine g_isNoN ?_
    | with_reducible refine g_isNoS ?_
    | with_reducible refine g_notNoR ?_
    | with_reducible refine g_notNoS ?_
    | with_reducible refine g_notNoN ?_
    | with_reducible refine g_nil ?_
    | with_reducible refine g_cons ?_
    | with_reducible refine g_cb ?_
    | with_reducible refine g_call ?_
    | with_reducible refine g_tup ?_
    | with_reducible refine g_lst ?_
    | with_reducible refine g_dget ?_
    | with_reducible refine g_din ?_
    | with_reducible refine g_dnin ?_
    | with_reducible refine g_dput ?_
    | with_reducible refine g_daug ?_
    | with_reducible refine g_rAdd ?_
    | with_reducible refine g_rSub ?_
    | with_reducible refine g_tcons ?_
    | with_reducible refine g_tnil ?_
    | with_reducible refine g_forL ?_
    | with_reducible refine g_lc ?_
    | with_reducible refine g_dc ?_
    | with_reducible refine g_yes ?_
    | with_reducible refine g_ipI ?_
    | ((with_reducible show tAug _ _ _ _ _ _); refine g_aug rfl ?_)
    | with_reducible refine g_revL ?_
    | with_reducible refine g_sfld ?_
    | with_reducible refine g_abs ?_
    | with_reducible refine g_maxI ?_
    | with_reducible refine g_minI ?_
    | with_reducible refine g_int1 ?_
    | ((with_reducible refine g_modP ?_ ?_); (focus decide))
    | ((with_reducible refine g_fdivP ?_ ?_ ?_); (focus decide); (focus decide))
    | ((with_reducible refine g_mulL ?_ ?_ ?_); (focus decide); (focus decide))
    | ((with_reducible refine g_mulR ?_ ?_ ?_); (focus decide); (focus decide))
    | with_reducible refine g_forR ?_
    | with_reducible refine g_slice ?_
    | with_reducible refine g_nopart ?_
    | with_reducible refine g_part ?_
    | with_reducible refine g_partI ?_
    | with_reducible refine g_intB ?_
    | with_reducible refine g_nT ?_
    | with_reducible refine g_nF ?_
    | with_reducible refine g_T ?_
    | with_reducible refine g_F ?_))
local macro_rules
  | `(tactic| walk_at "len") => `(tactic| (intro vs H Q E h; first | (obtain ⟨e, _⟩ := h; rw [e]; rfl) | (obtain ⟨_, e, _⟩ := h; rw [e]; rfl) | (obtain ⟨_, _, e, _⟩ := h; rw [e]; rfl) | (obtain ⟨_, _, _, e, _⟩ := h; rw [e]; rfl) | (obtain ⟨_, _, _, _, e, _⟩ := h; rw [e]; rfl) | (obtain ⟨_, _, _, _, _, e, _⟩ := h; rw [e]; rfl) | (obtain ⟨_, _, _, _, _, _, e, _⟩ := h; rw [e]; rfl) | (obtain ⟨_, _, _, _, _, _, _, e, _⟩ := h; rw [e]; rfl) | (obtain ⟨_, _, _, _, _, _, _, _, e, _⟩ := h; rw [e]; rfl) | (obtain ⟨_, _, _, _, _, _, _, _, _, e, _⟩ := h; rw [e]; rfl) | (obtain ⟨_, _, _, _, _, _, _, _, _, _, e, _⟩ := h; rw [e]; rfl) | (obtain ⟨_, _, _, _, _, _, _, _, _, _, _, e, _⟩ := h; rw [e]; rfl) | (obtain ⟨_, _, _, _, _, _, _, _, _, _, _, _, e, _⟩ := h; rw [e]; rfl) | (obtain ⟨_, _, _, _, _, _, _, _, _, _, _, _, _, e, _⟩ := h; rw [e]; rfl) | (obtain ⟨_, _, _, _, _, _, _, _, _, _, _, _, _, _, e, _⟩ := h; rw [e]; rfl) | (obtain ⟨_, _, _, _, _, _, _, _, _, _, _, _, _, _, _, e, _⟩ := h; rw [e]; rfl)))
local macro_rules
  | `(tactic| walk_at "nf") => `(tactic| try simp only [L2.start, List.map_cons, List.map_nil, List.length_cons, List.length_nil, List.drop_succ_cons, List.drop_zero, List.replicate_succ, List.replicate_zero, List.cons_append, List.nil_append, List.set_cons_succ, List.set_cons_zero, Nat.reduceAdd, Nat.reduceSub])
abbrev s_check_flows : Stmt := top 15
abbrev N_check_flows : List Str := ["plant", "flows", "names", "name"]
theorem sc_check_flows : FnScope N_check_flows ["plant", "flows"] (defScope s_check_flows) := ⟨rfl, rfl, rfl, by decide +kernel, rfl, by decide +kernel, by decide +kernel⟩
def sp_check_flows (K : PySem.W.Frag) (z : Ad) : Sp := fun vs H Q _ => ∃ (a b : Addr) (p : Pl) (f : Str → Int), vs = [.ref a, .ref b] ∧ PlAt z.C H a p ∧ H b = some (dk p.names (fl f)) ∧ ∀ H', Same H H' → Q .non H'
theorem ok_check_flows {P : Program} {w : World} {K : PySem.W.Frag} {mg : Str → Option Value} {base : Heap} {z : Ad} (T : Bi mg) (Z : Cx3 K z.C z.CM z.CR) (D : Df K mg "check_flows" s_check_flows ["plant", "flows"]) (c_Plant_stream_names : Met P w K mg base 1 z.C "stream_names" (sp_Plant_stream_names K z) []) : Cal P w K mg base 2 "check_flows" (sp_check_flows K z) [] := by
  have nd := sc_check_flows.nd
  refine cal_mk D sc_check_flows (by walk_at "len") (fun cdv A outer s H vs Q E f hr h => ⟨_, (pss_cons (ps_set (i := 2) nd rfl (.inl rfl) (pe_mt0 c_Plant_stream_names hr (by decide) (pv 0)))
    (pss_one (ps_for PassesOwn.never rfl (pi_list (pe_callB (cr_sortedSetS rfl) (by rfl) T.b_sorted (by decide +kernel) (pa_cons (pe_callTy (cr_setOf rfl) (by rfl) T.b_set (by decide +kernel) (pa_cons (pe_op op_cat (pv 2) (pe_callTy (cr_listDk rfl) (by rfl) T.b_list (by decide +kernel) (pa_cons (pv 1) pa_nil))) pa_nil)) pa_nil))) (pg_name (i := 3) nd rfl (.inl rfl))
    (pss_one (ps_if (PW.pt (pw_or (pt_cmpR (op_notInK (K := K) rfl) (pv 3) (pv 2) rfl) (pw_or1 (pt_cmp (pc_dnotin (hu_of hr) (pv 3) (pv 1))))))
    (pss_one ps_never) pss_nil))))), ?_⟩)
  obtain ⟨a, b, p, f, rfl, hP, hb, k⟩ := h
  have hlen : p.names.length ≤ 30 := by unfold Pl.names; rw [List.length_map]; exact hP.1.sl
  walk_at "go"
  refine g_pnames rfl hP fun D H1 hD s1 e1 => ?_
  walk_at "go"
  refine g_listD (.inl (s1 _ _ hb)) fun q H2 hq s2 e2 => ?_
  refine g_cat (s2 _ _ e1) e2 (by rw [List.length_map]; omega) fun r H3 hr3 s3 e3 => ?_
  walk_at "go"
  refine g_setOf (ks := p.names ++ p.names) (by rw [e3]; unfold ls; rw [List.map_append]) (by rw [List.length_append]; omega) fun c l H4 lnd lm hc s4 e4 => ?_
  walk_at "go"
  have hlt : l.length < 64 := by
    have h1 : l.Perm p.names := (List.perm_ext_iff_of_nodup lnd hP.1.nm).mpr fun x => by rw [lm x, List.mem_append, or_self]
    have := h1.length_eq
    omega
  refine g_sortSet e4 hlt fun ys u H5 py hu s5 eu => ?_
  have eD := s5 _ _ (s4 _ _ (s3 _ _ (s2 _ _ e1)))
  have s6 : Same H H5 := L2.Same.trans s1 (L2.Same.trans s2 (L2.Same.trans s3 (L2.Same.trans s4 s5)))
  refine kFor_run ys V.str (SqL.of eu) (fun d σ' H' => H' = H5 ∧ ∃ y, σ' = [some (.ref a), some (.ref b), some (.ref D), y]) ⟨rfl, none, rfl⟩ (fun d σ' H' ⟨e, _⟩ => by rw [e]; exact SqL.of eu) (fun d y r σ' H' hL hP' => ?_) (fun σ' H' hP' => ?_)
  · obtain ⟨rfl, w, rfl⟩ := hP'
    have hy : y ∈ p.names := by
      have h1 : y ∈ ys := by rw [hL]; exact List.mem_append_right _ List.mem_cons_self
      have h2 := (lm y).mp (py.mem_iff.mp h1)
      rw [List.mem_append, or_self] at h2
      exact h2
    refine g_name ?_
    walk_at "go"
    refine g_ninS eD ?_
    walk_at "go"
    refine g_iteNF hy ?_
    walk_at "go"
    refine g_knin (.inl (s6 _ _ hb)) ?_
    walk_at "go"
    refine g_iteNF hy ?_
    walk_at "go"
    exact ⟨rfl, _, rfl⟩
  · obtain ⟨rfl, _⟩ := hP'
    exact k _ s6
theorem lacks_step (g : Str → Int) (tl hd : Str) (a m : Int) (hm : m = if hd = tl then g tl - a else g hd) (y : Str) :
    fup (fup (fl g) tl (.int (g tl - a))) hd (.int (m + a)) y = V.int (g y + ((if hd = y then a else 0) - (if tl = y then a else 0))) := by
  unfold fup fl
  grind
abbrev s_lacks : Stmt := top 16
abbrev N_lacks : List Str := ["plant", "flows", "found", "name", "tail", "head", "_", "knot"]
theorem sc_lacks : FnScope N_lacks ["plant", "flows"] (defScope s_lacks) := ⟨rfl, rfl, rfl, by decide +kernel, rfl, by decide +kernel, by decide +kernel⟩
def sp_lacks (K : PySem.W.Frag) (z : Ad) : Sp := fun vs H Q _ => ∃ (a b : Addr) (p : Pl) (f : Str → Int), vs = [.ref a, .ref b] ∧ PlAt z.C H a p ∧ H b = some (dk p.names (fl f)) ∧
  ∀ D H', H D = none → Same H H' → H' D = some (dk p.kn (fl (netOf p.ss f))) → Q (.ref D) H'
theorem ok_lacks {P : Program} {w : World} {K : PySem.W.Frag} {mg : Str → Option Value} {base : Heap} {z : Ad} (T : Bi mg) (Z : Cx3 K z.C z.CM z.CR) (D : Df K mg "lacks" s_lacks ["plant", "flows"]) (c_Plant_knots : Prp P w K mg base 1 z.C "knots" (sp_Plant_knots K z)) (c_Plant_streams : Prp P w K mg base 1 z.C "streams" (sp_Plant_streams K z)) (c_check_flows : Cal P w K mg base 2 "check_flows" (sp_check_flows K z) []) : Cal P w K mg base 3 "lacks" (sp_lacks K z) [] := by
  have nd := sc_lacks.nd
  refine cal_mk D sc_lacks (by walk_at "len") (fun cdv A outer s H vs Q E f hr h => ⟨_, (pss_cons (ps_expr (pe_c c_check_flows hr (by decide) (by rfl) (pa_cons (pv 0) (pa_cons (pv 1) pa_nil))))
    (pss_cons (ps_setDc (i := 2) (own := [("knot", 7)]) rfl nd rfl rfl (sw_trueD rfl rfl rfl (by decide +kernel)) (pi_list (pe_pr c_Plant_knots hr (by decide) (pv 0) rfl)) (blkOk_by (own := [("knot", 7)]) (N := N_lacks) (sc := defScope s_lacks) (by decide +kernel)) (fun _ _ _ _ _ => (pg_name (i := 7) nd rfl (.inl rfl))) (fun _ _ _ _ _ => pts_nil) (fun _ _ _ _ _ => (pv 7)) (fun _ _ _ _ _ => pe_int))
    (pss_cons (ps_for PassesOwn.never rfl (pi_list (pe_pr c_Plant_streams hr (by decide) (pv 0) rfl)) (pg_tupK (K := K) (n := 5) rfl rfl (pgs_cons (pg_name (i := 3) nd rfl (.inl rfl)) (pgs_cons (pg_name (i := 4) nd rfl (.inl rfl)) (pgs_cons (pg_name (i := 5) nd rfl (.inl rfl)) (pgs_cons (pg_name (i := 6) nd rfl (.inl rfl)) (pgs_cons (pg_name (i := 6) nd rfl (.inl rfl)) pgs_nil))))))
    (pss_cons (ps_daug (hu_of hr) (pv 2) (pv 4) (pe_dget (hu_of hr) (pv 1) (pv 3) (fun _ _ => rfl)) in_sub (fun _ _ _ => rfl))
    (pss_one (ps_daug (hu_of hr) (pv 2) (pv 5) (pe_dget (hu_of hr) (pv 1) (pv 3) (fun _ _ => rfl)) in_add (fun _ _ _ => rfl)))))
    (pss_one (ps_ret (pv 2)))))), ?_⟩)
  obtain ⟨a, b, p, f, rfl, hP, hb, k⟩ := h
  walk_at "go"
  refine ⟨a, b, p, f, rfl, hP, hb, fun H1 s1 => ?_⟩
  walk_at "go"
  refine g_pknots rfl (hP.mono s1) fun D0 H2 hD0 s2 e2 => ?_
  refine kDc_run p.kn V.str (SqL.of e2) (by have := hP.1.kl; omega) id (by rw [List.map_id]; exact hP.1.kn) (fun _ => true) (fl fun _ => 0) (fun y hy H3 s3 C c1 c2 => ?_) (fun D H3 hD s3 e3 => ?_)
  · refine g_name ⟨rfl, ?_⟩
    walk_at "go"
    exact c1 H3 (Same.refl _) rfl
  have s03 : Same H H3 := L2.Same.trans s1 (L2.Same.trans s2 s3)
  have hDn : H D = none := by
    cases q : H D with
    | none => rfl
    | some o => rw [L2.Same.trans s1 s2 _ _ q] at hD; cases hD
  have e3' : H3 D = some (dk p.kn (fl (netOf [] f))) := by
    rw [e3, List.filter_eq_self.mpr (fun _ _ => rfl), List.map_id]
    rfl
  walk_at "go"
  refine g_pstreams rfl (hP.mono s03) fun as H4 has s4 ⟨L, hL, eL, hT⟩ => ?_
  rw [rf_fst] at eL
  have nas : as ≠ D := fun q => by rw [q, e3] at has; cases has
  have s04 := L2.Same.trans s03 s4
  refine kFor_run L fst (SqL.of eL) (fun d σ' H' => But [D] H4 H' ∧ H' D = some (dk p.kn (fl (netOf (d.map (·.2)) f))) ∧ ∃ y3 y4 y5 y6, σ' = [some (.ref a), some (.ref b), some (.ref D), y3, y4, y5, y6, none])
    ⟨But.refl _ _, s4 _ _ e3', none, none, none, none, rfl⟩ (fun d σ' H' ⟨bt, _⟩ => SqL.of (bt _ _ (by simpa using nas) eL)) (fun d q r σ' H' hL' hI => ?_) (fun σ' H' hI => ?_)
  · obtain ⟨bt, eD, y3, y4, y5, y6, rfl⟩ := hI
    have hq : q ∈ L := by rw [hL']; exact List.mem_append_right _ List.mem_cons_self
    have hm : q.2 ∈ p.ss := by rw [← hL]; exact List.mem_map.mpr ⟨q, hq, rfl⟩
    have nq : q.1 ≠ D := ne_of (hT q hq) (s4 _ _ e3) (by intro z; cases z)
    have hnm : q.2.nm ∈ p.names := List.mem_map.mpr ⟨_, hm, rfl⟩
    have nb : b ≠ D := fun z => by rw [← z, hb] at hDn; cases hDn
    have hbx : ∀ {H''}, But [D] H4 H'' → Rd H'' b (dk p.names (fl f)) := fun bt => .inl (bt _ _ (by simpa using nb) (s04 _ _ hb))
    refine g_stm (bt _ _ (by simpa using nq) (hT q hq)) ?_
    walk_at "go"
    refine g_kget2 (.inl eD) (hP.1.tl _ hm) ?_
    walk_at "go"
    refine g_kget (hbx bt) hnm ?_
    refine g_rSub ?_
    refine g_kput2 eD (by have := hP.1.kl; omega) ?_
    have bt2 := bt.trans (But.upd (l := [D]) (p := D) (H := H') (o := dk (ins p.kn q.2.tl) (fup (fl (netOf (d.map (·.2)) f)) q.2.tl (.int (netOf (d.map (·.2)) f q.2.tl - f q.2.nm)))) (by simp))
    walk_at "go"
    refine g_kget2 (.inl upd_same) (by rw [ins_old (hP.1.tl _ hm)]; exact hP.1.hd _ hm) ?_
    walk_at "go"
    refine g_kget (hbx bt2) hnm ?_
    have hval : ∃ m : Int, fup (fl (netOf (d.map (·.2)) f)) q.2.tl (.int (netOf (d.map (·.2)) f q.2.tl - f q.2.nm)) q.2.hd = .int m ∧ m = (if q.2.hd = q.2.tl then netOf (d.map (·.2)) f q.2.tl - f q.2.nm else netOf (d.map (·.2)) f q.2.hd) := by
      unfold fup
      by_cases z : q.2.hd = q.2.tl
      · rw [if_pos z]; exact ⟨_, rfl, by rw [if_pos z]⟩
      · rw [if_neg z]; exact ⟨_, rfl, by rw [if_neg z]⟩
    obtain ⟨m, em, hm2⟩ := hval
    rw [em]
    refine g_rAdd ?_
    refine g_kput2 upd_same (by rw [ins_old (hP.1.tl _ hm)]; have := hP.1.kl; omega) ?_
    refine ⟨bt2.trans (But.upd (by simp)), ?_, _, _, _, _, rfl⟩
    rw [upd_same, ins_old (hP.1.tl _ hm), ins_old (hP.1.hd _ hm)]
    congr 1
    refine dk_congr fun y hy => ?_
    rw [List.map_append]
    show _ = V.int (netOf (d.map (·.2) ++ [q.2]) f y)
    rw [netOf_snoc]
    exact lacks_step (netOf (d.map (·.2)) f) q.2.tl q.2.hd (f q.2.nm) m hm2 y
  · obtain ⟨bt, eD, y3, y4, y5, y6, rfl⟩ := hI
    rw [hL] at eD
    walk_at "go"
    exact k D H' hDn (bt.same s04 (by intro x hx; rw [List.mem_singleton.mp hx]; exact hDn)) eD
abbrev s_lines_of : Stmt := top 18
abbrev N_lines_of : List Str := ["plant", "name", "tail", "head", "_"]
theorem sc_lines_of : FnScope N_lines_of ["plant"] (defScope s_lines_of) := ⟨rfl, rfl, rfl, by decide +kernel, rfl, by decide +kernel, by decide +kernel⟩
def Stm.ln (s : Stm) : Ln := ⟨s.nm, s.tl, s.hd⟩
def Pl.lines (p : Pl) : List Ln := (p.ss.filter fun s => decide (s.tl ≠ s.hd)).map Stm.ln
def sp_lines_of (K : PySem.W.Frag) (z : Ad) : Sp := fun vs H Q _ => ∃ (a : Addr) (p : Pl), vs = [.ref a] ∧ PlAt z.C H a p ∧ ∀ D H', H D = none → Same H H' → Tups Ln.row H' D p.lines → Q (.ref D) H'
theorem ok_lines_of {P : Program} {w : World} {K : PySem.W.Frag} {mg : Str → Option Value} {base : Heap} {z : Ad} (T : Bi mg) (Z : Cx3 K z.C z.CM z.CR) (D : Df K mg "lines_of" s_lines_of ["plant"]) (c_Plant_streams : Prp P w K mg base 1 z.C "streams" (sp_Plant_streams K z)) : Cal P w K mg base 3 "lines_of" (sp_lines_of K z) [] := by
  have nd := sc_lines_of.nd
  refine cal_mk D sc_lines_of (by walk_at "len") (fun cdv A outer s H vs Q E f hr h => ⟨_, (pss_one (ps_ret (pe_lc (own := [("name", 1), ("tail", 2), ("head", 3), ("_", 4)]) rfl nd (pi_list (pe_pr c_Plant_streams hr (by decide) (pv 0) rfl)) (blkOk_by (own := [("name", 1), ("tail", 2), ("head", 3), ("_", 4)]) (N := N_lines_of) (sc := defScope s_lines_of) (by decide +kernel)) (fun _ _ _ _ _ => (pg_tupK (K := K) (n := 5) rfl rfl (pgs_cons (pg_name (i := 1) nd rfl (.inl rfl)) (pgs_cons (pg_name (i := 2) nd rfl (.inl rfl)) (pgs_cons (pg_name (i := 3) nd rfl (.inl rfl)) (pgs_cons (pg_name (i := 4) nd rfl (.inl rfl)) (pgs_cons (pg_name (i := 4) nd rfl (.inl rfl)) pgs_nil))))))) (fun _ _ _ _ _ => pts_one (pt_cmpR op_ne (pv 2) (pv 3) (nomark _))) (fun _ _ _ _ _ => (pe_tup (pa_cons (pv 1) (pa_cons (pv 2) (pa_cons (pv 3) pa_nil)))))))), ?_⟩)
  obtain ⟨a, p, rfl, hP, k⟩ := h
  walk_at "go"
  refine g_pstreams rfl hP fun as H4 has s4 ⟨L, hL, eL, hT⟩ => ?_
  rw [rf_fst] at eL
  have hlen : L.length ≤ 30 := by have := hP.1.sl; rw [← hL, List.length_map] at this; exact this
  refine kLc_tups L fst (fun q => decide (q.2.tl ≠ q.2.hd)) (fun q => q.2.ln) Ln.row (SqL.of eL) (by omega) (fun q hq H1 s1 C c1 c2 => ?_) (fun D H1 hD s1 e => ?_)
  · refine g_stm (s1 _ _ (hT q hq)) ?_
    walk_at "go"
    refine ⟨rfl, ?_⟩
    walk_at "go"
    refine g_iteN (fun hn => ?_) (fun hn => ?_)
    · walk_at "go"
      exact g_newT (by simp) fun r H2 hr2 s2 e2 => c2 r H2 s2 (decide_eq_true hn) e2
    · exact c1 H1 (Same.refl _) (decide_eq_false (by simpa using hn))
  · refine k D H1 ?_ (L2.Same.trans s4 s1) ?_
    · cases q : H D with
      | none => rfl
      | some o => rw [s4 _ _ q] at hD; cases hD
    · unfold Pl.lines
      rw [← hL, List.filter_map, List.map_map]
      exact e

end Mh
set_option Elab.async false
set_option linter.all false
set_option maxRecDepth 100000
set_option maxHeartbeats 4000000
/-! M4: feasible flows; what is missing; ranges. -/
namespace Mh
open PySem PySem.Spec PyProof.Rows L2
def linesOf (ss : List Stm) : List Ln := (ss.filter fun s => decide (s.tl ≠ s.hd)).map Stm.ln
theorem Pl.lines_eq (p : Pl) : p.lines = linesOf p.ss := rfl
theorem net_lines (f : Str → Int) (k : Str) : ∀ ss : List Stm, netL (linesOf ss) f k = netOf ss f k
  | [] => rfl
  | s :: r => by
    have ih := net_lines f k r
    have e : netOf (s :: r) f k = ((if s.hd = k then f s.nm else 0) - (if s.tl = k then f s.nm else 0)) + netOf r f k := by
      unfold netOf
      rw [List.map_cons, List.sum_cons]
    rw [e, ← ih]
    unfold linesOf netL
    by_cases z : s.tl = s.hd
    · rw [List.filter_cons, if_neg (by simpa using z), z]
      omega
    · rw [List.filter_cons, if_pos (by simpa using z), List.map_cons, List.map_cons, List.sum_cons]
      rfl
theorem net_cut (n : Str) (f : Str → Int) (k : Str) : ∀ (ss : List Stm), (ss.map (·.nm)).Nodup → ∀ s ∈ ss, s.nm = n →
    netOf ss f k = netOf (ss.filter fun s => decide (s.nm ≠ n)) f k + ((if s.hd = k then f n else 0) - (if s.tl = k then f n else 0))
  | a :: r, hn, s, hs, e => by
    rw [List.map_cons, List.nodup_cons] at hn
    have e1 : ∀ a r, netOf (a :: r) f k = ((if a.hd = k then f a.nm else 0) - (if a.tl = k then f a.nm else 0)) + netOf r f k := fun a r => by
      unfold netOf
      rw [List.map_cons, List.sum_cons]
    rcases List.mem_cons.mp hs with z | z
    · subst z
      have hr : r.filter (fun s => decide (s.nm ≠ n)) = r := List.filter_eq_self.mpr fun x hx => decide_eq_true fun q => hn.1 (by rw [e, ← q]; exact List.mem_map.mpr ⟨x, hx, rfl⟩)
      rw [List.filter_cons, if_neg (by simpa using e), hr, e1, e]
      omega
    · have hne : a.nm ≠ n := fun q => hn.1 (by rw [q, ← e]; exact List.mem_map.mpr ⟨s, z, rfl⟩)
      rw [List.filter_cons, if_pos (by simpa using hne), e1, e1, net_cut n f k r hn.2 s z e]
      omega
theorem lines_but (n : Str) (ss : List Stm) : (linesOf ss).filter (fun l => decide (l.nm ≠ n)) = linesOf (ss.filter fun s => decide (s.nm ≠ n)) := by
  unfold linesOf
  rw [List.filter_map, List.filter_filter, List.filter_filter]
  congr 1
  refine List.filter_congr fun s _ => ?_
  exact Bool.and_comm _ _
theorem lines_nd {ss : List Stm} (h : (ss.map (·.nm)).Nodup) : ((linesOf ss).map (·.nm)).Nodup := by
  unfold linesOf
  rw [List.map_map]
  exact List.Nodup.sublist (List.Sublist.map _ List.filter_sublist) h
theorem lines_mem {ss : List Stm} {l : Ln} (h : l ∈ linesOf ss) : ∃ s ∈ ss, s.tl ≠ s.hd ∧ l = s.ln := by
  obtain ⟨s, hs, e⟩ := List.mem_map.mp h
  obtain ⟨h1, h2⟩ := List.mem_filter.mp hs
  exact ⟨s, h1, of_decide_eq_true h2, e.symm⟩
theorem lines_len (ss : List Stm) : (linesOf ss).length ≤ ss.length := by
  unfold linesOf
  rw [List.length_map]
  exact List.length_filter_le _ _
def Bd (p : Pl) (lo hi f : Str → Int) : Prop := ∀ n ∈ p.names, lo n ≤ f n ∧ f n ≤ hi n
def Bal (p : Pl) (f : Str → Int) : Prop := ∀ k ∈ p.kn, netOf p.ss f k = 0
def Feas (p : Pl) (lo hi f : Str → Int) : Prop := Bd p lo hi f ∧ Bal p f
def mis (p : Pl) (f : Str → Int) : Int := (p.kn.map fun k => if -netOf p.ss f k > 0 then -netOf p.ss f k else 0).sum
section
variable {p : Pl} {lo hi f g : Str → Int}
theorem ln_ends (ok : p.Ok) {ss : List Stm} (hs : ∀ s ∈ ss, s ∈ p.ss) : ∀ l ∈ linesOf ss, l.tl ∈ p.kn ∧ l.hd ∈ p.kn := fun l hl => by
  obtain ⟨s, h1, _, e⟩ := lines_mem hl
  subst e
  exact ⟨ok.tl s (hs s h1), ok.hd s (hs s h1)⟩
theorem ln_names {l : Ln} (hl : l ∈ p.lines) : l.nm ∈ p.names := by
  obtain ⟨s, h1, _, e⟩ := lines_mem hl
  subst e
  exact List.mem_map.mpr ⟨s, h1, rfl⟩
theorem filt_mem (kn : List Str) : (kn.filter fun k => decide (k ∈ kn)) = kn := List.filter_eq_self.mpr fun _ h => decide_eq_true h
theorem net_total (ok : p.Ok) (f : Str → Int) : (p.kn.map (netOf p.ss f)).sum = 0 := by
  have h := cut_sum ok.kn p.kn f p.lines (ln_ends ok fun _ h => h)
  have e : netL p.lines f = netOf p.ss f := funext fun k => net_lines f k p.ss
  rw [filt_mem, e] at h
  rw [h]
  refine sum_zero _ _ fun l hl => ?_
  obtain ⟨h1, h2⟩ := ln_ends ok (fun _ h => h) l hl
  rw [if_pos h1, if_pos h2]
  omega
theorem mis_pos (k : Str) : 0 ≤ if -netOf p.ss f k > 0 then -netOf p.ss f k else 0 := by split <;> omega
theorem mis_zero (ok : p.Ok) (h : mis p f ≤ 0) : Bal p f := by
  have h1 := sum_pos p.kn _ (fun k _ => mis_pos (p := p) (f := f) k) h
  have h2 : ∀ k ∈ p.kn, 0 ≤ netOf p.ss f k := fun k hk => by
    have := h1 k hk
    split at this <;> omega
  exact sum_pos p.kn _ h2 (by rw [net_total ok]; exact Int.le_refl _)
theorem bnd_lines (h : Bd p lo hi f) : ∀ l ∈ p.lines, lo l.nm ≤ f l.nm ∧ f l.nm ≤ hi l.nm := fun l hl => h _ (ln_names hl)
/-- no way from where there is too much to where something is missing: what is missing shows that there are no flows -/
theorem mis_end (ok : p.Ok) {over short : List Str} (ho : ∀ k, k ∈ over ↔ k ∈ p.kn ∧ 0 < netOf p.ss f k) (hs : ∀ k, k ∈ short ↔ k ∈ p.kn ∧ netOf p.ss f k < 0) (nw : NoWay (arcsOf p.lines lo hi f) over short) (hm : 0 < mis p f) : ¬ Feas p lo hi g := by
  rintro ⟨gb, gn⟩
  obtain ⟨R, r1, r2, r3⟩ := nw
  have e : ∀ h, netL p.lines h = netOf p.ss h := fun h => funext fun k => net_lines h k p.ss
  have c1 := cut_le r3 (bnd_lines gb)
  rw [← cut_sum ok.kn R f p.lines (ln_ends ok fun _ h => h), ← cut_sum ok.kn R g p.lines (ln_ends ok fun _ h => h), e, e] at c1
  rw [sum_zero _ (netOf p.ss g) fun k hk => gn k (List.mem_filter.mp hk).1] at c1
  have c2 := sum_pos _ _ (fun k hk => by
    obtain ⟨h1, h2⟩ := List.mem_filter.mp hk
    by_cases z : netOf p.ss f k < 0
    · exact absurd (of_decide_eq_true h2) (r2 k ((hs k).mpr ⟨h1, z⟩))
    · omega) c1
  have c3 : ∀ k ∈ p.kn, netOf p.ss f k ≤ 0 := fun k hk => by
    by_cases z : 0 < netOf p.ss f k
    · have := c2 k (List.mem_filter.mpr ⟨hk, decide_eq_true (r1 k ((ho k).mpr ⟨hk, z⟩))⟩)
      omega
    · omega
  have c4 := sum_pos p.kn (fun k => 0 - netOf p.ss f k) (fun k hk => by have := c3 k hk; omega) (by
    rw [sum_sub, net_total ok, sum_zero _ _ fun _ _ => rfl]
    decide)
  have c5 : mis p f = 0 := sum_zero _ _ fun k hk => by
    have := c4 k hk
    rw [if_neg (by omega)]
  omega
theorem mis_push (ok : p.Ok) {s e : Str} {m : Int} {f' : Str → Int} (hs : s ∈ p.kn) (he : e ∈ p.kn) (h0 : 1 ≤ m) (h1 : m ≤ netOf p.ss f s) (h2 : m ≤ -netOf p.ss f e) (hn : ∀ k, netOf p.ss f' k = netOf p.ss f k + ((if e = k then m else 0) - (if s = k then m else 0))) :
    mis p f' = mis p f - m := by
  have h := sum_pick p.kn p.kn ok.kn e he m
  rw [filt_mem, if_pos he] at h
  unfold mis
  rw [← h, ← sum_sub]
  refine sum_cong _ _ _ fun k hk => ?_
  rw [hn k]
  by_cases z1 : e = k
  · by_cases z2 : s = k
    · rw [z2] at h1; rw [z1] at h2; omega
    · simp only [if_pos z1, if_neg z2]
      rw [z1] at h2
      split <;> split <;> omega
  · by_cases z2 : s = k
    · simp only [if_neg z1, if_pos z2]
      rw [z2] at h1
      split <;> split <;> omega
    · simp only [if_neg z1, if_neg z2]
      split <;> split <;> omega
theorem mis_ge {m : Int} {e : Str} (he : e ∈ p.kn) (h2 : m ≤ -netOf p.ss f e) : m ≤ mis p f := by
  unfold mis
  have : ∀ (L : List Str), e ∈ L → m ≤ (L.map fun k => if -netOf p.ss f k > 0 then -netOf p.ss f k else 0).sum := by
    intro L
    induction L with
    | nil => intro h; cases h
    | cons a r ih =>
      intro h
      rw [List.map_cons, List.sum_cons]
      have h0 := mis_pos (p := p) (f := f) a
      have hr : 0 ≤ (r.map fun k => if -netOf p.ss f k > 0 then -netOf p.ss f k else 0).sum := by
        have := sum_le r (fun _ => (0 : Int)) _ fun k _ => mis_pos (p := p) (f := f) k
        rw [sum_zero _ _ fun _ _ => rfl] at this
        exact this
      rcases List.mem_cons.mp h with z | z
      · subst z
        split <;> omega
      · have := ih z
        omega
  exact this _ he
/-! ### ranges -/
structure IsRg (p : Pl) (lo hi : Str → Int) (n : Str) (l h : Int) : Prop where
  atL : ∃ f, Feas p lo hi f ∧ f n = l
  atH : ∃ f, Feas p lo hi f ∧ f n = h
  bd : ∀ g, Feas p lo hi g → l ≤ g n ∧ g n ≤ h
def Pl.but (p : Pl) (n : Str) : List Ln := p.lines.filter fun l => decide (l.nm ≠ n)
theorem but_nd (ok : p.Ok) (n : Str) : ((p.but n).map (·.nm)).Nodup := List.Nodup.sublist (List.Sublist.map _ List.filter_sublist) (lines_nd ok.nm)
theorem but_net (ok : p.Ok) {s : Stm} (hs : s ∈ p.ss) (h : Str → Int) (k : Str) : netOf p.ss h k = netL (p.but s.nm) h k + ((if s.hd = k then h s.nm else 0) - (if s.tl = k then h s.nm else 0)) := by
  unfold Pl.but
  rw [Pl.lines_eq, lines_but, net_lines]
  exact net_cut s.nm h k p.ss ok.nm s hs rfl
theorem but_mem {n : Str} {l : Ln} (h : l ∈ p.but n) : l ∈ p.lines ∧ l.nm ≠ n := by
  obtain ⟨h1, h2⟩ := List.mem_filter.mp h
  exact ⟨h1, of_decide_eq_true h2⟩
theorem but_same {n : Str} {v : Int} (h : Str → Int) (k : Str) : netL (p.but n) (fup h n v) k = netL (p.but n) h k := net_same (fun l hl => by
  unfold fup
  rw [if_neg (but_mem hl).2]) k
/-- flows changed on the other lines, and at the stream itself -/
theorem rg_feas (ok : p.Ok) {s : Stm} (hs : s ∈ p.ss) (hf : Feas p lo hi f) {f1 : Str → Int} {x : Int} (hb : ∀ l ∈ p.but s.nm, lo l.nm ≤ f1 l.nm ∧ f1 l.nm ≤ hi l.nm) (hx : ∀ y, y ∉ (p.but s.nm).map (·.nm) → f1 y = f y) (hx1 : lo s.nm ≤ x) (hx2 : x ≤ hi s.nm)
    (hn : ∀ k, netL (p.but s.nm) f1 k = netL (p.but s.nm) f k + ((if s.hd = k then f s.nm - x else 0) - (if s.tl = k then f s.nm - x else 0))) : Feas p lo hi (fup f1 s.nm x) := by
  constructor
  · intro y hy
    unfold fup
    by_cases z : y = s.nm
    · rw [if_pos z, z]; exact ⟨hx1, hx2⟩
    · rw [if_neg z]
      by_cases q : y ∈ (p.but s.nm).map (·.nm)
      · obtain ⟨l, hl, e⟩ := List.mem_map.mp q
        rw [← e]; exact hb l hl
      · rw [hx y q]; exact hf.1 y hy
  · intro k hk
    have h1 := hf.2 k hk
    rw [but_net ok hs] at h1 ⊢
    rw [but_same, hn]
    unfold fup
    rw [if_pos rfl]
    split <;> split <;> simp_all <;> omega
theorem rg_low (ok : p.Ok) {s : Stm} (hs : s ∈ p.ss) (hf : Feas p lo hi f) {f1 : Str → Int} {x : Int} (hf1 : Feas p lo hi (fup f1 s.nm x)) (nw : NoWay (arcsOf (p.but s.nm) lo hi f1) [s.tl] [s.hd]) (hg : Feas p lo hi g) : x ≤ g s.nm := by
  obtain ⟨R, r1, r2, r3⟩ := nw
  have m1 := r1 s.tl List.mem_cons_self
  have m2 := r2 s.hd List.mem_cons_self
  have c := cut_le r3 (h := g) fun l hl => bnd_lines hg.1 l (but_mem hl).1
  have hend : ∀ l ∈ p.but s.nm, l.tl ∈ p.kn ∧ l.hd ∈ p.kn := fun l hl => ln_ends ok (fun _ h => h) l (but_mem hl).1
  have key : ∀ h, Bal p h → cutL (p.but s.nm) h R = h s.nm := fun h hb => by
    rw [← cut_sum ok.kn R h _ hend]
    have e : ∀ k ∈ p.kn.filter (fun k => decide (k ∈ R)), netL (p.but s.nm) h k = 0 - ((if s.hd = k then h s.nm else 0) - (if s.tl = k then h s.nm else 0)) := fun k hk => by
      have h1 := hb k (List.mem_filter.mp hk).1
      rw [but_net ok hs] at h1
      omega
    rw [sum_cong _ _ _ e, sum_sub, sum_sub, sum_pick _ _ ok.kn _ (ok.hd s hs), sum_pick _ _ ok.kn _ (ok.tl s hs), sum_zero _ _ fun _ _ => rfl, if_neg m2, if_pos m1]
    omega
  have k1 := key _ hf1.2
  have k2 := key _ hg.2
  have k3 : cutL (p.but s.nm) (fup f1 s.nm x) R = cutL (p.but s.nm) f1 R := sum_cong _ _ _ fun l hl => by
    unfold fup
    rw [if_neg (but_mem hl).2]
  rw [k3] at k1
  rw [k1, k2] at c
  unfold fup at c
  rw [if_pos rfl] at c
  exact c
theorem rg_high (ok : p.Ok) {s : Stm} (hs : s ∈ p.ss) (hf : Feas p lo hi f) {f1 : Str → Int} {x : Int} (hf1 : Feas p lo hi (fup f1 s.nm x)) (nw : NoWay (arcsOf (p.but s.nm) lo hi f1) [s.hd] [s.tl]) (hg : Feas p lo hi g) : g s.nm ≤ x := by
  obtain ⟨R, r1, r2, r3⟩ := nw
  have m1 := r1 s.hd List.mem_cons_self
  have m2 := r2 s.tl List.mem_cons_self
  have c := cut_le r3 (h := g) fun l hl => bnd_lines hg.1 l (but_mem hl).1
  have hend : ∀ l ∈ p.but s.nm, l.tl ∈ p.kn ∧ l.hd ∈ p.kn := fun l hl => ln_ends ok (fun _ h => h) l (but_mem hl).1
  have key : ∀ h, Bal p h → cutL (p.but s.nm) h R = -h s.nm := fun h hb => by
    rw [← cut_sum ok.kn R h _ hend]
    have e : ∀ k ∈ p.kn.filter (fun k => decide (k ∈ R)), netL (p.but s.nm) h k = 0 - ((if s.hd = k then h s.nm else 0) - (if s.tl = k then h s.nm else 0)) := fun k hk => by
      have h1 := hb k (List.mem_filter.mp hk).1
      rw [but_net ok hs] at h1
      omega
    rw [sum_cong _ _ _ e, sum_sub, sum_sub, sum_pick _ _ ok.kn _ (ok.hd s hs), sum_pick _ _ ok.kn _ (ok.tl s hs), sum_zero _ _ fun _ _ => rfl, if_neg m2, if_pos m1]
    omega
  have k1 := key _ hf1.2
  have k2 := key _ hg.2
  have k3 : cutL (p.but s.nm) (fup f1 s.nm x) R = cutL (p.but s.nm) f1 R := sum_cong _ _ _ fun l hl => by
    unfold fup
    rw [if_neg (but_mem hl).2]
  rw [k3] at k1
  rw [k1, k2] at c
  unfold fup at c
  rw [if_pos rfl] at c
  omega
/-- a stream that begins where it ends: any flow between its limits -/
theorem rg_loop (ok : p.Ok) {s : Stm} (hs : s ∈ p.ss) (hl : s.tl = s.hd) (hf : Feas p lo hi f) : IsRg p lo hi s.nm (lo s.nm) (hi s.nm) := by
  have hb := hf.1 s.nm (List.mem_map.mpr ⟨s, hs, rfl⟩)
  have key : ∀ x, lo s.nm ≤ x → x ≤ hi s.nm → Feas p lo hi (fup f s.nm x) := fun x h1 h2 =>
    rg_feas ok hs hf (fun l hl => hf.1 _ (ln_names (but_mem hl).1)) (fun _ _ => rfl) h1 h2 fun k => by rw [hl]; omega
  exact ⟨⟨_, key (lo s.nm) (by omega) (by omega), by unfold fup; rw [if_pos rfl]⟩, ⟨_, key (hi s.nm) (by omega) (by omega), by unfold fup; rw [if_pos rfl]⟩, fun g hg => hg.1 _ (List.mem_map.mpr ⟨s, hs, rfl⟩)⟩
end
end Mh
set_option Elab.async false
set_option linter.all false
set_option maxRecDepth 100000
set_option maxHeartbeats 4000000
/-! M6: what hangs together by some streams. -/
namespace Mh
open PySem PySem.Spec PyProof.Rows L2
def stp1 (names : List Str) (k : Str) (s : Stm) : List Stp := if (k = s.tl ∨ k = s.hd) ∧ s.nm ∈ names then (if s.hd = k then [⟨s.nm, -1, s.tl⟩] else []) ++ (if s.tl = k then [⟨s.nm, 1, s.hd⟩] else []) else []
def stps (p : Pl) (names : List Str) (k : Str) : List Stp := p.ss.flatMap (stp1 names k)
theorem stp1_len (names : List Str) (k : Str) (s : Stm) : (stp1 names k s).length ≤ 2 := by
  unfold stp1
  split
  · split <;> split <;> simp
  · simp
theorem flat_len {α β : Type} (f : α → List β) (h : ∀ x, (f x).length ≤ 2) : ∀ L : List α, (L.flatMap f).length ≤ 2 * L.length
  | [] => Nat.le_refl _
  | a :: r => by
    have h1 := h a
    have h2 := flat_len f h r
    rw [List.flatMap_cons, List.length_append, List.length_cons]
    omega
/-- no stream of these leaves R -/
def Clo (p : Pl) (names R : List Str) : Prop := ∀ s ∈ p.ss, s.nm ∈ names → (s.tl ∈ R ↔ s.hd ∈ R)
def NoConn (p : Pl) (names : List Str) (a b : Str) : Prop := ∃ R, Clo p names R ∧ a ∈ R ∧ b ∉ R
/-- the stream named n is a bridge of these -/
def Brg (p : Pl) (names : List Str) (n : Str) : Prop := ∃ s ∈ p.ss, s.nm = n ∧ NoConn p (names.filter fun m => decide (m ≠ n)) s.tl s.hd
theorem Clo.mono {p : Pl} {n1 n2 R : List Str} (h : Clo p n1 R) (e : ∀ n ∈ n2, n ∈ n1) : Clo p n2 R := fun s hs hn => h s hs (e _ hn)
theorem Brg.mono {p : Pl} {n1 n2 : List Str} {n : Str} (h : Brg p n1 n) (e : ∀ n ∈ n2, n ∈ n1) : Brg p n2 n := by
  obtain ⟨s, hs, hn, R, h1, h2, h3⟩ := h
  exact ⟨s, hs, hn, R, h1.mono fun m hm => by
    obtain ⟨q1, q2⟩ := List.mem_filter.mp hm
    exact List.mem_filter.mpr ⟨e _ q1, q2⟩, h2, h3⟩
section
variable {p : Pl} {names : List Str}
theorem stps_mem {k : Str} {t : Stp} : t ∈ stps p names k ↔ ∃ s ∈ p.ss, s.nm ∈ names ∧ ((s.hd = k ∧ t = ⟨s.nm, -1, s.tl⟩) ∨ (s.tl = k ∧ t = ⟨s.nm, 1, s.hd⟩)) := by
  unfold stps
  rw [List.mem_flatMap]
  refine ⟨fun ⟨s, hs, h⟩ => ⟨s, hs, ?_⟩, fun ⟨s, hs, h1, h2⟩ => ⟨s, hs, ?_⟩⟩
  · unfold stp1 at h
    by_cases c : (k = s.tl ∨ k = s.hd) ∧ s.nm ∈ names
    · rw [if_pos c] at h
      refine ⟨c.2, ?_⟩
      rcases List.mem_append.mp h with q | q
      · by_cases z : s.hd = k
        · rw [if_pos z] at q; exact .inl ⟨z, List.mem_singleton.mp q⟩
        · rw [if_neg z] at q; cases q
      · by_cases z : s.tl = k
        · rw [if_pos z] at q; exact .inr ⟨z, List.mem_singleton.mp q⟩
        · rw [if_neg z] at q; cases q
    · rw [if_neg c] at h; cases h
  · unfold stp1
    rcases h2 with ⟨e1, e2⟩ | ⟨e1, e2⟩
    · rw [if_pos ⟨.inr e1.symm, h1⟩, if_pos e1, e2]
      exact List.mem_append_left _ List.mem_cons_self
    · rw [if_pos ⟨.inl e1.symm, h1⟩, if_pos e1, e2]
      exact List.mem_append_right _ List.mem_cons_self
theorem stps_back {k : Str} {t : Stp} (h : t ∈ stps p names k) : ∃ u ∈ stps p names t.to, u.to = k := by
  obtain ⟨s, hs, hn, ⟨e1, e2⟩ | ⟨e1, e2⟩⟩ := stps_mem.mp h <;> subst e2
  · exact ⟨⟨s.nm, 1, s.hd⟩, stps_mem.mpr ⟨s, hs, hn, .inr ⟨rfl, rfl⟩⟩, e1⟩
  · exact ⟨⟨s.nm, -1, s.tl⟩, stps_mem.mpr ⟨s, hs, hn, .inl ⟨rfl, rfl⟩⟩, e1⟩
theorem stps_kn (ok : p.Ok) {k : Str} {t : Stp} (h : t ∈ stps p names k) : t.to ∈ p.kn := by
  obtain ⟨s, hs, hn, ⟨e1, e2⟩ | ⟨e1, e2⟩⟩ := stps_mem.mp h <;> subst e2
  · exact ok.tl s hs
  · exact ok.hd s hs
theorem stps_clo {R : List Str} (c : Clo p names R) {k : Str} {t : Stp} (h : t ∈ stps p names k) (hk : k ∈ R) : t.to ∈ R := by
  obtain ⟨s, hs, hn, ⟨e1, e2⟩ | ⟨e1, e2⟩⟩ := stps_mem.mp h <;> subst e2
  · exact (c s hs hn).mpr (by rw [e1]; exact hk)
  · exact (c s hs hn).mp (by rw [e1]; exact hk)
/-- the levels: W the places met, lv how far they are, wt those that wait, hx the one in hand -/
structure Lvs (p : Pl) (names : List Str) (st : Str) (W : List Str) (lv : Str → Int) (wt hx : List Str) : Prop where
  nd : W.Nodup
  sm : st ∈ W
  s0 : lv st = 0
  kn : ∀ k ∈ W, k ∈ p.kn
  rng : ∀ k ∈ W, 0 ≤ lv k ∧ lv k < W.length
  par : ∀ k ∈ W, k ≠ st → ∃ t ∈ stps p names k, t.to ∈ W ∧ lv t.to < lv k
  clo : ∀ k ∈ W, k ∉ wt → k ∉ hx → ∀ t ∈ stps p names k, t.to ∈ W
  wm : ∀ k ∈ wt, k ∈ W
  min : ∀ R, Clo p names R → st ∈ R → ∀ k ∈ W, k ∈ R
variable {st : Str} {W wt hx : List Str} {lv : Str → Int}
theorem Lvs.start (h : st ∈ p.kn) : Lvs p names st [st] (fun _ => 0) [st] [] :=
  ⟨by simp, List.mem_cons_self, rfl, fun k hk => by rw [List.mem_singleton.mp hk]; exact h, fun k _ => ⟨Int.le_refl _, by simp⟩, fun k hk hne => absurd (List.mem_singleton.mp hk) hne, fun k hk hne => absurd hk hne, fun k hk => hk, fun R _ hR k hk => by rw [List.mem_singleton.mp hk]; exact hR⟩
theorem Lvs.len (b : Lvs p names st W lv wt hx) : W.length ≤ p.kn.length := nodup_len b.nd b.kn
theorem Lvs.pop {k : Str} {wr : List Str} (b : Lvs p names st W lv (k :: wr) []) : Lvs p names st W lv wr [k] :=
  { b with
    clo := fun m hm h1 h2 => b.clo m hm (fun z => (List.mem_cons.mp z).elim (fun e => h2 (by rw [e]; exact List.mem_cons_self)) h1) (by simp)
    wm := fun m hm => b.wm m (List.mem_cons_of_mem _ hm) }
theorem Lvs.done {k : Str} (b : Lvs p names st W lv wt [k]) (h : ∀ t ∈ stps p names k, t.to ∈ W) : Lvs p names st W lv wt [] :=
  { b with
    clo := fun m hm h1 _ => by
      by_cases z : m = k
      · rw [z]; exact h
      · exact b.clo m hm h1 (by simpa using z) }
theorem Lvs.add (ok : p.Ok) (b : Lvs p names st W lv wt hx) {k : Str} {t : Stp} (hk : k ∈ W) (ht : t ∈ stps p names k) (hn : t.to ∉ W) : Lvs p names st (W ++ [t.to]) (fup lv t.to (lv k + 1)) (wt ++ [t.to]) hx := by
  have ne : ∀ n ∈ W, n ≠ t.to := fun n hm z => hn (z ▸ hm)
  have old : ∀ n ∈ W, fup lv t.to (lv k + 1) n = lv n := fun n hm => by unfold fup; rw [if_neg (ne n hm)]
  have new : fup lv t.to (lv k + 1) t.to = lv k + 1 := by unfold fup; rw [if_pos rfl]
  have hl : (W ++ [t.to]).length = W.length + 1 := by simp
  refine ⟨L2.nd_snoc b.nd hn, List.mem_append_left _ b.sm, by rw [old _ b.sm]; exact b.s0, fun n hm => ?_, fun n hm => ?_, fun n hm hne => ?_, fun n hm h1 h2 u hu => ?_, fun n hm => ?_, fun R c hR n hm => ?_⟩
  · rcases List.mem_append.mp hm with z | z
    · exact b.kn n z
    · rw [List.mem_singleton.mp z]; exact stps_kn ok ht
  · rw [hl]
    rcases List.mem_append.mp hm with z | z
    · rw [old n z]
      have := b.rng n z
      omega
    · rw [List.mem_singleton.mp z, new]
      have := b.rng k hk
      omega
  · rcases List.mem_append.mp hm with z | z
    · obtain ⟨u, h1, h2, h3⟩ := b.par n z hne
      exact ⟨u, h1, List.mem_append_left _ h2, by rw [old _ h2, old _ z]; exact h3⟩
    · rw [List.mem_singleton.mp z]
      obtain ⟨u, h1, h2⟩ := stps_back ht
      exact ⟨u, h1, by rw [h2]; exact List.mem_append_left _ hk, by rw [h2, old _ hk, new]; omega⟩
  · rcases List.mem_append.mp hm with z | z
    · exact List.mem_append_left _ (b.clo n z (fun q => h1 (List.mem_append_left _ q)) h2 u hu)
    · exact absurd (List.mem_append_right _ z) h1
  · rcases List.mem_append.mp hm with z | z
    · exact List.mem_append_left _ (b.wm n z)
    · exact List.mem_append_right _ z
  · rcases List.mem_append.mp hm with z | z
    · exact b.min R c hR n z
    · rw [List.mem_singleton.mp z]; exact stps_clo c ht (b.min R c hR k hk)
theorem Lvs.closed (b : Lvs p names st W lv [] []) : Clo p names W := fun s hs hn =>
  ⟨fun h => b.clo s.tl h (by simp) (by simp) ⟨s.nm, 1, s.hd⟩ (stps_mem.mpr ⟨s, hs, hn, .inr ⟨rfl, rfl⟩⟩), fun h => b.clo s.hd h (by simp) (by simp) ⟨s.nm, -1, s.tl⟩ (stps_mem.mpr ⟨s, hs, hn, .inl ⟨rfl, rfl⟩⟩)⟩
theorem Lvs.no (b : Lvs p names st W lv [] []) {e : Str} : e ∉ W ↔ NoConn p names st e :=
  ⟨fun h => ⟨W, b.closed, b.sm, h⟩, fun ⟨R, c, h1, h2⟩ q => h2 (b.min R c h1 e q)⟩
end
end Mh
set_option Elab.async false
set_option linter.all false
set_option maxRecDepth 100000
set_option maxHeartbeats 4000000
namespace Mh
open PySem PySem.Spec PyProof.Rows L2
open C8 (Cal Mak Met pe_c pe_mk pe_mt pe_mt0 pe_gc)
local macro_rules
  | `(tactic| walk_at "hp") => `(tactic| first | assumption | (exact upd_same) | (refine (by assumption : Same _ _) _ _ ?_; first | assumption | (refine (by assumption : Same _ _) _ _ ?_; first | assumption | (refine (by assumption : Same _ _) _ _ ?_; assumption))))
local macro_rules
  | `(tactic| walk_at "go") => `(tactic| repeat (first
    | with_reducible refine g_seq ?_
    | with_reducible refine g_asg ?_
    | with_reducible refine g_name ?_
    | with_reducible refine g_ret ?_
    | with_reducible refine g_retN ?_
    | with_reducible refine g_next ?_
    | with_reducible refine g_break ?_
    | with_reducible refine g_drop ?_
    | with_reducible refine g_if ?_
    | ((with_reducible show tVar _ _ _ _); refine g_var rfl ?_)
    | with_reducible refine g_c ?_
    | with_reducible refine g_op ?_
    | with_reducible refine g_un ?_
    | with_reducible refine g_test ?_
    | with_reducible refine g_tB ?_
    | with_reducible refine g_exb ?_
    | with_reducible refine g_exbi ?_
    | with_reducible refine g_and ?_
    | with_reducible refine g_or ?_
    | with_reducible refine g_not ?_
    | with_reducible refine g_tIf ?_
    | with_reducible refine g_andV ?_
    | with_reducible refine g_chain ?_
    | with_reducible refine g_chain3 ?_
    | with_reducible refine g_rI0 ?_
    | with_reducible refine g_rU ?_
    | with_reducible refine g_eqI ?_
    | with_reducible refine g_neI ?_
    | with_reducible refine g_eqS ?_
    | with_reducible refine g_neS ?_
    | with_reducible refine g_isNoR ?_
    | with_reducible refine g_isNoN ?_
    | with_reducible refine g_isNoS ?_
    | with_reducible refine g_notNoR ?_
    | with_reducible refine g_notNoS ?_
    | with_reducible refine g_notNoN ?_
    | with_reducible refine g_nil ?_
    | with_reducible refine g_cons ?_
    | with_reducible refine g_cb ?_
    | with_reducible refine g_call ?_
    | with_reducible refine g_tup ?_
    | with_reducible refine g_lst ?_
    | with_reducible refine g_dget ?_
    | with_reducible refine g_din ?_
    | with_reducible refine g_dnin ?_
    | with_reducible refine g_dput ?_
    | with_reducible refine g_daug ?_
    | with_reducible refine g_rAdd ?_
    | with_reducible refine g_rSub ?_
    | with_reducible refine g_tcons ?_
    | with_reducible refine g_tnil ?_
    | with_reducible refine g_forL ?_
    | with_reducible refine g_lc ?_
    | with_reducible refine g_dc ?_
    | with_reducible refine g_yes ?_
    | with_reducible refine g_ipI ?_
    | ((with_reducible show tAug _ _ _ _ _ _); refine g_aug rfl ?_)
    | with_reducible refine g_revL ?_
    | with_reducible refine g_sfld ?_
    | with_reducible refine g_abs ?_
    | with_reducible refine g_maxI ?_
    | with_reducible refine g_minI ?_
    | with_reducible refine g_int1 ?_
    | ((with_reducible refine g_modP ?_ ?_); (focus decide))
    | ((with_reducible refine g_fdivP ?_ ?_ ?_); (focus decide); (focus decide))
    | ((with_reducible refine g_mulL ?_ ?_ ?_); (focus decide); (focus decide))
    | ((with_reducible refine g_mulR ?_ ?_ ?_); (focus decide); (focus decide))
    | with_reducible refine g_forR ?_
    | with_reducible refine g_slice ?_
    | with_reducible refine g_nopart ?_
    | with_reducible refine g_part ?_
    | with_reducible refine g_partI ?_
    | with_reducible refine g_intB ?_
    | with_reducible refine g_nT ?_
    | with_reducible refine g_nF ?_
    | with_reducible refine g_T ?_
    | with_reducible refine g_F ?_))
local macro_rules
  | `(tactic| walk_at "len") => `(tactic| (intro vs H Q E h; first | (obtain ⟨e, _⟩ := h; rw [e]; rfl) | (obtain ⟨_, e, _⟩ := h; rw [e]; rfl) | (obtain ⟨_, _, e, _⟩ := h; rw [e]; rfl) | (obtain ⟨_, _, _, e, _⟩ := h; rw [e]; rfl) | (obtain ⟨_, _, _, _, e, _⟩ := h; rw [e]; rfl) | (obtain ⟨_, _, _, _, _, e, _⟩ := h; rw [e]; rfl) | (obtain ⟨_, _, _, _, _, _, e, _⟩ := h; rw [e]; rfl) | (obtain ⟨_, _, _, _, _, _, _, e, _⟩ := h; rw [e]; rfl) | (obtain ⟨_, _, _, _, _, _, _, _, e, _⟩ := h; rw [e]; rfl) | (obtain ⟨_, _, _, _, _, _, _, _, _, e, _⟩ := h; rw [e]; rfl) | (obtain ⟨_, _, _, _, _, _, _, _, _, _, e, _⟩ := h; rw [e]; rfl) | (obtain ⟨_, _, _, _, _, _, _, _, _, _, _, e, _⟩ := h; rw [e]; rfl) | (obtain ⟨_, _, _, _, _, _, _, _, _, _, _, _, e, _⟩ := h; rw [e]; rfl) | (obtain ⟨_, _, _, _, _, _, _, _, _, _, _, _, _, e, _⟩ := h; rw [e]; rfl) | (obtain ⟨_, _, _, _, _, _, _, _, _, _, _, _, _, _, e, _⟩ := h; rw [e]; rfl) | (obtain ⟨_, _, _, _, _, _, _, _, _, _, _, _, _, _, _, e, _⟩ := h; rw [e]; rfl)))
local macro_rules
  | `(tactic| walk_at "nf") => `(tactic| try simp only [L2.start, List.map_cons, List.map_nil, List.length_cons, List.length_nil, List.drop_succ_cons, List.drop_zero, List.replicate_succ, List.replicate_zero, List.cons_append, List.nil_append, List.set_cons_succ, List.set_cons_zero, Nat.reduceAdd, Nat.reduceSub])
/-- limits in the heap -/
def LimAt (H : Hp) (a : Addr) (ks : List Str) (lo hi : Str → Int) : Prop := ∃ r : Str → Addr, H a = some (dk ks fun n => .ref (r n)) ∧ ∀ n ∈ ks, H (r n) = some (.tup [.int (lo n), .int (hi n)])
theorem LimAt.mono {H H' : Hp} {a : Addr} {ks : List Str} {lo hi : Str → Int} (h : LimAt H a ks lo hi) (e : Same H H') : LimAt H' a ks lo hi := by
  obtain ⟨r, h1, h2⟩ := h
  exact ⟨r, e _ _ h1, fun n hn => e _ _ (h2 n hn)⟩
theorem LimAt.but {H H' : Hp} {l : List Addr} {a : Addr} {ks : List Str} {lo hi : Str → Int} (h : LimAt H a ks lo hi) (e : But l H H') (hl : ∀ b ∈ l, ∀ o, H b = some o → ∃ ks f, o = dk ks (fl f)) (ha : a ∉ l) : LimAt H' a ks lo hi := by
  obtain ⟨r, h1, h2⟩ := h
  refine ⟨r, e _ _ ha h1, fun n hn => e _ _ (fun m => ?_) (h2 n hn)⟩
  obtain ⟨ks, f, q⟩ := hl _ m _ (h2 n hn)
  cases q
/-- an append of a tuple to a list of tuples -/
theorem g_kappT {α : Type} {row : α → List V} {xs : List α} {l r : Addr} {y : α} {H : Hp} {Q : VK} (h : Tups row H l xs) (hr : H r = some (.tup (row y))) (hl : xs.length < 1000)
    (q : ∀ H', Tups row H' l (xs ++ [y]) → But [l] H H' → TupE H H' → Q .non H') : kApp l (.ref r) H Q := by
  obtain ⟨M, e1, e2, e3⟩ := h
  have hlM : M.length < 1000 := by rw [← e1, List.length_map] at hl; exact hl
  refine g_kapp e2 (by rw [List.length_map, List.length_map]; exact hlM) ?_
  have nl : ∀ b xs, H b = some (.tup xs) → b ≠ l := fun b xs q => ne_of q e2 (by intro z; cases z)
  refine q _ ⟨M ++ [(r, y)], by rw [List.map_append, e1]; rfl, ?_, fun p hp => ?_⟩ (But.upd (by simp)) (TupE.upd e2 (fun _ z => by cases z))
  · rw [upd_same]
    unfold rf
    rw [List.map_append, List.map_append]
    rfl
  · rcases List.mem_append.mp hp with z | z
    · rw [upd_ne (nl _ _ (e3 p z))]; exact e3 p z
    · rw [List.mem_singleton.mp z]
      show (upd H l _) r = _
      rw [upd_ne (nl _ _ hr)]; exact hr
theorem Tups.lst {α : Type} {row : α → List V} {H : Hp} {a : Addr} {xs : List α} (h : Tups row H a xs) : ∃ vs, H a = some (.lst vs) := by obtain ⟨M, _, e, _⟩ := h; exact ⟨_, e⟩
abbrev s_arcs_of : Stmt := top 19
abbrev N_arcs_of : List Str := ["lines", "limits", "flows", "found", "name", "tail", "head", "low", "high"]
theorem sc_arcs_of : FnScope N_arcs_of ["lines", "limits", "flows"] (defScope s_arcs_of) := ⟨rfl, rfl, rfl, by decide +kernel, rfl, by decide +kernel, by decide +kernel⟩
def sp_arcs_of (K : PySem.W.Frag) (z : Ad) : Sp := fun vs H Q _ => ∃ (a b c : Addr) (L : List Ln) (ks : List Str) (lo hi f : Str → Int), vs = [.ref a, .ref b, .ref c] ∧ Tups Ln.row H a L ∧ LimAt H b ks lo hi ∧ H c = some (dk ks (fl f)) ∧
  (∀ l ∈ L, l.nm ∈ ks) ∧ L.length ≤ 30 ∧ ∀ D H', H D = none → Same H H' → Tups Arc.row H' D (arcsOf L lo hi f) → Q (.ref D) H'
theorem ok_arcs_of {P : Program} {w : World} {K : PySem.W.Frag} {mg : Str → Option Value} {base : Heap} {z : Ad} (T : Bi mg) (Z : Cx3 K z.C z.CM z.CR) (D : Df K mg "arcs_of" s_arcs_of ["lines", "limits", "flows"])  : Cal P w K mg base 1 "arcs_of" (sp_arcs_of K z) [] := by
  have nd := sc_arcs_of.nd
  refine cal_mk D sc_arcs_of (by walk_at "len") (fun cdv A outer s H vs Q E f hr h => ⟨_, (pss_cons (ps_set (i := 3) nd rfl (.inl rfl) (pe_lst pa_nil))
    (pss_cons (ps_for PassesOwn.never rfl (pi_list (pv 0)) (pg_tupK (K := K) (n := 3) rfl rfl (pgs_cons (pg_name (i := 4) nd rfl (.inl rfl)) (pgs_cons (pg_name (i := 5) nd rfl (.inl rfl)) (pgs_cons (pg_name (i := 6) nd rfl (.inl rfl)) pgs_nil))))
    (pss_cons (ps_asg (pe_dget (hu_of hr) (pv 1) (pv 4) (fun _ _ => rfl)) (pg_tupK (K := K) (n := 2) rfl rfl (pgs_cons (pg_name (i := 7) nd rfl (.inl rfl)) (pgs_cons (pg_name (i := 8) nd rfl (.inl rfl)) pgs_nil))))
    (pss_cutI (ps_if (pt_cmpR op_lt (pe_dget (hu_of hr) (pv 2) (pv 4) (fun _ _ => rfl)) (pv 8) (nomark _))
    (pss_one (ps_expr (pe_bm PySem.F.plainAttrs_list PySem.F.slot_list_append PySem.F.type_list_append mt_append (pv 3) (pa_cons (pe_tup (pa_cons (pv 5) (pa_cons (pv 6) (pa_cons (pv 4) (pa_cons pe_int (pa_cons (pe_op op_sub (pv 8) (pe_dget (hu_of hr) (pv 2) (pv 4) (fun _ _ => rfl))) pa_nil)))))) pa_nil)))) pss_nil)
    (pss_one (ps_if (pt_cmpR op_gt (pe_dget (hu_of hr) (pv 2) (pv 4) (fun _ _ => rfl)) (pv 7) (nomark _))
    (pss_one (ps_expr (pe_bm PySem.F.plainAttrs_list PySem.F.slot_list_append PySem.F.type_list_append mt_append (pv 3) (pa_cons (pe_tup (pa_cons (pv 6) (pa_cons (pv 5) (pa_cons (pv 4) (pa_cons (pe_un un_neg pe_int) (pa_cons (pe_op op_sub (pe_dget (hu_of hr) (pv 2) (pv 4) (fun _ _ => rfl)) (pv 7)) pa_nil)))))) pa_nil)))) pss_nil)))))
    (pss_one (ps_ret (pv 3))))), ?_⟩)
  obtain ⟨a, b, c, L0, ks, lo, hi, f, rfl, ⟨L, hL, eL, hT⟩, ⟨r, hb, hbt⟩, hc, hks, hlen, k⟩ := h
  subst hL
  rw [rf_fst] at eL
  have hlen' : L.length ≤ 30 := by simpa using hlen
  walk_at "go"
  refine g_newL (by simp) fun D H1 hD s1 e1 => ?_
  walk_at "go"
  refine kFor_run L fst (SqL.of (s1 _ _ eL)) (fun d σ' H' => Same H H' ∧ Tups Arc.row H' D (arcsOf (d.map (·.2)) lo hi f) ∧ ∃ y4 y5 y6 y7 y8, σ' = [some (.ref a), some (.ref b), some (.ref c), some (.ref D), y4, y5, y6, y7, y8])
    ⟨s1, ⟨[], rfl, e1, fun _ q => by cases q⟩, none, none, none, none, none, rfl⟩ (fun d σ' H' ⟨s', _⟩ => SqL.of (s' _ _ eL)) (fun d q rr σ' H' hL' hI => ?_) (fun σ' H' hI => ?_)
  · obtain ⟨s', tD, y4, y5, y6, y7, y8, rfl⟩ := hI
    have hq : q ∈ L := by rw [hL']; exact List.mem_append_right _ List.mem_cons_self
    have hm : q.2.nm ∈ ks := hks _ (List.mem_map.mpr ⟨q, hq, rfl⟩)
    have hdl : d.length ≤ 30 := by rw [hL', List.length_append] at hlen'; omega
    have hal : ∀ ys : List Arc, ys.length ≤ 1 → (arcsOf (d.map (·.2)) lo hi f ++ ys).length < 1000 := fun ys h => by
      have h1 := arcsOf_len (d.map (·.2)) lo hi f
      rw [List.length_map] at h1
      rw [List.length_append]
      omega
    refine g_ln (s' _ _ (hT q hq)) ?_
    walk_at "go"
    refine g_kgetR (.inl (s' _ _ hb)) hm ?_
    refine g_two (s' _ _ (hbt _ hm)) ?_
    walk_at "go"
    refine g_cut (fun σ' H2 => Same H H2 ∧ Tups Arc.row H2 D (arcsOf (d.map (·.2)) lo hi f ++ (if f q.2.nm < hi q.2.nm then [⟨q.2.tl, q.2.hd, q.2.nm, 1, hi q.2.nm - f q.2.nm⟩] else [])) ∧
      σ' = [some (.ref a), some (.ref b), some (.ref c), some (.ref D), some (.str q.2.nm), some (.str q.2.tl), some (.str q.2.hd), some (.int (lo q.2.nm)), some (.int (hi q.2.nm))]) ?_ (fun σ2 H2 hM => ?_)
    · walk_at "go"
      refine g_kgetI (.inl (s' _ _ hc)) hm ?_
      walk_at "go"
      refine g_ite (fun hn => ?_) (fun hn => ?_)
      · obtain ⟨vs, ev⟩ := tD.lst
        walk_at "go"
        refine g_append rfl ev ?_
        walk_at "go"
        refine g_kgetI (.inl (s' _ _ hc)) hm ?_
        walk_at "go"
        refine g_newT (by simp) fun p3 H3 hp3 s3 e3 => ?_
        refine g_kappT (row := Arc.row) (y := (⟨q.2.tl, q.2.hd, q.2.nm, 1, hi q.2.nm - f q.2.nm⟩ : Arc)) (tD.mono s3) e3 (by have := hal [] (by simp); rw [List.append_nil] at this; exact this) fun H4 t4 b4 _ => ?_
        exact ⟨b4.same (L2.Same.trans s' s3) (by intro x hx; rw [List.mem_singleton.mp hx]; exact hD), by rw [if_pos hn]; exact t4, rfl⟩
      · walk_at "go"
        exact ⟨s', by rw [if_neg hn, List.append_nil]; exact tD, rfl⟩
    · obtain ⟨s2, t2, rfl⟩ := hM
      walk_at "go"
      refine g_kgetI (.inl (s2 _ _ hc)) hm ?_
      walk_at "go"
      have em : arcsOf ((d ++ [q]).map (·.2)) lo hi f = arcsOf (d.map (·.2)) lo hi f ++ arcs1 lo hi f q.2 := by
        rw [List.map_append]
        exact arcsOf_snoc _ _ _ _ _
      rw [em]
      unfold arcs1
      refine g_ite (fun hn => ?_) (fun hn => ?_)
      · obtain ⟨vs, ev⟩ := t2.lst
        walk_at "go"
        refine g_append rfl ev ?_
        walk_at "go"
        refine g_kgetI (.inl (s2 _ _ hc)) hm ?_
        walk_at "go"
        refine g_newT (by simp) fun p3 H3 hp3 s3 e3 => ?_
        refine g_kappT (row := Arc.row) (y := (⟨q.2.hd, q.2.tl, q.2.nm, -1, f q.2.nm - lo q.2.nm⟩ : Arc)) (t2.mono s3) e3 (hal _ (by split <;> simp)) fun H4 t4 b4 _ => ?_
        refine ⟨b4.same (L2.Same.trans s2 s3) (by intro x hx; rw [List.mem_singleton.mp hx]; exact hD), ?_, _, _, _, _, _, rfl⟩
        rw [if_pos (show lo q.2.nm < f q.2.nm from hn), ← List.append_assoc]
        exact t4
      · walk_at "go"
        refine ⟨s2, ?_, _, _, _, _, _, rfl⟩
        rw [if_neg (show ¬ lo q.2.nm < f q.2.nm from hn), List.append_nil]
        exact t2
  · obtain ⟨s', tD, y4, y5, y6, y7, y8, rfl⟩ := hI
    walk_at "go"
    exact k D H' hD s' tD

end Mh
set_option Elab.async false
set_option linter.all false
set_option maxRecDepth 100000
set_option maxHeartbeats 4000000
namespace Mh
open PySem PySem.Spec PyProof.Rows L2
open C8 (Cal Mak Met pe_c pe_mk pe_mt pe_mt0 pe_gc)
local macro_rules
  | `(tactic| walk_at "hp") => `(tactic| first | assumption | (exact upd_same) | (refine (by assumption : Same _ _) _ _ ?_; first | assumption | (refine (by assumption : Same _ _) _ _ ?_; first | assumption | (refine (by assumption : Same _ _) _ _ ?_; assumption))))
local macro_rules
  | `(tactic| walk_at "go") => `(tactic| repeat (first
    | with_reducible refine g_seq ?_
    | with_reducible refine g_asg ?_
    | with_reducible refine g_name ?_
    | with_reducible refine g_ret ?_
    | with_reducible refine g_retN ?_
    | with_reducible refine g_next ?_
    | with_reducible refine g_break ?_
    | with_reducible refine g_drop ?_
    | with_reducible refine g_if ?_
    | ((with_reducible show tVar _ _ _ _); refine g_var rfl ?_)
    | with_reducible refine g_c ?_
    | with_reducible refine g_op ?_
    | with_reducible refine g_un ?_
    | with_reducible refine g_test ?_
    | with_reducible refine g_tB ?_
    | with_reducible refine g_exb ?_
    | with_reducible refine g_exbi ?_
    | with_reducible refine g_and ?_
    | with_reducible refine g_or ?_
    | with_reducible refine g_not ?_
    | with_reducible refine g_tIf ?_
    | with_reducible refine g_andV ?_
    | with_reducible refine g_chain ?_
    | with_reducible refine g_chain3 ?_
    | with_reducible refine g_rI0 ?_
    | with_reducible refine g_rU ?_
    | with_reducible refine g_eqI ?_
    | with_reducible refine g_neI ?_
    | with_reducible refine g_eqS ?_
    | with_reducible refine g_neS ?_
    | with_reducible refine g_isNoR ?_
    | with_reducible refine g_isNoN ?_
    | with_reducible refine g_isNoS ?_
    | with_reducible refine g_notNoR ?_
    | with_reducible refine g_notNoS ?_
    | with_reducible refine g_notNoN ?_
    | with_reducible refine g_nil ?_
    | with_reducible refine g_cons ?_
    | with_reducible refine g_cb ?_
    | with_reducible refine g_call ?_
    | with_reducible refine g_tup ?_
    | with_reducible refine g_lst ?_
    | with_reducible refine g_dget ?_
    | with_reducible refine g_din ?_
    | with_reducible refine g_dnin ?_
    | with_reducible refine g_dput ?_
    | with_reducible refine g_daug ?_
    | with_reducible refine g_rAdd ?_
    | with_reducible refine g_rSub ?_
    | with_reducible refine g_tcons ?_
    | with_reducible refine g_tnil ?_
    | with_reducible refine g_forL ?_
    | with_reducible refine g_lc ?_
    | with_reducible refine g_dc ?_
    | with_reducible refine g_yes ?_
    | with_reducible refine g_ipI ?_
    | ((with_reducible show tAug _ _ _ _ _ _); refine g_aug rfl ?_)
    | with_reducible refine g_revL ?_
    | with_reducible refine g_sfld ?_
    | with_reducible refine g_abs ?_
    | with_reducible refine g_maxI ?_
    | with_reducible refine g_minI ?_
    | with_reducible refine g_int1 ?_
    | ((with_reducible refine g_modP ?_ ?_); (focus decide))
    | ((with_reducible refine g_fdivP ?_ ?_ ?_); (focus decide); (focus decide))
    | ((with_reducible refine g_mulL ?_ ?_ ?_); (focus decide); (focus decide))
    | ((with_reducible refine g_mulR ?_ ?_ ?_); (focus decide); (focus decide))
    | with_reducible refine g_forR ?_
    | with_reducible refine g_slice ?_
    | with_reducible refine g_nopart ?_
    | with_reducible refine g_part ?_
    | with_reducible refine g_partI ?_
    | with_reducible refine g_intB ?_
    | with_reducible refine g_nT ?_
    | with_reducible refine g_nF ?_
    | with_reducible refine g_T ?_
    | with_reducible refine g_F ?_))
local macro_rules
  | `(tactic| walk_at "len") => `(tactic| (intro vs H Q E h; first | (obtain ⟨e, _⟩ := h; rw [e]; rfl) | (obtain ⟨_, e, _⟩ := h; rw [e]; rfl) | (obtain ⟨_, _, e, _⟩ := h; rw [e]; rfl) | (obtain ⟨_, _, _, e, _⟩ := h; rw [e]; rfl) | (obtain ⟨_, _, _, _, e, _⟩ := h; rw [e]; rfl) | (obtain ⟨_, _, _, _, _, e, _⟩ := h; rw [e]; rfl) | (obtain ⟨_, _, _, _, _, _, e, _⟩ := h; rw [e]; rfl) | (obtain ⟨_, _, _, _, _, _, _, e, _⟩ := h; rw [e]; rfl) | (obtain ⟨_, _, _, _, _, _, _, _, e, _⟩ := h; rw [e]; rfl) | (obtain ⟨_, _, _, _, _, _, _, _, _, e, _⟩ := h; rw [e]; rfl) | (obtain ⟨_, _, _, _, _, _, _, _, _, _, e, _⟩ := h; rw [e]; rfl) | (obtain ⟨_, _, _, _, _, _, _, _, _, _, _, e, _⟩ := h; rw [e]; rfl) | (obtain ⟨_, _, _, _, _, _, _, _, _, _, _, _, e, _⟩ := h; rw [e]; rfl) | (obtain ⟨_, _, _, _, _, _, _, _, _, _, _, _, _, e, _⟩ := h; rw [e]; rfl) | (obtain ⟨_, _, _, _, _, _, _, _, _, _, _, _, _, _, e, _⟩ := h; rw [e]; rfl) | (obtain ⟨_, _, _, _, _, _, _, _, _, _, _, _, _, _, _, e, _⟩ := h; rw [e]; rfl)))
local macro_rules
  | `(tactic| walk_at "nf") => `(tactic| try simp only [L2.start, List.map_cons, List.map_nil, List.length_cons, List.length_nil, List.drop_succ_cons, List.drop_zero, List.replicate_succ, List.replicate_zero, List.cons_append, List.nil_append, List.set_cons_succ, List.set_cons_zero, Nat.reduceAdd, Nat.reduceSub])
/-- the dict of the arcs that lead to each place -/
def BefAt (H : Hp) (b : Addr) (ks : List Str) (bf : Str → Option Arc) : Prop := ∃ val : Str → V, H b = some (dk ks val) ∧ ∀ n ∈ ks, (bf n = none ∧ val n = .non) ∨ ∃ a r, bf n = some a ∧ val n = .ref r ∧ H r = some (.tup a.row)
theorem BefAt.mono {H H' : Hp} {b : Addr} {ks : List Str} {bf : Str → Option Arc} (h : BefAt H b ks bf) (e : Same H H') : BefAt H' b ks bf := by
  obtain ⟨val, h1, h2⟩ := h
  refine ⟨val, e _ _ h1, fun n hn => (h2 n hn).imp id ?_⟩
  rintro ⟨a, r, q1, q2, q3⟩
  exact ⟨a, r, q1, q2, e _ _ q3⟩
abbrev s_way_back : Stmt := top 21
abbrev N_way_back : List Str := ["before", "place", "way"]
theorem sc_way_back : FnScope N_way_back ["before", "place"] (defScope s_way_back) := ⟨rfl, rfl, rfl, by decide +kernel, rfl, by decide +kernel, by decide +kernel⟩
def sp_way_back (K : PySem.W.Frag) (z : Ad) : Sp := fun vs H Q _ => ∃ (b : Addr) (n : Str) (ks : List Str) (bf : Str → Option Arc) (rk : Str → Nat), vs = [.ref b, .str n] ∧ BefAt H b ks bf ∧ n ∈ ks ∧
  (∀ m ∈ ks, ∀ a, bf m = some a → a.to = m ∧ a.fr ∈ ks ∧ rk a.fr < rk m) ∧ rk n ≤ 900 ∧
  ∀ D H' w s, H D = none → Same H H' → Tups Arc.row H' D w → s ∈ ks → bf s = none → Ch s w n → (∀ a ∈ w, ∃ m ∈ ks, bf m = some a) → Q (.ref D) H'
theorem ok_way_back {P : Program} {w : World} {K : PySem.W.Frag} {mg : Str → Option Value} {base : Heap} {z : Ad} (T : Bi mg) (Z : Cx3 K z.C z.CM z.CR) (D : Df K mg "way_back" s_way_back ["before", "place"])  : Cal P w K mg base 1 "way_back" (sp_way_back K z) [] := by
  have nd := sc_way_back.nd
  refine cal_mk D sc_way_back (by walk_at "len") (fun cdv A outer s H vs Q E f hr h => ⟨_, (pss_cons (ps_set (i := 2) nd rfl (.inl rfl) (pe_lst pa_nil))
    (pss_cons (ps_while PassesOwn.never (pt_cmpR op_notNo (pe_dget (hu_of hr) (pv 0) (pv 1) (fun _ _ => rfl)) pe_non (nomark _))
    (pss_cons (ps_expr (pe_bm PySem.F.plainAttrs_list PySem.F.slot_list_append PySem.F.type_list_append mt_append (pv 2) (pa_cons (pe_dget (hu_of hr) (pv 0) (pv 1) (fun _ _ => rfl)) pa_nil)))
    (pss_one (ps_set (i := 1) nd rfl (.inl rfl) (pe_ix (ix_tupK (K := K) rfl) (pe_dget (hu_of hr) (pv 0) (pv 1) (fun _ _ => rfl)) pe_int (fun _ _ => rfl))))))
    (pss_one (ps_ret (pe_revL (pv 2)))))), ?_⟩)
  obtain ⟨b, n, ks, bf, rk, rfl, ⟨val, hb, hv⟩, hn, hbf, hrk, k⟩ := h
  walk_at "go"
  refine g_newL (by simp) fun wy H1 hwy s1 e1 => ?_
  walk_at "go"
  refine g_while (fun m σ' H' => ∃ (pl : Str) (acc : List Arc), m = rk pl ∧ σ' = [some (.ref b), some (.str pl), some (.ref wy)] ∧ Same H H' ∧ Tups Arc.row H' wy acc ∧ pl ∈ ks ∧ Ch pl acc.reverse n ∧ (∀ a ∈ acc, ∃ m ∈ ks, bf m = some a) ∧ acc.length + rk pl ≤ rk n)
    (rk n) ⟨n, [], rfl, rfl, s1, ⟨[], rfl, e1, fun _ z => by cases z⟩, hn, rfl, (fun _ z => by cases z), by simp⟩ (fun m σ' H' hW => ?_) (fun σ H R R' i q => ?_)
  · obtain ⟨pl, acc, rfl, rfl, s', tw, hpl, hch, hacc, hlen⟩ := hW
    have hR : Rd H' b (dk ks val) := .inl (s' _ _ hb)
    walk_at "go"
    refine g_kget hR hpl ?_
    rcases hv pl hpl with ⟨q1, q2⟩ | ⟨a, r, q1, q2, q3⟩
    · rw [q2]
      walk_at "go"
      refine g_rev tw fun D H2 hD s2 t2 => ?_
      refine k D H2 acc.reverse pl (fresh_of s' hD) (L2.Same.trans s' s2) t2 hpl q1 hch fun a ha => hacc a (List.mem_reverse.mp ha)
    · rw [q2]
      obtain ⟨ha1, ha2, ha3⟩ := hbf pl hpl a q1
      obtain ⟨vs, ev⟩ := tw.lst
      walk_at "go"
      refine g_append rfl ev ?_
      walk_at "go"
      refine g_kget hR hpl ?_
      rw [q2]
      refine g_kappT (row := Arc.row) (y := a) tw (s' _ _ q3) (by omega) fun H2 t2 b2 e2 => ?_
      have nb : b ≠ wy := ne_of_none hb hwy
      have s2 : Same H H2 := b2.same s' (by intro x hx; rw [List.mem_singleton.mp hx]; exact hwy)
      walk_at "go"
      refine g_kget (.inl (s2 _ _ hb)) hpl ?_
      rw [q2]
      walk_at "go"
      refine g_ixT (s2 _ _ q3) rfl ?_
      refine g_name ⟨rk a.fr, ha3, a.fr, acc ++ [a], rfl, rfl, s2, t2, ha2, ?_, ?_, ?_⟩
      · rw [List.reverse_append]
        exact ⟨rfl, by rw [ha1]; exact hch⟩
      · intro x hx
        rcases List.mem_append.mp hx with z | z
        · exact hacc x z
        · rw [List.mem_singleton.mp z]; exact ⟨pl, hpl, q1⟩
      · rw [List.length_append, List.length_singleton]
        omega
  · obtain ⟨v1, e1, v2, e2, c, w, e3, e4, e5, kk, e6, q⟩ := q
    exact ⟨v1, e1, v2, e2, c, w, e3, e4, e5, kk, e6, i _ _ q⟩
abbrev s_push : Stmt := top 22
abbrev N_push : List Str := ["flows", "way", "most", "amount", "arc"]
theorem sc_push : FnScope N_push ["flows", "way", "most"] (defScope s_push) := ⟨rfl, rfl, rfl, by decide +kernel, rfl, by decide +kernel, by decide +kernel⟩
def sp_push (K : PySem.W.Frag) (z : Ad) : Sp := fun vs H Q _ => ∃ (c b : Addr) (ks : List Str) (f : Str → Int) (w : List Arc) (most : Int), vs = [.ref c, .ref b, .int most] ∧ H c = some (dk ks (fl f)) ∧ Tups Arc.row H b w ∧
  (∀ a ∈ w, a.nm ∈ ks ∧ (a.sg = 1 ∨ a.sg = -1)) ∧ w.length ≤ 900 ∧ ks.length < 1000 ∧
  ∀ H' m, m ∈ most :: w.map (·.rm) → (∀ y ∈ most :: w.map (·.rm), m ≤ y) → But [c] H H' → H' c = some (dk ks (fl (pushF f w m))) → Q (.int m) H'
theorem ok_push {P : Program} {w : World} {K : PySem.W.Frag} {mg : Str → Option Value} {base : Heap} {z : Ad} (T : Bi mg) (Z : Cx3 K z.C z.CM z.CR) (D : Df K mg "push" s_push ["flows", "way", "most"])  : Cal P w K mg base 1 "push" (sp_push K z) [] := by
  have nd := sc_push.nd
  refine cal_mk D sc_push (by walk_at "len") (fun cdv A outer s H vs Q E f hr h => ⟨_, (pss_cons (ps_set (i := 3) nd rfl (.inl rfl) (pe_callB (cr_minK1 (K := K) rfl rfl) (by rfl) T.b_min (by decide +kernel) (pa_cons (pe_op op_cat (pe_lst (pa_cons (pv 2) pa_nil)) (pe_lc (own := [("arc", 4)]) rfl nd (pi_list (pv 1)) (blkOk_by (own := [("arc", 4)]) (N := N_push) (sc := defScope s_push) (by decide +kernel)) (fun _ _ _ _ _ => (pg_name (i := 4) nd rfl (.inl rfl))) (fun _ _ _ _ _ => pts_nil) (fun _ _ _ _ _ => (pe_ix (ix_tupK (K := K) rfl) (pv 4) pe_int (fun _ _ => rfl))))) pa_nil)))
    (pss_cons (ps_for PassesOwn.never rfl (pi_list (pv 1)) (pg_name (i := 4) nd rfl (.inl rfl))
    (pss_one (ps_daug (hu_of hr) (pv 0) (pe_ix (ix_tupK (K := K) rfl) (pv 4) pe_int (fun _ _ => rfl)) (pe_op op_mul (pe_ix (ix_tupK (K := K) rfl) (pv 4) pe_int (fun _ _ => rfl)) (pv 3)) in_add (fun _ _ _ => rfl))))
    (pss_one (ps_ret (pv 3))))), ?_⟩)
  obtain ⟨c, b, ks, f, w0, most, rfl, hc, ⟨L, hL, eL, hT⟩, hw, hlen, hks, k⟩ := h
  subst hL
  rw [rf_fst] at eL
  have hlen' : L.length ≤ 900 := by simpa using hlen
  walk_at "go"
  refine g_newL (by simp) fun p1 H1 hp1 s1 e1 => ?_
  walk_at "go"
  refine kLc_pure L fst (fun q => some (.int q.2.rm)) (SqL.of (s1 _ _ eL)) hlen' (fun q hq H2 s2 C cc => ?_) (fun p2 H2 hp2 s2 e2 => ?_)
  · refine g_name ⟨rfl, ?_⟩
    walk_at "go"
    refine g_ixT (s2 _ _ (s1 _ _ (hT q hq))) rfl ?_
    exact cc H2 (Same.refl _)
  refine g_cat (s2 _ _ e1) e2 (by have := List.length_filterMap_le (fun q : Addr × Arc => some (V.int q.2.rm)) L; simp only [List.length_singleton]; omega) fun p3 H3 hp3 s3 e3 => ?_
  have s03 := L2.Same.trans s1 (L2.Same.trans s2 s3)
  walk_at "go"
  refine g_min (ns := most :: (L.map (·.2)).map (·.rm)) ?_ (by simp) fun m hm1 hm2 => ?_
  · rw [e3, fm_some]
    unfold li
    rw [List.map_cons, List.map_map, List.map_map]
    rfl
  walk_at "go"
  refine kFor_run L fst (SqL.of (s03 _ _ eL)) (fun d σ' H' => But [c] H3 H' ∧ H' c = some (dk ks (fl (pushF f (d.map (·.2)) m))) ∧ ∃ y, σ' = [some (.ref c), some (.ref b), some (.int most), some (.int m), y])
    ⟨But.refl _ _, s03 _ _ hc, none, rfl⟩ (fun d σ' H' ⟨bt, _⟩ => SqL.of (bt _ _ (by simpa using ne_of (s03 _ _ eL) (s03 _ _ hc) (by intro z; cases z)) (s03 _ _ eL))) (fun d q r σ' H' hL' hI => ?_) (fun σ' H' hI => ?_)
  · obtain ⟨bt, ec, y, rfl⟩ := hI
    have hq : q ∈ L := by rw [hL']; exact List.mem_append_right _ List.mem_cons_self
    obtain ⟨hn, hs⟩ := hw _ (List.mem_map.mpr ⟨q, hq, rfl⟩)
    have eq : H' q.1 = some (.tup q.2.row) := bt _ _ (by simpa using ne_of (s03 _ _ (hT q hq)) (s03 _ _ hc) (by intro z; cases z)) (s03 _ _ (hT q hq))
    refine g_name ?_
    walk_at "go"
    refine g_ixT eq rfl ?_
    refine g_kget2 (.inl ec) hn ?_
    walk_at "go"
    refine g_ixT eq rfl ?_
    walk_at "go"
    refine g_rI (.inl (by rcases hs with h | h <;> rw [h] <;> decide)) ?_
    refine g_rAdd ?_
    refine g_kput2 ec hks ?_
    refine ⟨bt.trans (But.upd (by simp)), ?_, _, rfl⟩
    rw [upd_same, ins_old hn, List.map_append]
    show some (dk ks _) = some (dk ks (fl (pushF f (d.map (·.2) ++ [q.2]) m)))
    rw [pushF_snoc]
    congr 1
    refine dk_congr fun x _ => ?_
    unfold fup fl
    grind
  · obtain ⟨bt, ec, y, rfl⟩ := hI
    walk_at "go"
    exact k H' m hm1 hm2 ((But.of s03).trans bt) ec

end Mh
set_option Elab.async false
set_option linter.all false
set_option maxRecDepth 100000
set_option maxHeartbeats 4000000
namespace Mh
open PySem PySem.Spec PyProof.Rows L2
open C8 (Cal Mak Met pe_c pe_mk pe_mt pe_mt0 pe_gc)
local macro_rules
  | `(tactic| walk_at "hp") => `(tactic| first | assumption | (exact upd_same) | (refine (by assumption : Same _ _) _ _ ?_; first | assumption | (refine (by assumption : Same _ _) _ _ ?_; first | assumption | (refine (by assumption : Same _ _) _ _ ?_; assumption))))
local macro_rules
  | `(tactic| walk_at "go") => `(tactic| repeat (first
    | with_reducible refine g_seq ?_
    | with_reducible refine g_asg ?_
    | with_reducible refine g_name ?_
    | with_reducible refine g_ret ?_
    | with_reducible refine g_retN ?_
    | with_reducible refine g_next ?_
    | with_reducible refine g_break ?_
    | with_reducible refine g_drop ?_
    | with_reducible refine g_if ?_
    | ((with_reducible show tVar _ _ _ _); refine g_var rfl ?_)
    | with_reducible refine g_c ?_
    | with_reducible refine g_op ?_
    | with_reducible refine g_un ?_
    | with_reducible refine g_test ?_
    | with_reducible refine g_tB ?_
    | with_reducible refine g_exb ?_
    | with_reducible refine g_exbi ?_
    | with_reducible refine g_and ?_
    | with_reducible refine g_or ?_
    | with_reducible refine g_not ?_
    | with_reducible refine g_tIf ?_
    | with_reducible refine g_andV ?_
    | with_reducible refine g_chain ?_
    | with_reducible refine g_chain3 ?_
    | with_reducible refine g_rI0 ?_
    | with_reducible refine g_rU ?_
    | with_reducible refine g_eqI ?_
    | with_reducible refine g_neI ?_
    | with_reducible refine g_eqS ?_
    | with_reducible refine g_neS ?_
    | with_reducible refine g_isNoR ?_
    | with_reducible refine g_isNoN ?_
    | with_reducible refine g_isNoS ?_
    | with_reducible refine g_notNoR ?_
    | with_reducible refine g_notNoS ?_
    | with_reducible refine g_notNoN ?_
    | with_reducible refine g_nil ?_
    | with_reducible refine g_cons ?_
    | with_reducible refine g_cb ?_
    | with_reducible refine g_call ?_
    | with_reducible refine g_tup ?_
    | with_reducible refine g_lst ?_
    | with_reducible refine g_dget ?_
    | with_reducible refine g_din ?_
    | with_reducible refine g_dnin ?_
    | with_reducible refine g_dput ?_
    | with_reducible refine g_daug ?_
    | with_reducible refine g_rAdd ?_
    | with_reducible refine g_rSub ?_
    | with_reducible refine g_tcons ?_
    | with_reducible refine g_tnil ?_
    | with_reducible refine g_forL ?_
    | with_reducible refine g_lc ?_
    | with_reducible refine g_dc ?_
    | with_reducible refine g_yes ?_
    | with_reducible refine g_ipI ?_
    | ((with_reducible show tAug _ _ _ _ _ _); refine g_aug rfl ?_)
    | with_reducible refine g_revL ?_
    | with_reducible refine g_sfld ?_
    | with_reducible refine g_abs ?_
    | with_reducible refine g_maxI ?_
    | with_reducible refine g_minI ?_
    | with_reducible refine g_int1 ?_
    | ((with_reducible refine g_modP ?_ ?_); (focus decide))
    | ((with_reducible refine g_fdivP ?_ ?_ ?_); (focus decide); (focus decide))
    | ((with_reducible refine g_mulL ?_ ?_ ?_); (focus decide); (focus decide))
    | ((with_reducible refine g_mulR ?_ ?_ ?_); (focus decide); (focus decide))
    | with_reducible refine g_forR ?_
    | with_reducible refine g_slice ?_
    | with_reducible refine g_nopart ?_
    | with_reducible refine g_part ?_
    | with_reducible refine g_partI ?_
    | with_reducible refine g_intB ?_
    | with_reducible refine g_nT ?_
    | with_reducible refine g_nF ?_
    | with_reducible refine g_T ?_
    | with_reducible refine g_F ?_))
local macro_rules
  | `(tactic| walk_at "len") => `(tactic| (intro vs H Q E h; first | (obtain ⟨e, _⟩ := h; rw [e]; rfl) | (obtain ⟨_, e, _⟩ := h; rw [e]; rfl) | (obtain ⟨_, _, e, _⟩ := h; rw [e]; rfl) | (obtain ⟨_, _, _, e, _⟩ := h; rw [e]; rfl) | (obtain ⟨_, _, _, _, e, _⟩ := h; rw [e]; rfl) | (obtain ⟨_, _, _, _, _, e, _⟩ := h; rw [e]; rfl) | (obtain ⟨_, _, _, _, _, _, e, _⟩ := h; rw [e]; rfl) | (obtain ⟨_, _, _, _, _, _, _, e, _⟩ := h; rw [e]; rfl) | (obtain ⟨_, _, _, _, _, _, _, _, e, _⟩ := h; rw [e]; rfl) | (obtain ⟨_, _, _, _, _, _, _, _, _, e, _⟩ := h; rw [e]; rfl) | (obtain ⟨_, _, _, _, _, _, _, _, _, _, e, _⟩ := h; rw [e]; rfl) | (obtain ⟨_, _, _, _, _, _, _, _, _, _, _, e, _⟩ := h; rw [e]; rfl) | (obtain ⟨_, _, _, _, _, _, _, _, _, _, _, _, e, _⟩ := h; rw [e]; rfl) | (obtain ⟨_, _, _, _, _, _, _, _, _, _, _, _, _, e, _⟩ := h; rw [e]; rfl) | (obtain ⟨_, _, _, _, _, _, _, _, _, _, _, _, _, _, e, _⟩ := h; rw [e]; rfl) | (obtain ⟨_, _, _, _, _, _, _, _, _, _, _, _, _, _, _, e, _⟩ := h; rw [e]; rfl)))
local macro_rules
  | `(tactic| walk_at "nf") => `(tactic| try simp only [L2.start, List.map_cons, List.map_nil, List.length_cons, List.length_nil, List.drop_succ_cons, List.drop_zero, List.replicate_succ, List.replicate_zero, List.cons_append, List.nil_append, List.set_cons_succ, List.set_cons_zero, Nat.reduceAdd, Nat.reduceSub])
section
variable {K : PySem.W.Frag} {σ : L2.St} {H H' : Hp} {Q : VK} {i j : Nat} {ta te td ty tx : TE} {v x y z : V}
theorem g_dnew (val : Str → V) (q : ∀ p H1, H p = none → Same H H1 → H1 p = some (dk [] val) → Q (.ref p) H1) : tDNewK σ H Q := g_new (o := dk [] val) q
def kBmV (x v : V) (H : Hp) (Q : VK) : Prop := ∃ l ys, x = .ref l ∧ H l = some (.lst ys) ∧ ys.length < sizeLine ∧ Q .non (upd H l (.lst (ys ++ [v])))
theorem g_bmVar (hj : σ[j]? = some (some v)) (q : ta σ H fun x H1 => kBmV x v H1 Q) : tBM K "list" rAppend ta (tCons (tVar j) tNil) σ H Q := by
  have e : (fun (x : V) (H1 : Hp) => tyV K "list" x H1 ∧ tCons (tVar j) tNil σ H1 fun xs H2 => rAppend x xs H2 Q) = fun x H1 => kBmV x v H1 Q := by
    funext x H1
    apply propext
    constructor
    · rintro ⟨_, w, hw, l, ys, y, e1, e2, h3, h4, h5⟩
      rw [hj] at hw
      cases hw
      cases e2
      exact ⟨l, ys, e1, h3, h4, h5⟩
    · rintro ⟨l, ys, e1, h3, h4, h5⟩
      subst e1
      exact ⟨.inl ⟨rfl, _, SqL.of h3⟩, v, hj, l, ys, v, rfl, rfl, h3, h4, h5⟩
  show ta σ H fun x H1 => tyV K "list" x H1 ∧ tCons (tVar j) tNil σ H1 fun xs H2 => rAppend x xs H2 Q
  rw [e]
  exact q
def kSetd (a : Addr) (y z : V) (H : Hp) (Q : VK) : Prop := ∃ (kvs : List (Key × V)) (k : Key), H a = some (.dK kvs) ∧ y = kV k ∧ kvs.length < sizeLine ∧ (∀ v, valV kvs k = some v → Q v H) ∧ (valV kvs k = none → Q z (upd H a (.dK (putK kvs k z))))
theorem g_dsetd {a : Addr} {ks : List Str} {val : Str → V} (hv : σ[i]? = some (some (.ref a))) (h : H a = some (dk ks val)) (q : ty σ H fun y H2 => tx σ H2 fun z H3 => kSetd a y z H3 Q) : tDSetd (tVar i) ty tx σ H Q :=
  ⟨_, hv, a, rfl, .inl ⟨_, .inl h⟩, q⟩
theorem g_ksetd {a : Addr} {ks : List Str} {val : Str → V} {n : Str} (h : H a = some (dk ks val)) (hl : ks.length < 1000) (q1 : n ∈ ks → Q (val n) H) (q2 : n ∉ ks → Q z (upd H a (dk (ks ++ [n]) (fup val n z)))) : kSetd a (.str n) z H Q := by
  refine ⟨_, Sum.inr n, h, rfl, by rw [List.length_map]; exact lt_line hl, fun v e => ?_, fun e => ?_⟩
  · rw [valV_dk] at e
    by_cases m : n ∈ ks
    · rw [if_pos m] at e; cases e; exact q1 m
    · rw [if_neg m] at e; cases e
  · rw [valV_dk] at e
    by_cases m : n ∈ ks
    · rw [if_pos m] at e; cases e
    · rw [putK_dk, ins_new m]; exact q2 m
theorem ls_snoc (W : List Str) (n : Str) : HO.lst (W.map V.str ++ [V.str n]) = ls (W ++ [n]) := by
  unfold ls
  rw [List.map_append]
  rfl
theorem bef_add {H H' : Hp} {b r : Addr} {ks : List Str} {bf : Str → Option Arc} {val : Str → V} {a : Arc} (h : ∀ n ∈ ks, (bf n = none ∧ val n = .non) ∨ ∃ a r, bf n = some a ∧ val n = .ref r ∧ H r = some (.tup a.row)) (t : TupE H H') (hr : H r = some (.tup a.row)) (e : H' b = some (dk (ks ++ [a.to]) (fup val a.to (.ref r)))) :
    BefAt H' b (ks ++ [a.to]) (fup bf a.to (some a)) := by
  refine ⟨_, e, fun n hn => ?_⟩
  unfold fup
  by_cases z : n = a.to
  · rw [if_pos z, if_pos z]
    exact .inr ⟨a, r, rfl, rfl, t _ _ hr⟩
  · rw [if_neg z, if_neg z]
    have hk : n ∈ ks := (List.mem_append.mp hn).elim id fun y => absurd (List.mem_singleton.mp y) z
    exact (h n hk).imp id fun ⟨a, r, q1, q2, q3⟩ => ⟨a, r, q1, q2, t _ _ q3⟩
def kGetD (a : Addr) (y z : V) (H : Hp) (Q : VK) : Prop := ∃ o, DGet H a y o ∧ Q (o.getD z) H
theorem g_dget2 {a : Addr} {ks : List Str} {val : Str → V} (hv : σ[i]? = some (some (.ref a))) (h : H a = some (dk ks val)) (q : ty σ H fun y H2 => tx σ H2 fun z H3 => kGetD a y z H3 Q) : tDGet2 (tVar i) ty tx σ H Q :=
  ⟨_, hv, a, rfl, .inl ⟨_, .inl h⟩, q⟩
theorem g_kgetD {a : Addr} {ks : List Str} {val : Str → V} {n : Str} (h : H a = some (dk ks val)) (q1 : n ∈ ks → Q (val n) H) (q2 : n ∉ ks → Q z H) : kGetD a (.str n) z H Q := by
  refine ⟨_, .inl ⟨_, Sum.inr n, .inl h, rfl, rfl⟩, ?_⟩
  rw [valV_dk]
  by_cases m : n ∈ ks
  · rw [if_pos m]; exact q1 m
  · rw [if_neg m]; exact q2 m
theorem g_kgetD2 {a : Addr} {ks : List Str} {val : Str → V} {n : Str} (h : H a = some (dk ks val)) (P : Addr → Prop) (p1 : n ∈ ks → ∃ l, val n = .ref l ∧ P l) (p2 : n ∉ ks → ∃ l, z = .ref l ∧ P l) (q : ∀ l, P l → Q (.ref l) H) : kGetD a (.str n) z H Q :=
  g_kgetD h (fun m => by obtain ⟨l, e, p⟩ := p1 m; rw [e]; exact q l p) fun m => by obtain ⟨l, e, p⟩ := p2 m; rw [e]; exact q l p
theorem But.tup {l : List Addr} {H H' : Hp} (b : But l H H') (h : ∀ a ∈ l, ∀ xs, H a ≠ some (.tup xs)) : TupE H H' := fun r xs e => b r _ (fun m => h r m xs e) e
theorem Tups.but {α : Type} {row : α → List V} {l : List Addr} {a : Addr} {xs : List α} (h : Tups row H a xs) (b : But l H H') (ha : a ∉ l) (t : TupE H H') : Tups row H' a xs := by
  obtain ⟨M, e1, e2, e3⟩ := h
  exact ⟨M, e1, b _ _ ha e2, fun p hp => t _ _ (e3 p hp)⟩
theorem in2 {P : Addr → Prop} {a b : Addr} (h1 : P a) (h2 : P b) : ∀ x ∈ [a, b], P x := fun x hx =>
  (List.mem_cons.mp hx).elim (fun e => e ▸ h1) fun y => List.mem_singleton.mp y ▸ h2
theorem ls_at {ts : List Str} {i : Nat} {n : Str} (h : ts[i]? = some n) : atI (ts.map V.str) (i : Int) = some (.str n) := atI_nat (by rw [List.getElem?_map, h]; rfl)
end
/-- the arcs by their first place; the lists are younger than H0 -/
def LvAt (H0 H : Hp) (a : Addr) (d : List Arc) : Prop := ∃ (ks : List Str) (lr : Str → Addr), H a = some (dk ks fun n => .ref (lr n)) ∧ ks.Nodup ∧ (∀ n, n ∈ ks ↔ n ∈ d.map (·.fr)) ∧
  (∀ n ∈ ks, Tups Arc.row H (lr n) (d.filter fun x => decide (x.fr = n)) ∧ H0 (lr n) = none) ∧ ∀ n ∈ ks, ∀ m ∈ ks, lr n = lr m → n = m
theorem filt_snoc (d : List Arc) (q : Arc) (n : Str) : (d ++ [q]).filter (fun x => decide (x.fr = n)) = d.filter (fun x => decide (x.fr = n)) ++ if q.fr = n then [q] else [] := by
  rw [List.filter_append]
  congr 1
  by_cases z : q.fr = n
  · rw [if_pos z, List.filter_cons, if_pos (decide_eq_true z)]; rfl
  · rw [if_neg z, List.filter_cons, if_neg (by simpa using z)]; rfl
theorem lv_add {H0 H : Hp} {a : Addr} {d : List Arc} {q : Arc} {r : Addr} {Q : VK} {nl : Addr} {ks : List Str} {lr : Str → Addr} (e0 : Same H0 H) (h1 : H a = some (dk ks fun n => .ref (lr n))) (a0 : H0 a = none) (h2 : ks.Nodup) (h3 : ∀ n, n ∈ ks ↔ n ∈ d.map (·.fr))
    (h4 : ∀ n ∈ ks, Tups Arc.row H (lr n) (d.filter fun x => decide (x.fr = n)) ∧ H0 (lr n) = none ∧ lr n ≠ nl) (h5 : ∀ n ∈ ks, ∀ m ∈ ks, lr n = lr m → n = m) (hr : H r = some (.tup q.row)) (hn : H nl = some (.lst [])) (n0 : H0 nl = none) (hd : d.length ≤ 800)
    (k : ∀ H', Same H0 H' → LvAt H0 H' a (d ++ [q]) → Q .non H') : kSetd a (.str q.fr) (.ref nl) H (fun x H1 => kBmV x (.ref r) H1 Q) := by
  have hkl : ks.length ≤ 800 := by
    have := nodup_len h2 fun x hx => (h3 x).mp hx
    rw [List.length_map] at this
    omega
  have hmem : ∀ n, n ∈ (d ++ [q]).map (·.fr) ↔ n ∈ d.map (·.fr) ∨ n = q.fr := fun n => by
    rw [List.map_append, List.mem_append]
    show _ ∨ n ∈ [q.fr] ↔ _
    rw [List.mem_singleton]
  have nan : a ≠ nl := ne_of h1 hn (by intro z; cases z)
  have nra : r ≠ a := ne_of hr h1 (by intro z; cases z)
  have nrn : r ≠ nl := ne_of hr hn (by intro z; cases z)
  refine g_ksetd h1 (by omega) (fun hm => ?_) (fun hm => ?_)
  · obtain ⟨⟨M, m1, m2, m3⟩, m4, m5⟩ := h4 _ hm
    have hMl : M.length ≤ 800 := by
      have h7 : (M.map (·.2)).length ≤ d.length := by rw [m1]; exact List.length_filter_le _ _
      rw [List.length_map] at h7
      omega
    have nal : a ≠ lr q.fr := ne_of h1 m2 (by intro z; cases z)
    have te : TupE H (upd H (lr q.fr) (.lst ((M.map (·.1)).map V.ref ++ [.ref r]))) := TupE.upd m2 (fun _ z => by cases z)
    refine ⟨lr q.fr, _, rfl, m2, by rw [List.length_map, List.length_map]; exact lt_line (by omega), k _ (sm_chg e0 m4) ⟨ks, lr, ?_, h2, fun n => ?_, fun n hn' => ?_, h5⟩⟩
    · rw [upd_ne nal]; exact h1
    · rw [hmem, ← h3]
      exact ⟨.inl, fun z => z.elim id fun e => e ▸ hm⟩
    · refine ⟨?_, (h4 n hn').2.1⟩
      rw [filt_snoc]
      by_cases z : q.fr = n
      · subst z
        rw [if_pos rfl]
        refine ⟨M ++ [(r, q)], by rw [List.map_append, m1]; rfl, ?_, fun p hp => ?_⟩
        · rw [upd_same]
          unfold rf
          rw [List.map_append, List.map_append]
          rfl
        · rcases List.mem_append.mp hp with y | y
          · exact te _ _ (m3 p y)
          · rw [List.mem_singleton.mp y]; exact te _ _ hr
      · rw [if_neg z, List.append_nil]
        exact (h4 n hn').1.but (But.upd (l := [lr q.fr]) (by simp)) (by simpa using fun e => z (h5 n hn' _ hm e).symm) te
  · have hH3 : upd H a (dk (ks ++ [q.fr]) (fup (fun n => V.ref (lr n)) q.fr (.ref nl))) nl = some (.lst []) := by rw [upd_ne nan.symm]; exact hn
    have hval : dk (ks ++ [q.fr]) (fup (fun n => V.ref (lr n)) q.fr (.ref nl)) = dk (ks ++ [q.fr]) (fun n => .ref (fup lr q.fr nl n)) := dk_congr fun n _ => by
      unfold fup
      by_cases z : n = q.fr
      · rw [if_pos z, if_pos z]
      · rw [if_neg z, if_neg z]
    have te : TupE H (upd (upd H a (dk (ks ++ [q.fr]) (fup (fun n => V.ref (lr n)) q.fr (.ref nl)))) nl (.lst ([] ++ [.ref r]))) :=
      (TupE.upd h1 (fun _ z => by cases z)).trans (TupE.upd hH3 (fun _ z => by cases z))
    refine ⟨nl, [], rfl, hH3, by decide, k _ (sm_chg (sm_chg e0 a0) n0) ⟨ks ++ [q.fr], fup lr q.fr nl, ?_, L2.nd_snoc h2 hm, fun n => ?_, fun n hn' => ?_, fun n hn' m hm' e => ?_⟩⟩
    · rw [upd_ne nan, upd_same, hval]
    · rw [hmem, List.mem_append, List.mem_singleton, h3]
    · rw [filt_snoc]
      unfold fup
      by_cases z : n = q.fr
      · rw [if_pos z, if_pos z.symm]
        refine ⟨⟨[(r, q)], ?_, ?_, fun p hp => ?_⟩, n0⟩
        · have : d.filter (fun x => decide (x.fr = n)) = [] := List.filter_eq_nil_iff.mpr fun x hx => by
            have : x.fr ≠ n := fun e => hm (z ▸ (h3 n).mpr (List.mem_map.mpr ⟨x, hx, e⟩))
            simpa using this
          rw [this]; rfl
        · rw [upd_same]; rfl
        · rw [List.mem_singleton.mp hp]; exact te _ _ hr
      · have hk : n ∈ ks := (List.mem_append.mp hn').elim id fun y => absurd (List.mem_singleton.mp y) z
        obtain ⟨t1, t2, t3⟩ := h4 n hk
        rw [if_neg z, if_neg (fun e => z e.symm), List.append_nil]
        obtain ⟨vs, ev⟩ := t1.lst
        refine ⟨t1.but (l := [a, nl]) ((But.upd (by simp)).trans (But.upd (by simp))) ?_ te, t2⟩
        have : lr n ≠ a := ne_of ev h1 (by intro z; cases z)
        simp [this, t3]
    · unfold fup at e
      by_cases z1 : n = q.fr
      · by_cases z2 : m = q.fr
        · rw [z1, z2]
        · have hk : m ∈ ks := (List.mem_append.mp hm').elim id fun y => absurd (List.mem_singleton.mp y) z2
          rw [if_pos z1, if_neg z2] at e
          exact absurd e.symm (h4 m hk).2.2
      · have hk : n ∈ ks := (List.mem_append.mp hn').elim id fun y => absurd (List.mem_singleton.mp y) z1
        by_cases z2 : m = q.fr
        · rw [if_neg z1, if_pos z2] at e
          exact absurd e (h4 n hk).2.2
        · have hk2 : m ∈ ks := (List.mem_append.mp hm').elim id fun y => absurd (List.mem_singleton.mp y) z2
          rw [if_neg z1, if_neg z2] at e
          exact h5 n hk m hk2 e
abbrev s_way_between : Stmt := top 20
abbrev N_way_between : List Str := ["arcs", "starts", "ends", "leaving", "arc", "before", "waiting", "at", "place"]
theorem sc_way_between : FnScope N_way_between ["arcs", "starts", "ends"] (defScope s_way_between) := ⟨rfl, rfl, rfl, by decide +kernel, rfl, by decide +kernel, by decide +kernel⟩
def sp_way_between (K : PySem.W.Frag) (z : Ad) : Sp := fun vs H Q _ => ∃ (a sa ea : Addr) (arcs : List Arc) (starts ends : List Str), vs = [.ref a, .ref sa, .ref ea] ∧ Tups Arc.row H a arcs ∧ H sa = some (ls starts) ∧ H ea = some (ls ends) ∧
  starts.Nodup ∧ starts.length + arcs.length ≤ 800 ∧ (∀ H', Same H H' → NoWay arcs starts ends → Q .non H') ∧ ∀ D H' w, H D = none → Same H H' → Tups Arc.row H' D w → Way arcs starts ends w → Q (.ref D) H'
theorem ok_way_between {P : Program} {w : World} {K : PySem.W.Frag} {mg : Str → Option Value} {base : Heap} {z : Ad} (T : Bi mg) (Z : Cx3 K z.C z.CM z.CR) (D : Df K mg "way_between" s_way_between ["arcs", "starts", "ends"]) (c_way_back : Cal P w K mg base 1 "way_back" (sp_way_back K z) []) : Cal P w K mg base 2 "way_between" (sp_way_between K z) [] := by
  have nd := sc_way_between.nd
  refine cal_mk D sc_way_between (by walk_at "len") (fun cdv A outer s H vs Q E f hr h => ⟨_, (pss_cons (ps_set (i := 3) nd rfl (.inl rfl) pe_dnewK)
    (pss_cons (ps_for PassesOwn.never rfl (pi_list (pv 0)) (pg_name (i := 4) nd rfl (.inl rfl))
    (pss_one (ps_expr (pe_bm PySem.F.plainAttrs_list PySem.F.slot_list_append PySem.F.type_list_append mt_append (pe_dsetd (pv 3) (pe_ix (ix_tupK (K := K) rfl) (pv 4) pe_int (fun _ _ => rfl)) (pe_lst pa_nil) ⟨by rfl, by rfl, by rfl, by rfl⟩) (pa_cons (pv 4) pa_nil)))))
    (pss_cons (ps_setDc (i := 5) (own := [("place", 8)]) rfl nd rfl rfl (sw_trueD rfl rfl rfl (by decide +kernel)) (pi_list (pv 1)) (blkOk_by (own := [("place", 8)]) (N := N_way_between) (sc := defScope s_way_between) (by decide +kernel)) (fun _ _ _ _ _ => (pg_name (i := 8) nd rfl (.inl rfl))) (fun _ _ _ _ _ => pts_nil) (fun _ _ _ _ _ => (pv 8)) (fun _ _ _ _ _ => pe_non))
    (pss_cons (ps_set (i := 6) nd rfl (.inl rfl) (pe_callTy (cr_listQ (K := K) rfl) (by rfl) T.b_list (by decide +kernel) (pa_cons (pv 1) pa_nil)))
    (pss_cons (ps_set (i := 7) nd rfl (.inl rfl) pe_int)
    (pss_cons (ps_while PassesOwn.never (pt_cmpR op_lt (pv 7) (pe_callB (cr_lenQ (K := K) rfl) (by rfl) T.b_len (by decide +kernel) (pa_cons (pv 6) pa_nil)) (nomark _))
    (pss_cons (ps_if (pt_cmpR (op_inK (K := K) rfl) (pe_ix (ix_listK (K := K) rfl) (pv 6) (pv 7) (fun _ _ => rfl)) (pv 2) rfl)
    (pss_one (ps_ret (pe_c c_way_back hr (by decide) (by rfl) (pa_cons (pv 5) (pa_cons (pe_ix (ix_listK (K := K) rfl) (pv 6) (pv 7) (fun _ _ => rfl)) pa_nil))))) pss_nil)
    (pss_cons (ps_for PassesOwn.never rfl (pi_list (pe_dget2 (hu_of hr) (pv 3) (pe_ix (ix_listK (K := K) rfl) (pv 6) (pv 7) (fun _ _ => rfl)) (pe_lst pa_nil) ⟨by rfl, by rfl, by rfl, by rfl⟩)) (pg_name (i := 4) nd rfl (.inl rfl))
    (pss_one (ps_if (pt_cmp (pc_dnotin (hu_of hr) (pe_ix (ix_tupK (K := K) rfl) (pv 4) pe_int (fun _ _ => rfl)) (pv 5)))
    (pss_cons (ps_dput (hu_of hr) (pv 5) (pe_ix (ix_tupK (K := K) rfl) (pv 4) pe_int (fun _ _ => rfl)) (pv 4) rfl)
    (pss_one (ps_expr (pe_bm PySem.F.plainAttrs_list PySem.F.slot_list_append PySem.F.type_list_append mt_append (pv 6) (pa_cons (pe_ix (ix_tupK (K := K) rfl) (pv 4) pe_int (fun _ _ => rfl)) pa_nil))))) pss_nil)))
    (pss_one (ps_aug (i := 7) nd rfl (.inl rfl) pe_int ip_add)))))
    (pss_one (ps_ret pe_non)))))))), ?_⟩)
  obtain ⟨a, sa, ea, arcs0, starts, ends, rfl, ⟨L, hL, eL, hT⟩, hs, he, snd, hlen, kn, kw⟩ := h
  subst hL
  rw [rf_fst] at eL
  generalize harcs : L.map (·.2) = arcs at *
  have hal : L.length = arcs.length := by rw [← harcs, List.length_map]
  walk_at "go"
  refine g_dnew (fun n => .ref 0) fun lv H1 hlv s1 e1 => ?_
  walk_at "go"
  refine kFor_run L fst (SqL.of (s1 _ _ eL)) (fun d σ' H' => Same H H' ∧ LvAt H H' lv (d.map (·.2)) ∧ ∃ y, σ' = [some (.ref a), some (.ref sa), some (.ref ea), some (.ref lv), y, none, none, none, none])
    ⟨s1, ⟨[], fun _ => 0, e1, List.nodup_nil, (fun n => by simp), (fun n z => by cases z), fun n z => by cases z⟩, none, rfl⟩ (fun d σ' H' ⟨s', _⟩ => SqL.of (s' _ _ eL)) (fun d q r σ' H' hL' hI => ?_) (fun σ' H' hI => ?_)
  · obtain ⟨s', ⟨ks, lr, h1, h2, h3, h4, h5⟩, y, rfl⟩ := hI
    have hq : q ∈ L := by rw [hL']; exact List.mem_append_right _ List.mem_cons_self
    have hdl : d.length ≤ 800 := by rw [hL', List.length_append] at hal; omega
    refine g_name ?_
    walk_at "go"
    refine g_bmVar (v := .ref q.1) rfl ?_
    refine g_dsetd rfl h1 ?_
    walk_at "go"
    refine g_ixT (s' _ _ (hT q hq)) rfl ?_
    walk_at "go"
    refine g_newL (by simp) fun nl H2 hnl s2 e2 => ?_
    refine lv_add (d := d.map (·.2)) (q := q.2) (L2.Same.trans s' s2) (s2 _ _ h1) hlv h2 h3 (fun n hn => ⟨(h4 n hn).1.mono s2, (h4 n hn).2, fun e => ?_⟩) h5 (s2 _ _ (s' _ _ (hT q hq))) e2 (fresh_of s' hnl) (by rw [List.length_map]; exact hdl) fun H3 s3 l3 => ?_
    · obtain ⟨vs, ev⟩ := (h4 n hn).1.lst
      rw [e, hnl] at ev
      cases ev
    · refine ⟨s3, ?_, _, rfl⟩
      rw [List.map_append]
      exact l3
  · obtain ⟨s', lva, y, rfl⟩ := hI
    rw [harcs] at lva
    walk_at "go"
    refine kDc_run starts V.str (SqL.of (s' _ _ hs)) (by omega) id (by rw [List.map_id]; exact snd) (fun _ => true) (fun _ => .non) (fun x hx H3 s3 C c1 c2 => ?_) (fun bd H3 hbd s3 e3 => ?_)
    · refine g_name ⟨rfl, ?_⟩
      walk_at "go"
      exact c1 H3 (Same.refl _) rfl
    rw [List.filter_eq_self.mpr (fun _ _ => rfl), List.map_id] at e3
    walk_at "go"
    refine g_listL (s3 _ _ (s' _ _ hs)) fun wl H4 hwl s4 e4 => ?_
    walk_at "go"
    have nbw : bd ≠ wl := ne_of_none e3 hwl
    have hbd0 : H bd = none := fresh_of s' hbd
    have hwl0 : H wl = none := fresh_of s' (fresh_of s3 hwl)
    have s04 : Same H H4 := L2.Same.trans s' (L2.Same.trans s3 s4)
    obtain ⟨ks, lr, l1, l2, l3, l4, l5⟩ := lva
    have s34 := L2.Same.trans s3 s4
    have bt_same : ∀ {H'' : Hp}, But [bd, wl] H4 H'' → Same H H'' := fun b => b.same s04 (in2 hbd0 hwl0)
    have hN : ∀ {W bf t}, Bfs arcs starts ends W bf t → W.length ≤ 800 := fun b => Nat.le_trans b.len hlen
    refine g_while (fun m σ' H' => ∃ (W : List Str) (bf : Str → Option Arc) (t : Nat) (y4 : Option V), m = starts.length + arcs.length - t ∧ σ' = [some (.ref a), some (.ref sa), some (.ref ea), some (.ref lv), y4, some (.ref bd), some (.ref wl), some (.int (t : Int)), none] ∧
        But [bd, wl] H4 H' ∧ H' wl = some (ls W) ∧ BefAt H' bd W bf ∧ Bfs arcs starts ends W bf t)
      _ ⟨starts, fun _ => none, 0, _, rfl, rfl, But.refl _ _, e4, ⟨_, s4 _ _ e3, fun n _ => .inl ⟨rfl, rfl⟩⟩, Bfs.start snd⟩ (fun m σ' H' hW => ?_) (fun σ H R R' i q => ?_)
    · obtain ⟨W, bf, t, y4, rfl, rfl, bt, ew, eb, inv⟩ := hW
      have sH := bt_same bt
      walk_at "go"
      refine g_lenL ew ?_
      walk_at "go"
      rw [List.length_map]
      refine g_ite (fun hlt => ?_) (fun hge => ?_)
      · have hlt' : t < W.length := by omega
        have hn : W[t]? = some W[t] := List.getElem?_eq_getElem hlt'
        generalize hWt : W[t] = n at hn
        have hnW : n ∈ W := List.mem_of_getElem? hn
        walk_at "go"
        refine g_ixL ew (ls_at hn) ?_
        walk_at "go"
        refine g_inS (sH _ _ he) ?_
        walk_at "go"
        refine g_ite (fun hin => ?_) (fun hin => ?_)
        · walk_at "go"
          refine g_ixL ew (ls_at hn) ?_
          walk_at "go"
          refine ⟨bd, n, W, bf, W.idxOf, rfl, eb, hnW, fun m hm x hx => ?_, ?_, fun D H5 w s hD s5 tw hs hbs hch hw => ?_⟩
          · obtain ⟨h1, h2, h3, h4⟩ := inv.par m hm x hx
            exact ⟨h1, h2, h3⟩
          · show W.idxOf n ≤ 900
            have := List.idxOf_lt_length_of_mem hnW
            have := hN inv
            omega
          · exact kw D H5 w (fresh_of sH hD) (L2.Same.trans sH s5) tw (inv.way hin hs hbs hch hw)
        · have elv : H' lv = some (dk ks fun n => .ref (lr n)) := bt _ _ (by
            have n1 : lv ≠ bd := ne_of_none l1 hbd
            have n2 : lv ≠ wl := ne_of_none (s3 _ _ l1) hwl
            simp [n1, n2]) (s34 _ _ l1)
          walk_at "go"
          refine g_dget2 rfl elv ?_
          walk_at "go"
          refine g_ixL ew (ls_at hn) ?_
          walk_at "go"
          refine g_newL (by simp) fun nl H5 hnl s5 e5 => ?_
          have nbd : ∀ xs, H4 bd ≠ some (.tup xs) := fun xs q => by rw [s4 _ _ e3] at q; cases q
          have nwl : ∀ xs, H4 wl ≠ some (.tup xs) := fun xs q => by rw [e4] at q; cases q
          have t4 : TupE H4 H' := bt.tup (in2 (P := fun x => ∀ xs, H4 x ≠ some (.tup xs)) nbd nwl)
          refine g_kgetD2 (s5 _ _ elv) (fun l => Tups Arc.row H5 l (arcs.filter fun x => decide (x.fr = n)) ∧ l ≠ bd ∧ l ≠ wl) (fun hm => ⟨lr n, rfl, ?_⟩) (fun hm => ⟨nl, rfl, ?_⟩) fun l ⟨⟨M, m1, m2, m3⟩, nl1, nl2⟩ => ?_
          · obtain ⟨t1, t2⟩ := l4 n hm
            obtain ⟨vs, ev⟩ := t1.lst
            have n1 : lr n ≠ bd := ne_of_none ev hbd
            have n2 : lr n ≠ wl := ne_of_none (s3 _ _ ev) hwl
            exact ⟨((t1.mono s34).but bt (by simp [n1, n2]) t4).mono s5, n1, n2⟩
          · have : arcs.filter (fun x => decide (x.fr = n)) = [] := List.filter_eq_nil_iff.mpr fun x hx => by
              have : x.fr ≠ n := fun e => hm ((l3 n).mpr (List.mem_map.mpr ⟨x, hx, e⟩))
              simpa using this
            rw [this]
            obtain ⟨vb, eb1, _⟩ := eb
            exact ⟨⟨[], rfl, e5, fun _ z => by cases z⟩, (fun e => by rw [e, eb1] at hnl; cases hnl), (fun e => by rw [e, ew] at hnl; cases hnl)⟩
          rw [rf_fst] at m2
          have hM : ∀ q ∈ M, q.2 ∈ arcs ∧ q.2.fr = n := fun q hq => by
            have h1 : q.2 ∈ arcs.filter fun x => decide (x.fr = n) := by rw [← m1]; exact List.mem_map.mpr ⟨q, hq, rfl⟩
            obtain ⟨h2, h3⟩ := List.mem_filter.mp h1
            exact ⟨h2, of_decide_eq_true h3⟩
          refine kFor_run M fst (SqL.of m2) (fun d σ' H6 => But [bd, wl] H5 H6 ∧ ∃ (W2 : List Str) (bf2 : Str → Option Arc) (y : Option V), H6 wl = some (ls W2) ∧ BefAt H6 bd W2 bf2 ∧ Bfs arcs starts ends W2 bf2 t ∧ (∀ q ∈ d, q.2.to ∈ W2) ∧ W2[t]? = some n ∧
              σ' = [some (.ref a), some (.ref sa), some (.ref ea), some (.ref lv), y, some (.ref bd), some (.ref wl), some (.int (t : Int)), none])
            ⟨But.refl _ _, W, bf, _, s5 _ _ ew, eb.mono s5, inv, (fun _ z => by cases z), hn, rfl⟩ (fun d σ' H6 ⟨b6, _⟩ => SqL.of (b6 _ _ (by simp [nl1, nl2]) m2)) (fun d q r σ' H6 hL' hI => ?_) (fun σ' H6 hI => ?_)
          · obtain ⟨b6, W2, bf2, y, ew2, ⟨val, eb1, eb2⟩, inv2, hd, hn2, rfl⟩ := hI
            have hq : q ∈ M := by rw [hL']; exact List.mem_append_right _ List.mem_cons_self
            obtain ⟨hqa, hqf⟩ := hM q hq
            have t5 : ∀ xs, H5 bd ≠ some (.tup xs) := fun xs q => by obtain ⟨vb, eb3, _⟩ := eb; rw [s5 _ _ eb3] at q; cases q
            have t6 : ∀ xs, H5 wl ≠ some (.tup xs) := fun xs q => by rw [s5 _ _ ew] at q; cases q
            have te : TupE H5 H6 := b6.tup (in2 (P := fun x => ∀ xs, H5 x ≠ some (.tup xs)) t5 t6)
            have eq : H6 q.1 = some (.tup q.2.row) := te _ _ (m3 q hq)
            refine g_name ?_
            walk_at "go"
            refine g_ixT eq rfl ?_
            walk_at "go"
            refine g_knin (.inl eb1) ?_
            walk_at "go"
            refine g_iteN (fun hnew => ?_) (fun hold => ?_)
            · walk_at "go"
              refine g_ixT eq rfl ?_
              refine g_kput eb1 (by have := hN inv2; omega) ?_
              rw [ins_new hnew]
              have te1 : TupE H6 (upd H6 bd (dk (W2 ++ [q.2.to]) (fup val q.2.to (.ref q.1)))) := TupE.upd eb1 (fun _ z => by cases z)
              have ew3 : (upd H6 bd (dk (W2 ++ [q.2.to]) (fup val q.2.to (.ref q.1)))) wl = some (ls W2) := by rw [upd_ne nbw.symm]; exact ew2
              walk_at "go"
              refine g_append rfl ew3 ?_
              walk_at "go"
              refine g_ixT (te1 _ _ eq) rfl ?_
              refine g_kapp ew3 (by rw [List.length_map]; have := hN inv2; omega) ?_
              rw [ls_snoc]
              have te2 : TupE H6 (upd (upd H6 bd (dk (W2 ++ [q.2.to]) (fup val q.2.to (.ref q.1)))) wl (ls (W2 ++ [q.2.to]))) := te1.trans (TupE.upd ew3 (fun _ z => by cases z))
              refine ⟨b6.trans ((But.upd (by simp)).trans (But.upd (by simp))), W2 ++ [q.2.to], fup bf2 q.2.to (some q.2), _, upd_same, ?_, inv2.add hqa (by rw [hqf]; exact List.mem_of_getElem? hn2) hnew, fun x hx => ?_, ?_, rfl⟩
              · exact bef_add eb2 te2 eq (by rw [upd_ne nbw, upd_same]; rfl)
              · rcases List.mem_append.mp hx with z | z
                · exact List.mem_append_left _ (hd x z)
                · rw [List.mem_singleton.mp z]; exact List.mem_append_right _ List.mem_cons_self
              · rw [List.getElem?_append_left (List.getElem?_eq_some_iff.mp hn2).1]
                exact hn2
            · walk_at "go"
              refine ⟨b6, W2, bf2, _, ew2, ⟨val, eb1, eb2⟩, inv2, fun x hx => ?_, hn2, rfl⟩
              rcases List.mem_append.mp hx with z | z
              · exact hd x z
              · rw [List.mem_singleton.mp z]; exact hold
          · obtain ⟨b6, W2, bf2, y, ew2, eb2, inv2, hd, hn2, rfl⟩ := hI
            walk_at "go"
            refine ⟨starts.length + arcs.length - (t + 1), ?_, W2, bf2, t + 1, y, rfl, rfl, bt.trans ((But.of s5).trans b6), ew2, eb2, inv2.next hn2 hin fun x hx hxf => ?_⟩
            · have := inv.len
              omega
            · have h1 : x ∈ M.map (·.2) := by rw [m1]; exact List.mem_filter.mpr ⟨hx, decide_eq_true hxf⟩
              obtain ⟨q, hq, e⟩ := List.mem_map.mp h1
              rw [← e]
              exact hd q hq
      · walk_at "go"
        exact kn H' sH (inv.none (by omega))
    · obtain ⟨v1, e1, v2, e2, p, ys, e3, e4, i1, j1, e5, e6, k1, e7, q⟩ := q
      exact ⟨v1, e1, v2, e2, p, ys, e3, e4, i1, j1, e5, e6, k1, e7, i _ _ q⟩

end Mh
set_option Elab.async false
set_option linter.all false
set_option maxRecDepth 100000
set_option maxHeartbeats 4000000
namespace Mh
open PySem PySem.Spec PyProof.Rows L2
open C8 (Cal Mak Met pe_c pe_mk pe_mt pe_mt0 pe_gc)
local macro_rules
  | `(tactic| walk_at "hp") => `(tactic| first | assumption | (exact upd_same) | (refine (by assumption : Same _ _) _ _ ?_; first | assumption | (refine (by assumption : Same _ _) _ _ ?_; first | assumption | (refine (by assumption : Same _ _) _ _ ?_; assumption))))
local macro_rules
  | `(tactic| walk_at "go") => `(tactic| repeat (first
    | with_reducible refine g_seq ?_
    | with_reducible refine g_asg ?_
    | with_reducible refine g_name ?_
    | with_reducible refine g_ret ?_
    | with_reducible refine g_retN ?_
    | with_reducible refine g_next ?_
    | with_reducible refine g_break ?_
    | with_reducible refine g_drop ?_
    | with_reducible refine g_if ?_
    | ((with_reducible show tVar _ _ _ _); refine g_var rfl ?_)
    | with_reducible refine g_c ?_
    | with_reducible refine g_op ?_
    | with_reducible refine g_un ?_
    | with_reducible refine g_test ?_
    | with_reducible refine g_tB ?_
    | with_reducible refine g_exb ?_
    | with_reducible refine g_exbi ?_
    | with_reducible refine g_and ?_
    | with_reducible refine g_or ?_
    | with_reducible refine g_not ?_
    | with_reducible refine g_tIf ?_
    | with_reducible refine g_andV ?_
    | with_reducible refine g_chain ?_
    | with_reducible refine g_chain3 ?_
    | with_reducible refine g_rI0 ?_
    | with_reducible refine g_rU ?_
    | with_reducible refine g_eqI ?_
    | with_reducible refine g_neI ?_
    | with_reducible refine g_eqS ?_
    | with_reducible refine g_neS ?_
    | with_reducible refine g_isNoR ?_
    | with_reducible refine g_isNoN ?_
    | with_reducible refine g_isNoS ?_
    | with_reducible refine g_notNoR ?_
    | with_reducible refine g_notNoS ?_
    | with_reducible refine g_notNoN ?_
    | with_reducible refine g_nil ?_
    | with_reducible refine g_cons ?_
    | with_reducible refine g_cb ?_
    | with_reducible refine g_call ?_
    | with_reducible refine g_tup ?_
    | with_reducible refine g_lst ?_
    | with_reducible refine g_dget ?_
    | with_reducible refine g_din ?_
    | with_reducible refine g_dnin ?_
    | with_reducible refine g_dput ?_
    | with_reducible refine g_daug ?_
    | with_reducible refine g_rAdd ?_
    | with_reducible refine g_rSub ?_
    | with_reducible refine g_tcons ?_
    | with_reducible refine g_tnil ?_
    | with_reducible refine g_forL ?_
    | with_reducible refine g_lc ?_
    | with_reducible refine g_dc ?_
    | with_reducible refine g_yes ?_
    | with_reducible refine g_ipI ?_
    | ((with_reducible show tAug _ _ _ _ _ _); refine g_aug rfl ?_)
    | with_reducible refine g_revL ?_
    | with_reducible refine g_sfld ?_
    | with_reducible refine g_abs ?_
    | with_reducible refine g_maxI ?_
    | with_reducible refine g_minI ?_
    | with_reducible refine g_int1 ?_
    | ((with_reducible refine g_modP ?_ ?_); (focus decide))
    | ((with_reducible refine g_fdivP ?_ ?_ ?_); (focus decide); (focus decide))
    | ((with_reducible refine g_mulL ?_ ?_ ?_); (focus decide); (focus decide))
    | ((with_reducible refine g_mulR ?_ ?_ ?_); (focus decide); (focus decide))
    | with_reducible refine g_forR ?_
    | with_reducible refine g_slice ?_
    | with_reducible refine g_nopart ?_
    | with_reducible refine g_part ?_
    | with_reducible refine g_partI ?_
    | with_reducible refine g_intB ?_
    | with_reducible refine g_nT ?_
    | with_reducible refine g_nF ?_
    | with_reducible refine g_T ?_
    | with_reducible refine g_F ?_))
local macro_rules
  | `(tactic| walk_at "len") => `(tactic| (intro vs H Q E h; first | (obtain ⟨e, _⟩ := h; rw [e]; rfl) | (obtain ⟨_, e, _⟩ := h; rw [e]; rfl) | (obtain ⟨_, _, e, _⟩ := h; rw [e]; rfl) | (obtain ⟨_, _, _, e, _⟩ := h; rw [e]; rfl) | (obtain ⟨_, _, _, _, e, _⟩ := h; rw [e]; rfl) | (obtain ⟨_, _, _, _, _, e, _⟩ := h; rw [e]; rfl) | (obtain ⟨_, _, _, _, _, _, e, _⟩ := h; rw [e]; rfl) | (obtain ⟨_, _, _, _, _, _, _, e, _⟩ := h; rw [e]; rfl) | (obtain ⟨_, _, _, _, _, _, _, _, e, _⟩ := h; rw [e]; rfl) | (obtain ⟨_, _, _, _, _, _, _, _, _, e, _⟩ := h; rw [e]; rfl) | (obtain ⟨_, _, _, _, _, _, _, _, _, _, e, _⟩ := h; rw [e]; rfl) | (obtain ⟨_, _, _, _, _, _, _, _, _, _, _, e, _⟩ := h; rw [e]; rfl) | (obtain ⟨_, _, _, _, _, _, _, _, _, _, _, _, e, _⟩ := h; rw [e]; rfl) | (obtain ⟨_, _, _, _, _, _, _, _, _, _, _, _, _, e, _⟩ := h; rw [e]; rfl) | (obtain ⟨_, _, _, _, _, _, _, _, _, _, _, _, _, _, e, _⟩ := h; rw [e]; rfl) | (obtain ⟨_, _, _, _, _, _, _, _, _, _, _, _, _, _, _, e, _⟩ := h; rw [e]; rfl)))
local macro_rules
  | `(tactic| walk_at "nf") => `(tactic| try simp only [L2.start, List.map_cons, List.map_nil, List.length_cons, List.length_nil, List.drop_succ_cons, List.drop_zero, List.replicate_succ, List.replicate_zero, List.cons_append, List.nil_append, List.set_cons_succ, List.set_cons_zero, Nat.reduceAdd, Nat.reduceSub])
section
variable {K : PySem.W.Frag} {σ : L2.St} {H H' : Hp} {Q : VK} {i j : Nat} {v x y z : V}
theorem g_truL {a : Addr} {xs : List V} {R : Bool → Prop} (h : H a = some (.lst xs)) (q : R (!xs.isEmpty)) : ∃ k, TruV K (.ref a) H k ∧ R k := ⟨_, .inl ⟨xs, SqL.of h, rfl⟩, q⟩
theorem g_pop {l : Addr} {xs : List V} (hv : σ[i]? = some (some (.ref l))) (h : H l = some (.lst (xs ++ [y]))) (q : Q y (upd H l (.lst xs))) : tBM0 K "list" rPop (tVar i) σ H Q :=
  ⟨_, hv, .inl ⟨rfl, _, SqL.of h⟩, l, _, y, rfl, rfl, h, by simp, by rw [List.dropLast_concat]; exact q⟩
end
theorem way_facts {L : List Ln} {lo hi f : Str → Int} {ks : List Str} (hn : (L.map (·.nm)).Nodup) (hl : L.length ≤ 30) (hks : ∀ l ∈ L, l.nm ∈ ks) {w : List Arc} {s e : Str} {rk : Str → Nat} (hc : Ch s w e) (ha : ∀ a ∈ w, a ∈ arcsOf L lo hi f ∧ rk a.fr < rk a.to) :
    (∀ a ∈ w, a.nm ∈ ks ∧ (a.sg = 1 ∨ a.sg = -1)) ∧ w.length ≤ 900 := by
  constructor
  · intro a h
    obtain ⟨l, hl, ⟨e, _⟩ | ⟨e, _⟩⟩ := arcs_inv (ha a h).1
    · rw [e]; exact ⟨hks l hl, .inl rfl⟩
    · rw [e]; exact ⟨hks l hl, .inr rfl⟩
  · have h1 := nodup_len (way_nodup hn rk w s e hc ha) (D := L.map (·.nm)) fun x hx => by
      obtain ⟨a, h2, e⟩ := List.mem_map.mp hx
      obtain ⟨l, hl, ⟨q, _⟩ | ⟨q, _⟩⟩ := arcs_inv (ha a h2).1 <;> rw [q] at e <;> exact List.mem_map.mpr ⟨l, hl, e⟩
    rw [List.length_map, List.length_map] at h1
    omega
/-- a heap in which nothing but the flows at c changed -/
structure FlE (c : Addr) (H H' : Hp) : Prop where
  bt : But [c] H H'
theorem lim_but {c b : Addr} {H H' : Hp} {ks : List Str} {lo hi f : Str → Int} (h : LimAt H b ks lo hi) (hc : H c = some (dk ks (fl f))) (n : b ≠ c) (bt : But [c] H H') : LimAt H' b ks lo hi :=
  h.but bt (fun p hp o e => ⟨ks, f, by rw [List.mem_singleton.mp hp, hc] at e; exact (Option.some.inj e).symm⟩) (by simpa using n)
theorem tups_but {α : Type} {row : α → List V} {xs : List α} {a c : Addr} {H H' : Hp} {ks : List Str} {val : Str → V} (h : Tups row H a xs) (hc : H c = some (dk ks val)) (bt : But [c] H H') : Tups row H' a xs := by
  obtain ⟨vs, ev⟩ := h.lst
  refine h.but bt (by simpa using ne_of ev hc (by intro z; cases z)) (bt.tup fun p hp xs e => ?_)
  rw [List.mem_singleton.mp hp, hc] at e
  cases e
def bnd (L : List Ln) (lo hi f : Str → Int) : Prop := ∀ l ∈ L, lo l.nm ≤ f l.nm ∧ f l.nm ≤ hi l.nm
abbrev s_push_all : Stmt := top 23
abbrev N_push_all : List Str := ["lines", "limits", "flows", "start", "end", "most", "pushed", "way"]
theorem sc_push_all : FnScope N_push_all ["lines", "limits", "flows", "start", "end", "most"] (defScope s_push_all) := ⟨rfl, rfl, rfl, by decide +kernel, rfl, by decide +kernel, by decide +kernel⟩
def sp_push_all (K : PySem.W.Frag) (z : Ad) : Sp := fun vs H Q _ => ∃ (a b c : Addr) (L : List Ln) (ks : List Str) (lo hi f : Str → Int) (s e : Str) (most : Int), vs = [.ref a, .ref b, .ref c, .str s, .str e, .int most] ∧
  Tups Ln.row H a L ∧ LimAt H b ks lo hi ∧ H c = some (dk ks (fl f)) ∧ b ≠ c ∧ (∀ l ∈ L, l.nm ∈ ks) ∧ (L.map (·.nm)).Nodup ∧ L.length ≤ 30 ∧ ks.length ≤ 30 ∧ bnd L lo hi f ∧ 0 ≤ most ∧
  ∀ H' f' n, But [c] H H' → H' c = some (dk ks (fl f')) → 0 ≤ n → n ≤ most → bnd L lo hi f' → (∀ x, x ∉ L.map (·.nm) → f' x = f x) → (∀ k, netL L f' k = netL L f k + ((if e = k then n else 0) - (if s = k then n else 0))) →
    (n = most ∨ NoWay (arcsOf L lo hi f') [s] [e]) → Q (.int n) H'
theorem ok_push_all {P : Program} {w : World} {K : PySem.W.Frag} {mg : Str → Option Value} {base : Heap} {z : Ad} (T : Bi mg) (Z : Cx3 K z.C z.CM z.CR) (D : Df K mg "push_all" s_push_all ["lines", "limits", "flows", "start", "end", "most"]) (c_arcs_of : Cal P w K mg base 1 "arcs_of" (sp_arcs_of K z) []) (c_push : Cal P w K mg base 1 "push" (sp_push K z) []) (c_way_between : Cal P w K mg base 2 "way_between" (sp_way_between K z) []) : Cal P w K mg base 3 "push_all" (sp_push_all K z) [] := by
  have nd := sc_push_all.nd
  refine cal_mk D sc_push_all (by walk_at "len") (fun cdv A outer s H vs Q E f hr h => ⟨_, (pss_cons (ps_set (i := 6) nd rfl (.inl rfl) pe_int)
    (pss_cons (ps_while PassesOwn.never (pt_cmpR op_lt (pv 6) (pv 5) (nomark _))
    (pss_cons (ps_set (i := 7) nd rfl (.inl rfl) (pe_c c_way_between hr (by decide) (by rfl) (pa_cons (pe_c c_arcs_of hr (by decide) (by rfl) (pa_cons (pv 0) (pa_cons (pv 1) (pa_cons (pv 2) pa_nil)))) (pa_cons (pe_lst (pa_cons (pv 3) pa_nil)) (pa_cons (pe_lst (pa_cons (pv 4) pa_nil)) pa_nil)))))
    (pss_cons (ps_if (pt_cmpR op_isNo (pv 7) pe_non (nomark _))
    (pss_one (ps_ret (pv 6))) pss_nil)
    (pss_one (ps_aug (i := 6) nd rfl (.inl rfl) (pe_c c_push hr (by decide) (by rfl) (pa_cons (pv 2) (pa_cons (pv 7) (pa_cons (pe_op op_sub (pv 5) (pv 6)) pa_nil)))) ip_add)))))
    (pss_one (ps_ret (pv 6))))), ?_⟩)
  obtain ⟨a, b, c, L, ks, lo, hi, f, s, e, most, rfl, hL, hb, hc, nbc, hks, hn, hl, hkl, hbd, hmost, k⟩ := h
  walk_at "go"
  refine g_while (fun m σ' H' => ∃ (n : Int) (f' : Str → Int) (y : Option V), m = (most - n).toNat ∧ σ' = [some (.ref a), some (.ref b), some (.ref c), some (.str s), some (.str e), some (.int most), some (.int n), y] ∧ But [c] H H' ∧ H' c = some (dk ks (fl f')) ∧
      0 ≤ n ∧ n ≤ most ∧ bnd L lo hi f' ∧ (∀ x, x ∉ L.map (·.nm) → f' x = f x) ∧ ∀ k, netL L f' k = netL L f k + ((if e = k then n else 0) - (if s = k then n else 0)))
    _ ⟨0, f, _, rfl, rfl, But.refl _ _, hc, by omega, hmost, hbd, (fun _ _ => rfl), fun k => by split <;> split <;> omega⟩ (fun m σ' H' hW => ?_) (fun σ H R R' i q => ?_)
  · obtain ⟨n, f', y, rfl, rfl, bt, ec, h0, h1, hb', hx, hnet⟩ := hW
    walk_at "go"
    refine g_ite (fun hlt => ?_) (fun hge => ?_)
    · walk_at "go"
      refine ⟨a, b, c, L, ks, lo, hi, f', rfl, tups_but hL hc bt, lim_but hb hc nbc bt, ec, hks, hl, fun D H1 hD s1 tD => ?_⟩
      walk_at "go"
      refine g_newL (by simp) fun p1 H2 hp1 s2 e2 => ?_
      walk_at "go"
      refine g_newL (by simp) fun p2 H3 hp2 s3 e3 => ?_
      have s13 := L2.Same.trans s1 (L2.Same.trans s2 s3)
      walk_at "go"
      refine ⟨D, p1, p2, _, [s], [e], rfl, tD.mono (L2.Same.trans s2 s3), s3 _ _ e2, e3, by simp, ?_, fun H4 s4 nw => ?_, fun W H4 w hW s4 tw hw => ?_⟩
      · have := arcsOf_len L lo hi f'
        simp only [List.length_singleton]
        omega
      · walk_at "go"
        refine k H4 f' n (bt.trans (But.of (L2.Same.trans s13 s4))) (s4 _ _ (s13 _ _ ec)) h0 h1 hb' hx hnet (.inr nw)
      · walk_at "go"
        obtain ⟨rk, s', e', hs, he, hch, ha⟩ := hw
        rw [List.mem_singleton.mp hs, List.mem_singleton.mp he] at hch
        obtain ⟨w1, w2⟩ := way_facts hn hl hks hch ha
        have s14 := L2.Same.trans s13 s4
        refine ⟨c, W, ks, f', w, most - n, rfl, s14 _ _ ec, tw, w1, w2, by omega, fun H5 m hm hmin b5 e5 => ?_⟩
        obtain ⟨q1, q2, q3, q4, q5⟩ := push_ok hn hb' hch ha hm hmin (by omega)
        walk_at "go"
        refine ⟨(most - (n + m)).toNat, by omega, n + m, pushF f' w m, _, rfl, rfl, bt.trans ((But.of s14).trans b5), e5, by omega, by omega, q3, fun x h => by rw [q4 x h, hx x h], fun kk => ?_⟩
        rw [q5, hnet]
        split <;> split <;> omega
    · walk_at "go"
      exact k H' f' n bt ec h0 h1 hb' hx hnet (.inl (by omega))
  · obtain ⟨v1, e1, v2, e2, m, n, e3, e4, k1, e5, q⟩ := q
    exact ⟨v1, e1, v2, e2, m, n, e3, e4, k1, e5, i _ _ q⟩
abbrev s_come_to : Stmt := top 26
abbrev N_come_to : List Str := ["pairs", "starts", "found", "waiting", "place", "one", "other"]
theorem sc_come_to : FnScope N_come_to ["pairs", "starts"] (defScope s_come_to) := ⟨rfl, rfl, rfl, by decide +kernel, rfl, by decide +kernel, by decide +kernel⟩
def sp_come_to (K : PySem.W.Frag) (z : Ad) : Sp := fun vs H Q _ => ∃ (a b : Addr) (ps : List (Str × Str)) (starts : List Str), vs = [.ref a, .ref b] ∧ Tups prow H a ps ∧ H b = some (ls starts) ∧ starts.Nodup ∧ starts.length + ps.length ≤ 800 ∧
  ∀ D H' ks, H D = none → Same H H' → H' D = some (dk ks fun _ => .bl true) → Q (.ref D) H'
theorem ok_come_to {P : Program} {w : World} {K : PySem.W.Frag} {mg : Str → Option Value} {base : Heap} {z : Ad} (T : Bi mg) (Z : Cx3 K z.C z.CM z.CR) (D : Df K mg "come_to" s_come_to ["pairs", "starts"])  : Cal P w K mg base 1 "come_to" (sp_come_to K z) [] := by
  have nd := sc_come_to.nd
  refine cal_mk D sc_come_to (by walk_at "len") (fun cdv A outer s H vs Q E f hr h => ⟨_, (pss_cons (ps_setDc (i := 2) (own := [("place", 4)]) rfl nd rfl rfl (sw_trueD rfl rfl rfl (by decide +kernel)) (pi_list (pv 1)) (blkOk_by (own := [("place", 4)]) (N := N_come_to) (sc := defScope s_come_to) (by decide +kernel)) (fun _ _ _ _ _ => (pg_name (i := 4) nd rfl (.inl rfl))) (fun _ _ _ _ _ => pts_nil) (fun _ _ _ _ _ => (pv 4)) (fun _ _ _ _ _ => pe_bl))
    (pss_cons (ps_set (i := 3) nd rfl (.inl rfl) (pe_callTy (cr_listQ (K := K) rfl) (by rfl) T.b_list (by decide +kernel) (pa_cons (pv 1) pa_nil)))
    (pss_cons (ps_while PassesOwn.never (pt_truth (pv 3) (by intro _; rfl))
    (pss_cons (ps_set (i := 4) nd rfl (.inl rfl) (pe_bm0 PySem.F.plainAttrs_list PySem.F.slot_list_pop PySem.F.type_list_pop mt_pop (pv 3)))
    (pss_one (ps_for PassesOwn.never rfl (pi_list (pv 0)) (pg_tupK (K := K) (n := 2) rfl rfl (pgs_cons (pg_name (i := 5) nd rfl (.inl rfl)) (pgs_cons (pg_name (i := 6) nd rfl (.inl rfl)) pgs_nil)))
    (pss_one (ps_if (PW.pt (pw_and (pt_cmpR op_eq (pv 5) (pv 4) (nomark _)) (pw_and1 (pt_cmp (pc_dnotin (hu_of hr) (pv 6) (pv 2))))))
    (pss_cons (ps_dput (hu_of hr) (pv 2) (pv 6) pe_bl rfl)
    (pss_one (ps_expr (pe_bm PySem.F.plainAttrs_list PySem.F.slot_list_append PySem.F.type_list_append mt_append (pv 3) (pa_cons (pv 6) pa_nil))))) pss_nil))))))
    (pss_one (ps_ret (pv 2)))))), ?_⟩)
  obtain ⟨a, b, ps, starts, rfl, ⟨L, hL, eL, hT⟩, hb, snd, hlen, k⟩ := h
  subst hL
  rw [rf_fst] at eL
  rw [List.length_map] at hlen
  have hal : L.length ≤ 800 := by omega
  walk_at "go"
  refine kDc_run starts V.str (SqL.of hb) (by omega) id (by rw [List.map_id]; exact snd) (fun _ => true) (fun _ => .bl true) (fun x hx H3 s3 C c1 c2 => ?_) (fun D H1 hD s1 e1 => ?_)
  · refine g_name ⟨rfl, ?_⟩
    walk_at "go"
    exact c1 H3 (Same.refl _) rfl
  rw [List.filter_eq_self.mpr (fun _ _ => rfl), List.map_id] at e1
  walk_at "go"
  refine g_listL (s1 _ _ hb) fun wl H2 hwl s2 e2 => ?_
  walk_at "go"
  have nbw : D ≠ wl := ne_of_none e1 hwl
  have hwl0 : H wl = none := fresh_of s1 hwl
  have s02 := L2.Same.trans s1 s2
  have nD : ∀ xs, H2 D ≠ some (.tup xs) := fun xs q => by rw [s2 _ _ e1] at q; cases q
  have nW : ∀ xs, H2 wl ≠ some (.tup xs) := fun xs q => by rw [e2] at q; cases q
  have Lne : a ∉ [D, wl] := by
    have n1 : a ≠ D := ne_of_none eL hD
    have n2 : a ≠ wl := ne_of_none eL hwl0
    simp [n1, n2]
  have hbnd : ∀ ks : List Str, ks.Nodup → (∀ x ∈ ks, x ∈ starts ++ L.map (·.2.2)) → ks.length ≤ starts.length + L.length := fun ks h1 h2 => by
    have := nodup_len h1 h2
    rw [List.length_append, List.length_map] at this
    exact this
  refine g_while (fun m σ' H' => ∃ (ks wt : List Str) (y4 y5 y6 : Option V), m + 2 * ks.length = 2 * (starts.length + L.length) + wt.length ∧ σ' = [some (.ref a), some (.ref b), some (.ref D), some (.ref wl), y4, y5, y6] ∧
      But [D, wl] H2 H' ∧ H' D = some (dk ks fun _ => .bl true) ∧ H' wl = some (ls wt) ∧ ks.Nodup ∧ (∀ x ∈ ks, x ∈ starts ++ L.map (·.2.2)) ∧ wt.length ≤ ks.length)
    (starts.length + 2 * L.length) ⟨starts, starts, _, _, _, by omega, rfl, But.refl _ _, s2 _ _ e1, e2, snd, (fun x hx => List.mem_append_left _ hx), Nat.le_refl _⟩ (fun m σ' H' hW => ?_) (fun σ H R R' i q => ?_)
  · obtain ⟨ks, wt, y4, y5, y6, hm, rfl, bt, eD, ew, knd, ksub, hwk⟩ := hW
    walk_at "go"
    refine g_truL ew ?_
    rcases List.eq_nil_or_concat wt with rfl | ⟨wr, pl, rfl⟩
    · rw [show (!(([] : List Str).map V.str).isEmpty) = false from rfl]
      walk_at "go"
      exact k D H' ks hD (bt.same s02 (in2 hD hwl0)) eD
    · have hne : (!((wr.concat pl).map V.str).isEmpty) = true := by simp
      rw [hne]
      rw [List.concat_eq_append] at *
      walk_at "go"
      have ew' : H' wl = some (.lst (wr.map V.str ++ [.str pl])) := by
        rw [ew]
        unfold ls
        rw [List.map_append]
        rfl
      refine g_pop rfl ew' ?_
      walk_at "go"
      have b0 : But [D, wl] H2 (upd H' wl (.lst (wr.map V.str))) := bt.trans (But.upd (by simp))
      rw [List.length_append, List.length_singleton] at hm hwk
      refine kFor_run L fst (SqL.of (b0 _ _ Lne (s02 _ _ eL))) (fun d σ' H6 => ∃ (ks wt : List Str) (y5 y6 : Option V), σ' = [some (.ref a), some (.ref b), some (.ref D), some (.ref wl), some (.str pl), y5, y6] ∧ ∃ m', m' < m ∧ m' + 2 * ks.length = 2 * (starts.length + L.length) + wt.length ∧
        But [D, wl] H2 H6 ∧ H6 D = some (dk ks fun _ => .bl true) ∧ H6 wl = some (ls wt) ∧ ks.Nodup ∧ (∀ x ∈ ks, x ∈ starts ++ L.map (·.2.2)) ∧ wt.length ≤ ks.length)
        ?_ (fun d σ' H6 hI => ?_) (fun d q r σ' H6 hL' hI => ?_) (fun σ' H6 hI => ?_)
      · have := hbnd ks knd ksub
        exact ⟨ks, wr, _, _, rfl, m - 1, by omega, by omega, b0, by rw [upd_ne nbw]; exact eD, upd_same, knd, ksub, by omega⟩
      · obtain ⟨ks2, wt2, y5, y6, rfl, m2, hlt2, hm2, b2, _⟩ := hI
        exact SqL.of (b2 _ _ Lne (s02 _ _ eL))
      · obtain ⟨ks2, wt2, y5, y6, rfl, m2, hlt2, hm2, b2, eD2, ew2, knd2, ksub2, hwk2⟩ := hI
        have hq : q ∈ L := by rw [hL']; exact List.mem_append_right _ List.mem_cons_self
        have t6 : TupE H2 H6 := b2.tup (in2 (P := fun x => ∀ xs, H2 x ≠ some (.tup xs)) nD nW)
        have hk2 := hbnd ks2 knd2 ksub2
        refine g_prw (t6 _ _ (s02 _ _ (hT q hq))) ?_
        walk_at "go"
        refine g_ite (fun heq => ?_) (fun hne => ?_)
        · walk_at "go"
          refine g_knin (.inl eD2) ?_
          walk_at "go"
          refine g_iteN (fun hnew => ?_) (fun hold => ?_)
          · walk_at "go"
            refine g_kput eD2 (by omega) ?_
            rw [ins_new hnew]
            have ew3 : (upd H6 D (dk (ks2 ++ [q.2.2]) (fup (fun _ => V.bl true) q.2.2 (.bl true)))) wl = some (ls wt2) := by rw [upd_ne nbw.symm]; exact ew2
            walk_at "go"
            refine g_append rfl ew3 ?_
            walk_at "go"
            refine g_kapp ew3 (by rw [List.length_map]; omega) ?_
            rw [ls_snoc]
            have hk3 := hbnd (ks2 ++ [q.2.2]) (L2.nd_snoc knd2 hnew) fun x hx => (List.mem_append.mp hx).elim (ksub2 x) fun z => by
              rw [List.mem_singleton.mp z]; exact List.mem_append_right _ (List.mem_map.mpr ⟨q, hq, rfl⟩)
            rw [List.length_append, List.length_singleton] at hk3
            refine ⟨ks2 ++ [q.2.2], wt2 ++ [q.2.2], _, _, rfl, m2 - 1, by omega, ?_, b2.trans ((But.upd (by simp)).trans (But.upd (by simp))), ?_, upd_same, L2.nd_snoc knd2 hnew, fun x hx => ?_, ?_⟩
            · rw [List.length_append, List.length_append, List.length_singleton]; omega
            · rw [upd_ne nbw, upd_same]
              congr 1
              refine dk_congr fun x _ => ?_
              unfold fup
              split <;> rfl
            · rcases List.mem_append.mp hx with z | z
              · exact ksub2 x z
              · rw [List.mem_singleton.mp z]; exact List.mem_append_right _ (List.mem_map.mpr ⟨q, hq, rfl⟩)
            · rw [List.length_append, List.length_append, List.length_singleton]; omega
          · walk_at "go"
            exact ⟨ks2, wt2, _, _, rfl, m2, hlt2, hm2, b2, eD2, ew2, knd2, ksub2, hwk2⟩
        · walk_at "go"
          exact ⟨ks2, wt2, _, _, rfl, m2, hlt2, hm2, b2, eD2, ew2, knd2, ksub2, hwk2⟩
      · obtain ⟨ks2, wt2, y5, y6, rfl, m2, hlt2, hm2, b2, eD2, ew2, knd2, ksub2, hwk2⟩ := hI
        exact ⟨m2, hlt2, ks2, wt2, _, _, _, hm2, rfl, b2, eD2, ew2, knd2, ksub2, hwk2⟩
  · obtain ⟨v1, e1, k1, t1, q⟩ := q
    exact ⟨v1, e1, k1, t1, i _ _ q⟩

end Mh
set_option Elab.async false
set_option linter.all false
set_option maxRecDepth 100000
set_option maxHeartbeats 4000000
namespace Mh
open PySem PySem.Spec PyProof.Rows L2
open C8 (Cal Mak Met pe_c pe_mk pe_mt pe_mt0 pe_gc)
local macro_rules
  | `(tactic| walk_at "hp") => `(tactic| first | assumption | (exact upd_same) | (refine (by assumption : Same _ _) _ _ ?_; first | assumption | (refine (by assumption : Same _ _) _ _ ?_; first | assumption | (refine (by assumption : Same _ _) _ _ ?_; assumption))))
local macro_rules
  | `(tactic| walk_at "go") => `(tactic| repeat (first
    | with_reducible refine g_seq ?_
    | with_reducible refine g_asg ?_
    | with_reducible refine g_name ?_
    | with_reducible refine g_ret ?_
    | with_reducible refine g_retN ?_
    | with_reducible refine g_next ?_
    | with_reducible refine g_break ?_
    | with_reducible refine g_drop ?_
    | with_reducible refine g_if ?_
    | ((with_reducible show tVar _ _ _ _); refine g_var rfl ?_)
    | with_reducible refine g_c ?_
    | with_reducible refine g_op ?_
    | with_reducible refine g_un ?_
    | with_reducible refine g_test ?_
    | with_reducible refine g_tB ?_
    | with_reducible refine g_exb ?_
    | with_reducible refine g_exbi ?_
    | with_reducible refine g_and ?_
    | with_reducible refine g_or ?_
    | with_reducible refine g_not ?_
    | with_reducible refine g_tIf ?_
    | with_reducible refine g_andV ?_
    | with_reducible refine g_chain ?_
    | with_reducible refine g_chain3 ?_
    | with_reducible refine g_rI0 ?_
    | with_reducible refine g_rU ?_
    | with_reducible refine g_eqI ?_
    | with_reducible refine g_neI ?_
    | with_reducible refine g_eqS ?_
    | with_reducible refine g_neS ?_
    | with_reducible refine g_isNoR ?_
    | with_reducible refine g_isNoN ?_
    | with_reducible refine g_isNoS ?_
    | with_reducible refine g_notNoR ?_
    | with_reducible refine g_notNoS ?_
    | with_reducible refine g_notNoN ?_
    | with_reducible refine g_nil ?_
    | with_reducible refine g_cons ?_
    | with_reducible refine g_cb ?_
    | with_reducible refine g_call ?_
    | with_reducible refine g_tup ?_
    | with_reducible refine g_lst ?_
    | with_reducible refine g_dget ?_
    | with_reducible refine g_din ?_
    | with_reducible refine g_dnin ?_
    | with_reducible refine g_dput ?_
    | with_reducible refine g_daug ?_
    | with_reducible refine g_rAdd ?_
    | with_reducible refine g_rSub ?_
    | with_reducible refine g_tcons ?_
    | with_reducible refine g_tnil ?_
    | with_reducible refine g_forL ?_
    | with_reducible refine g_lc ?_
    | with_reducible refine g_dc ?_
    | with_reducible refine g_yes ?_
    | with_reducible refine g_ipI ?_
    | ((with_reducible show tAug _ _ _ _ _ _); refine g_aug rfl ?_)
    | with_reducible refine g_revL ?_
    | with_reducible refine g_sfld ?_
    | with_reducible refine g_abs ?_
    | with_reducible refine g_maxI ?_
    | with_reducible refine g_minI ?_
    | with_reducible refine g_int1 ?_
    | ((with_reducible refine g_modP ?_ ?_); (focus decide))
    | ((with_reducible refine g_fdivP ?_ ?_ ?_); (focus decide); (focus decide))
    | ((with_reducible refine g_mulL ?_ ?_ ?_); (focus decide); (focus decide))
    | ((with_reducible refine g_mulR ?_ ?_ ?_); (focus decide); (focus decide))
    | with_reducible refine g_forR ?_
    | with_reducible refine g_slice ?_
    | with_reducible refine g_nopart ?_
    | with_reducible refine g_part ?_
    | with_reducible refine g_partI ?_
    | with_reducible refine g_intB ?_
    | with_reducible refine g_nT ?_
    | with_reducible refine g_nF ?_
    | with_reducible refine g_T ?_
    | with_reducible refine g_F ?_))
local macro_rules
  | `(tactic| walk_at "len") => `(tactic| (intro vs H Q E h; first | (obtain ⟨e, _⟩ := h; rw [e]; rfl) | (obtain ⟨_, e, _⟩ := h; rw [e]; rfl) | (obtain ⟨_, _, e, _⟩ := h; rw [e]; rfl) | (obtain ⟨_, _, _, e, _⟩ := h; rw [e]; rfl) | (obtain ⟨_, _, _, _, e, _⟩ := h; rw [e]; rfl) | (obtain ⟨_, _, _, _, _, e, _⟩ := h; rw [e]; rfl) | (obtain ⟨_, _, _, _, _, _, e, _⟩ := h; rw [e]; rfl) | (obtain ⟨_, _, _, _, _, _, _, e, _⟩ := h; rw [e]; rfl) | (obtain ⟨_, _, _, _, _, _, _, _, e, _⟩ := h; rw [e]; rfl) | (obtain ⟨_, _, _, _, _, _, _, _, _, e, _⟩ := h; rw [e]; rfl) | (obtain ⟨_, _, _, _, _, _, _, _, _, _, e, _⟩ := h; rw [e]; rfl) | (obtain ⟨_, _, _, _, _, _, _, _, _, _, _, e, _⟩ := h; rw [e]; rfl) | (obtain ⟨_, _, _, _, _, _, _, _, _, _, _, _, e, _⟩ := h; rw [e]; rfl) | (obtain ⟨_, _, _, _, _, _, _, _, _, _, _, _, _, e, _⟩ := h; rw [e]; rfl) | (obtain ⟨_, _, _, _, _, _, _, _, _, _, _, _, _, _, e, _⟩ := h; rw [e]; rfl) | (obtain ⟨_, _, _, _, _, _, _, _, _, _, _, _, _, _, _, e, _⟩ := h; rw [e]; rfl)))
local macro_rules
  | `(tactic| walk_at "nf") => `(tactic| try simp only [L2.start, List.map_cons, List.map_nil, List.length_cons, List.length_nil, List.drop_succ_cons, List.drop_zero, List.replicate_succ, List.replicate_zero, List.cons_append, List.nil_append, List.set_cons_succ, List.set_cons_zero, Nat.reduceAdd, Nat.reduceSub])
section
variable {K : PySem.W.Frag} {σ : L2.St} {H : Hp} {Q : VK} {E : XK} {sp : Sp} {ts : TA} {td te : TE} {tt : TT} {g : TG} {vs : List Nat} {i : Nat}
def kMk (C : Addr) (sp : Sp) (E : XK) (vs : List V) (H : Hp) (Q : VK) : Prop := ∀ x dx, H x = none → H dx = none → dx ≠ x → sp (.ref x :: vs) (upd (upd H dx (.own x)) x (.ins C dx [])) (fun v H2 => v = .non ∧ Q (.ref x) H2) E
theorem g_mk {C : Addr} (q : ts σ H fun vs H1 => kMk C sp E vs H1 Q) : tMake C sp [] E ts σ H Q := by
  have e : (fun (vs : List V) (H1 : Hp) => ∀ x dx, H1 x = none → H1 dx = none → dx ≠ x → sp (.ref x :: (vs ++ [])) (upd (upd H1 dx (.own x)) x (.ins C dx [])) (fun v H2 => v = .non ∧ Q (.ref x) H2) E) = fun vs H1 => kMk C sp E vs H1 Q := by
    funext vs H1
    rw [List.append_nil]
    rfl
  show ts σ H fun vs H1 => _
  rw [e]
  exact q
theorem mk_same {x dx : Addr} {C : Addr} (h1 : H x = none) (h2 : H dx = none) : Same H (upd (upd H dx (.own x)) x (.ins C dx [])) := fun b o e => by
  rw [upd_ne (ne_of_none e h1), upd_ne (ne_of_none e h2)]
  exact e
/-- what stands after a new object was filled -/
theorem mk_after {x dx : Addr} {C : Addr} {H' : Hp} (h1 : H x = none) (h2 : H dx = none) (q : ∀ b o, b ≠ x → (upd (upd H dx (.own x)) x (.ins C dx [])) b = some o → H' b = some o) : Same H H' := fun b o e =>
  q b o (ne_of_none e h1) (mk_same h1 h2 _ _ e)
def kVals (g : TG) (tt : TT) (te : TE) (vs : List Nat) (σ : L2.St) (x : V) (H1 : Hp) (Q : VK) : Prop := ∃ d u, x = .ref d ∧ H1 d = some u ∧ Mut (some u) ∧ ∀ od, ∃ d' o kvs, x = .ref d' ∧ (upd H1 d (.frz od u)) d' = some (.frz o (.dK kvs)) ∧ ∀ D, (upd H1 d (.frz od u)) D = none → ∃ W : Nat → Nat → Hp → Prop, (∃ m, W 0 m (upd (upd H1 d (.frz od u)) D (.lst []))) ∧ ∀ i m H, W i m H →
  ((Itd d' o kvs).stop i H ∧ Q (.ref D) H) ∨ ((Itd d' o kvs).go i H ∧ ∃ Nx : Hp → Prop, (∀ H', Nx H' → ∃ m', m' < m ∧ W (i + 1) m' H') ∧ ∀ x H', (Itd d' o kvs).yld i H x H' → g x (wipe σ vs) H' fun σ2 H2 => wipe σ2 vs = wipe σ vs ∧ tt σ2 H2 fun b H3 =>
    if b = true then te σ2 H3 fun y H4 => ∃ acc, H4 D = some (.lst acc) ∧ acc.length < sizeLine ∧ Nx (upd H4 D (.lst (acc ++ [y]))) else Nx H3)
theorem g_vals (q : td σ H fun x H1 => kVals g tt te vs σ x H1 Q) : tLc (iVals (tFrz td)) g tt te vs σ H Q := q
theorem kVals_run {H0 : Hp} {d : Addr} {ks : List Str} {val : Str → V} (h : H d = some (dk ks val)) (s0 : Same H0 H) (hd : H0 d = none) (hz : ks.length ≤ 900) (F : Str → Option V)
    (step : ∀ y ∈ ks, ∀ H1, Same H0 H1 → ∀ C : Option V → Hp → Prop, (∀ H2, Same H1 H2 → C (F y) H2) → It1 g tt te (wipe σ vs) vs (val y) H1 C)
    (k : ∀ D H1, H0 D = none → Same H0 H1 → H1 D = some (.lst (ks.filterMap F)) → Q (.ref D) H1) : kVals g tt te vs σ (.ref d) H Q := by
  refine ⟨d, _, rfl, h, True.intro, fun od => ⟨d, od, _, rfl, upd_same, ?_⟩⟩
  have s1 : Same H0 (upd H d (.frz od (dk ks val))) := sm_chg s0 hd
  exact lcJ_pure (wk_vals upd_same) hz F (fun y hy x H1 s it C c => by subst it; exact step y hy H1 (L2.Same.trans s1 s) C c) fun D H1 hD s e => k D H1 (fresh_of s1 hD) (L2.Same.trans s1 s) e
end
abbrev s_leading_to : Stmt := top 24
abbrev N_leading_to : List Str := ["lines", "limits", "flows", "ends", "pairs", "arc"]
theorem sc_leading_to : FnScope N_leading_to ["lines", "limits", "flows", "ends"] (defScope s_leading_to) := ⟨rfl, rfl, rfl, by decide +kernel, rfl, by decide +kernel, by decide +kernel⟩
def sp_leading_to (K : PySem.W.Frag) (z : Ad) : Sp := fun vs H Q _ => ∃ (a b c d : Addr) (L : List Ln) (ks : List Str) (lo hi f : Str → Int) (ends : List Str), vs = [.ref a, .ref b, .ref c, .ref d] ∧ Tups Ln.row H a L ∧ LimAt H b ks lo hi ∧ H c = some (dk ks (fl f)) ∧
  (∀ l ∈ L, l.nm ∈ ks) ∧ L.length ≤ 30 ∧ H d = some (ls ends) ∧ ends.Nodup ∧ ends.length ≤ 30 ∧ ∀ D H' ks, H D = none → Same H H' → H' D = some (dk ks fun _ => .bl true) → Q (.ref D) H'
theorem ok_leading_to {P : Program} {w : World} {K : PySem.W.Frag} {mg : Str → Option Value} {base : Heap} {z : Ad} (T : Bi mg) (Z : Cx3 K z.C z.CM z.CR) (D : Df K mg "leading_to" s_leading_to ["lines", "limits", "flows", "ends"]) (c_arcs_of : Cal P w K mg base 1 "arcs_of" (sp_arcs_of K z) []) (c_come_to : Cal P w K mg base 1 "come_to" (sp_come_to K z) []) : Cal P w K mg base 2 "leading_to" (sp_leading_to K z) [] := by
  have nd := sc_leading_to.nd
  refine cal_mk D sc_leading_to (by walk_at "len") (fun cdv A outer s H vs Q E f hr h => ⟨_, (pss_cons (ps_setLc (i := 4) (own := [("arc", 5)]) rfl nd rfl rfl (sw_true rfl rfl rfl (by decide +kernel)) (pi_list (pe_c c_arcs_of hr (by decide) (by rfl) (pa_cons (pv 0) (pa_cons (pv 1) (pa_cons (pv 2) pa_nil))))) (blkOk_by (own := [("arc", 5)]) (N := N_leading_to) (sc := defScope s_leading_to) (by decide +kernel)) (fun _ _ _ _ _ => (pg_name (i := 5) nd rfl (.inl rfl))) (fun _ _ _ _ _ => pts_nil) (fun _ _ _ _ _ => (pe_tup (pa_cons (pe_ix (ix_tupK (K := K) rfl) (pv 5) pe_int (fun _ _ => rfl)) (pa_cons (pe_ix (ix_tupK (K := K) rfl) (pv 5) pe_int (fun _ _ => rfl)) pa_nil)))))
    (pss_one (ps_ret (pe_c c_come_to hr (by decide) (by rfl) (pa_cons (pv 4) (pa_cons (pv 3) pa_nil)))))), ?_⟩)
  obtain ⟨a, b, c, d, L, ks, lo, hi, f, ends, rfl, hL, hb, hc, hks, hl, hd, ed, el, k⟩ := h
  walk_at "go"
  refine ⟨a, b, c, L, ks, lo, hi, f, rfl, hL, hb, hc, hks, hl, fun D H1 hD s1 ⟨M, hM, eM, hT⟩ => ?_⟩
  rw [rf_fst] at eM
  have hlen : M.length ≤ 60 := by
    have h1 := arcsOf_len L lo hi f
    rw [← hM, List.length_map] at h1
    omega
  refine kLc_tups M fst (fun _ => true) (fun q => ((q.2.to, q.2.fr) : Str × Str)) prow (SqL.of eM) (by omega) (fun q hq H2 s2 C c1 c2 => ?_) (fun D2 H2 hD2 s2 t2 => ?_)
  · refine g_name ⟨rfl, ?_⟩
    walk_at "go"
    refine g_ixT (s2 _ _ (hT q hq)) rfl ?_
    walk_at "go"
    refine g_ixT (s2 _ _ (hT q hq)) rfl ?_
    walk_at "go"
    exact g_newT (by simp) fun r H3 hr3 s3 e3 => c2 r H3 s3 rfl e3
  · walk_at "go"
    have s02 := L2.Same.trans s1 s2
    refine ⟨D2, d, _, ends, rfl, t2, s02 _ _ hd, ed, ?_, fun D3 H3 ks' hD3 s3 e3 => k D3 H3 ks' (fresh_of s02 hD3) (L2.Same.trans s02 s3) e3⟩
    have := List.length_filter_le (fun _ : Addr × Arc => true) M
    rw [List.length_map]
    omega
abbrev s_led_from : Stmt := top 25
abbrev N_led_from : List Str := ["lines", "limits", "flows", "starts", "pairs", "arc"]
theorem sc_led_from : FnScope N_led_from ["lines", "limits", "flows", "starts"] (defScope s_led_from) := ⟨rfl, rfl, rfl, by decide +kernel, rfl, by decide +kernel, by decide +kernel⟩
def sp_led_from (K : PySem.W.Frag) (z : Ad) : Sp := sp_leading_to K z
theorem ok_led_from {P : Program} {w : World} {K : PySem.W.Frag} {mg : Str → Option Value} {base : Heap} {z : Ad} (T : Bi mg) (Z : Cx3 K z.C z.CM z.CR) (D : Df K mg "led_from" s_led_from ["lines", "limits", "flows", "starts"]) (c_arcs_of : Cal P w K mg base 1 "arcs_of" (sp_arcs_of K z) []) (c_come_to : Cal P w K mg base 1 "come_to" (sp_come_to K z) []) : Cal P w K mg base 2 "led_from" (sp_led_from K z) [] := by
  have nd := sc_led_from.nd
  refine cal_mk D sc_led_from (by walk_at "len") (fun cdv A outer s H vs Q E f hr h => ⟨_, (pss_cons (ps_setLc (i := 4) (own := [("arc", 5)]) rfl nd rfl rfl (sw_true rfl rfl rfl (by decide +kernel)) (pi_list (pe_c c_arcs_of hr (by decide) (by rfl) (pa_cons (pv 0) (pa_cons (pv 1) (pa_cons (pv 2) pa_nil))))) (blkOk_by (own := [("arc", 5)]) (N := N_led_from) (sc := defScope s_led_from) (by decide +kernel)) (fun _ _ _ _ _ => (pg_name (i := 5) nd rfl (.inl rfl))) (fun _ _ _ _ _ => pts_nil) (fun _ _ _ _ _ => (pe_tup (pa_cons (pe_ix (ix_tupK (K := K) rfl) (pv 5) pe_int (fun _ _ => rfl)) (pa_cons (pe_ix (ix_tupK (K := K) rfl) (pv 5) pe_int (fun _ _ => rfl)) pa_nil)))))
    (pss_one (ps_ret (pe_c c_come_to hr (by decide) (by rfl) (pa_cons (pv 4) (pa_cons (pv 3) pa_nil)))))), ?_⟩)
  obtain ⟨a, b, c, d, L, ks, lo, hi, f, ends, rfl, hL, hb, hc, hks, hl, hd, ed, el, k⟩ := h
  walk_at "go"
  refine ⟨a, b, c, L, ks, lo, hi, f, rfl, hL, hb, hc, hks, hl, fun D H1 hD s1 ⟨M, hM, eM, hT⟩ => ?_⟩
  rw [rf_fst] at eM
  have hlen : M.length ≤ 60 := by
    have h1 := arcsOf_len L lo hi f
    rw [← hM, List.length_map] at h1
    omega
  refine kLc_tups M fst (fun _ => true) (fun q => ((q.2.fr, q.2.to) : Str × Str)) prow (SqL.of eM) (by omega) (fun q hq H2 s2 C c1 c2 => ?_) (fun D2 H2 hD2 s2 t2 => ?_)
  · refine g_name ⟨rfl, ?_⟩
    walk_at "go"
    refine g_ixT (s2 _ _ (hT q hq)) rfl ?_
    walk_at "go"
    refine g_ixT (s2 _ _ (hT q hq)) rfl ?_
    walk_at "go"
    exact g_newT (by simp) fun r H3 hr3 s3 e3 => c2 r H3 s3 rfl e3
  · walk_at "go"
    have s02 := L2.Same.trans s1 s2
    refine ⟨D2, d, _, ends, rfl, t2, s02 _ _ hd, ed, ?_, fun D3 H3 ks' hD3 s3 e3 => k D3 H3 ks' (fresh_of s02 hD3) (L2.Same.trans s02 s3) e3⟩
    have := List.length_filter_le (fun _ : Addr × Arc => true) M
    rw [List.length_map]
    omega
/-- a Missing at x: its number, its flows -/
def MisAt (C : Addr) (H : Hp) (x : Addr) (n : Int) (D : Addr) : Prop := ∃ dx o1 o2, H x = some (.ins C dx [("number", .int n), ("flows", .ref D), ("least", o1), ("greatest", o2)])
abbrev s_Missing___init__ : Stmt := inClass (top 28) 0
abbrev N_Missing___init__ : List Str := ["self", "number", "flows", "least", "greatest"]
theorem sc_Missing___init__ : FnScope N_Missing___init__ ["self", "number", "flows", "least", "greatest"] (defScope s_Missing___init__) := ⟨rfl, rfl, rfl, by decide +kernel, rfl, by decide +kernel, by decide +kernel⟩
def sp_Missing___init__ (K : PySem.W.Frag) (z : Ad) : Sp := fun vs H Q _ => ∃ (x dx c l1 l2 : Addr) (n : Int) (ks xs ys : List Str) (f : Str → Int), vs = [.ref x, .int n, .ref c, .ref l1, .ref l2] ∧ H x = some (.ins z.CM dx []) ∧ H c = some (dk ks (fl f)) ∧ H l1 = some (ls xs) ∧ H l2 = some (ls ys) ∧
  ∀ H' D, (∀ b o, b ≠ x → H b = some o → H' b = some o) → H D = none → H' D = some (dk ks (fl f)) → MisAt z.CM H' x n D → Q .non H'
theorem ok_Missing___init__ {P : Program} {w : World} {K : PySem.W.Frag} {mg : Str → Option Value} {base : Heap} {z : Ad} (T : Bi mg) (Z : Cx3 K z.C z.CM z.CR) (D : Dk K mg "Missing" "Missing.__init__" z.CM s_Missing___init__ ["self", "number", "flows", "least", "greatest"])  : Mak P w K mg base 1 "Missing" z.CM (sp_Missing___init__ K z) [] := by
  have nd := sc_Missing___init__.nd
  refine mak_mk D sc_Missing___init__ (by walk_at "len") (fun cdv A outer s H vs Q E f hr h => ⟨_, (pss_cons (ps_fld (pv 0) (pv 1) rfl)
    (pss_cons (ps_fld (pv 0) (pe_callTy cr_dictDk (by rfl) T.b_dict (by decide +kernel) (pa_cons (pv 2) pa_nil)) rfl)
    (pss_cons (ps_fld (pv 0) (pe_callTy (cr_listQ (K := K) rfl) (by rfl) T.b_list (by decide +kernel) (pa_cons (pv 3) pa_nil)) rfl)
    (pss_one (ps_fld (pv 0) (pe_callTy (cr_listQ (K := K) rfl) (by rfl) T.b_list (by decide +kernel) (pa_cons (pv 4) pa_nil)) rfl))))), ?_⟩)
  obtain ⟨x, dx, c, l1, l2, n, ks, xs, ys, f, rfl, hx, hc, h1, h2, k⟩ := h
  have nc : c ≠ x := ne_of hc hx (by intro z; cases z)
  have n1 : l1 ≠ x := ne_of h1 hx (by intro z; cases z)
  have n2 : l2 ≠ x := ne_of h2 hx (by intro z; cases z)
  walk_at "go"
  refine g_kfld hx Z.clM Z.mN (by simp) ?_
  rw [show putF "number" (V.int n) [] = [(("number" : Str), V.int n)] from rfl]
  walk_at "go"
  refine g_dictD (.inl (by rw [upd_ne nc]; exact hc)) fun D H1 hD s1 e1 => ?_
  have hx1 := s1 x _ upd_same
  have nD : D ≠ x := fun q => by rw [q, upd_same] at hD; cases hD
  have hD0 : H D = none := by rw [upd_ne nD] at hD; exact hD
  walk_at "go"
  refine g_kfld hx1 Z.clM Z.mF (by simp) ?_
  rw [show putF "flows" (V.ref D) [(("number" : Str), V.int n)] = [(("number" : Str), V.int n), (("flows" : Str), .ref D)] by
    show (if ("number" : Str) = "flows" then _ else _) = _
    rw [if_neg (by decide +kernel)]
    rfl]
  walk_at "go"
  have h1' : ∀ o, (upd H1 x o) l1 = some (ls xs) := fun o => by rw [upd_ne n1]; exact s1 _ _ (by rw [upd_ne n1]; exact h1)
  have h2' : ∀ o, (upd H1 x o) l2 = some (ls ys) := fun o => by rw [upd_ne n2]; exact s1 _ _ (by rw [upd_ne n2]; exact h2)
  refine g_listL (h1' _) fun D1 H2 hD1 s2 e2 => ?_
  walk_at "go"
  refine g_kfld (s2 _ _ upd_same) Z.clM Z.mL (by simp) ?_
  rw [show putF "least" (V.ref D1) [(("number" : Str), V.int n), (("flows" : Str), .ref D)] = [(("number" : Str), V.int n), (("flows" : Str), .ref D), (("least" : Str), .ref D1)] by
    show (if ("number" : Str) = "least" then _ else (("number" : Str), V.int n) :: if ("flows" : Str) = "least" then _ else _) = _
    rw [if_neg (by decide +kernel), if_neg (by decide +kernel)]
    rfl]
  walk_at "go"
  refine g_listL (xs := ys.map V.str) (by rw [upd_ne n2]; exact s2 _ _ (h2' _)) fun D2 H3 hD2 s3 e3 => ?_
  walk_at "go"
  refine g_kfld (s3 _ _ upd_same) Z.clM Z.mG (by simp) ?_
  rw [show putF "greatest" (V.ref D2) [(("number" : Str), V.int n), (("flows" : Str), .ref D), (("least" : Str), .ref D1)] = [(("number" : Str), V.int n), (("flows" : Str), .ref D), (("least" : Str), .ref D1), (("greatest" : Str), .ref D2)] by
    show (if ("number" : Str) = "greatest" then _ else (("number" : Str), V.int n) :: if ("flows" : Str) = "greatest" then _ else (("flows" : Str), V.ref D) :: if ("least" : Str) = "greatest" then _ else _) = _
    rw [if_neg (by decide +kernel), if_neg (by decide +kernel), if_neg (by decide +kernel)]
    rfl]
  have st : ∀ b o, b ≠ x → H1 b = some o → (upd H3 x (.ins z.CM dx [(("number" : Str), V.int n), (("flows" : Str), .ref D), (("least" : Str), .ref D1), (("greatest" : Str), .ref D2)])) b = some o := fun b o nb e => by
    rw [upd_ne nb]
    refine s3 _ _ ?_
    rw [upd_ne nb]
    refine s2 _ _ ?_
    rw [upd_ne nb]
    exact e
  exact k _ D (fun b o nb e => st b o nb (s1 _ _ (by rw [upd_ne nb]; exact e))) hD0 (st _ _ nD e1) ⟨dx, _, _, upd_same⟩

end Mh
set_option Elab.async false
set_option linter.all false
set_option maxRecDepth 100000
set_option maxHeartbeats 4000000
namespace Mh
open PySem PySem.Spec PyProof.Rows L2
open C8 (Cal Mak Met pe_c pe_mk pe_mt pe_mt0 pe_gc)
local macro_rules
  | `(tactic| walk_at "hp") => `(tactic| first | assumption | (exact upd_same) | (refine (by assumption : Same _ _) _ _ ?_; first | assumption | (refine (by assumption : Same _ _) _ _ ?_; first | assumption | (refine (by assumption : Same _ _) _ _ ?_; assumption))))
local macro_rules
  | `(tactic| walk_at "go") => `(tactic| repeat (first
    | with_reducible refine g_seq ?_
    | with_reducible refine g_asg ?_
    | with_reducible refine g_name ?_
    | with_reducible refine g_ret ?_
    | with_reducible refine g_retN ?_
    | with_reducible refine g_next ?_
    | with_reducible refine g_break ?_
    | with_reducible refine g_drop ?_
    | with_reducible refine g_if ?_
    | ((with_reducible show tVar _ _ _ _); refine g_var rfl ?_)
    | with_reducible refine g_c ?_
    | with_reducible refine g_op ?_
    | with_reducible refine g_un ?_
    | with_reducible refine g_test ?_
    | with_reducible refine g_tB ?_
    | with_reducible refine g_exb ?_
    | with_reducible refine g_exbi ?_
    | with_reducible refine g_and ?_
    | with_reducible refine g_or ?_
    | with_reducible refine g_not ?_
    | with_reducible refine g_tIf ?_
    | with_reducible refine g_andV ?_
    | with_reducible refine g_chain ?_
    | with_reducible refine g_chain3 ?_
    | with_reducible refine g_rI0 ?_
    | with_reducible refine g_rU ?_
    | with_reducible refine g_eqI ?_
    | with_reducible refine g_neI ?_
    | with_reducible refine g_eqS ?_
    | with_reducible refine g_neS ?_
    | with_reducible refine g_isNoR ?_
    | with_reducible refine g_isNoN ?_
    | with_reducible refine g_isNoS ?_
    | with_reducible refine g_notNoR ?_
    | with_reducible refine g_notNoS ?_
    | with_reducible refine g_notNoN ?_
    | with_reducible refine g_nil ?_
    | with_reducible refine g_cons ?_
    | with_reducible refine g_cb ?_
    | with_reducible refine g_call ?_
    | with_reducible refine g_tup ?_
    | with_reducible refine g_lst ?_
    | with_reducible refine g_dget ?_
    | with_reducible refine g_din ?_
    | with_reducible refine g_dnin ?_
    | with_reducible refine g_dput ?_
    | with_reducible refine g_daug ?_
    | with_reducible refine g_rAdd ?_
    | with_reducible refine g_rSub ?_
    | with_reducible refine g_tcons ?_
    | with_reducible refine g_tnil ?_
    | with_reducible refine g_forL ?_
    | with_reducible refine g_lc ?_
    | with_reducible refine g_dc ?_
    | with_reducible refine g_yes ?_
    | with_reducible refine g_ipI ?_
    | ((with_reducible show tAug _ _ _ _ _ _); refine g_aug rfl ?_)
    | with_reducible refine g_revL ?_
    | with_reducible refine g_sfld ?_
    | with_reducible refine g_abs ?_
    | with_reducible refine g_maxI ?_
    | with_reducible refine g_minI ?_
    | with_reducible refine g_int1 ?_
    | ((with_reducible refine g_modP ?_ ?_); (focus decide))
    | ((with_reducible refine g_fdivP ?_ ?_ ?_); (focus decide); (focus decide))
    | ((with_reducible refine g_mulL ?_ ?_ ?_); (focus decide); (focus decide))
    | ((with_reducible refine g_mulR ?_ ?_ ?_); (focus decide); (focus decide))
    | with_reducible refine g_forR ?_
    | with_reducible refine g_slice ?_
    | with_reducible refine g_nopart ?_
    | with_reducible refine g_part ?_
    | with_reducible refine g_partI ?_
    | with_reducible refine g_intB ?_
    | with_reducible refine g_nT ?_
    | with_reducible refine g_nF ?_
    | with_reducible refine g_T ?_
    | with_reducible refine g_F ?_))
local macro_rules
  | `(tactic| walk_at "len") => `(tactic| (intro vs H Q E h; first | (obtain ⟨e, _⟩ := h; rw [e]; rfl) | (obtain ⟨_, e, _⟩ := h; rw [e]; rfl) | (obtain ⟨_, _, e, _⟩ := h; rw [e]; rfl) | (obtain ⟨_, _, _, e, _⟩ := h; rw [e]; rfl) | (obtain ⟨_, _, _, _, e, _⟩ := h; rw [e]; rfl) | (obtain ⟨_, _, _, _, _, e, _⟩ := h; rw [e]; rfl) | (obtain ⟨_, _, _, _, _, _, e, _⟩ := h; rw [e]; rfl) | (obtain ⟨_, _, _, _, _, _, _, e, _⟩ := h; rw [e]; rfl) | (obtain ⟨_, _, _, _, _, _, _, _, e, _⟩ := h; rw [e]; rfl) | (obtain ⟨_, _, _, _, _, _, _, _, _, e, _⟩ := h; rw [e]; rfl) | (obtain ⟨_, _, _, _, _, _, _, _, _, _, e, _⟩ := h; rw [e]; rfl) | (obtain ⟨_, _, _, _, _, _, _, _, _, _, _, e, _⟩ := h; rw [e]; rfl) | (obtain ⟨_, _, _, _, _, _, _, _, _, _, _, _, e, _⟩ := h; rw [e]; rfl) | (obtain ⟨_, _, _, _, _, _, _, _, _, _, _, _, _, e, _⟩ := h; rw [e]; rfl) | (obtain ⟨_, _, _, _, _, _, _, _, _, _, _, _, _, _, e, _⟩ := h; rw [e]; rfl) | (obtain ⟨_, _, _, _, _, _, _, _, _, _, _, _, _, _, _, e, _⟩ := h; rw [e]; rfl)))
local macro_rules
  | `(tactic| walk_at "nf") => `(tactic| try simp only [L2.start, List.map_cons, List.map_nil, List.length_cons, List.length_nil, List.drop_succ_cons, List.drop_zero, List.replicate_succ, List.replicate_zero, List.cons_append, List.nil_append, List.set_cons_succ, List.set_cons_zero, Nat.reduceAdd, Nat.reduceSub])
section
variable {K : PySem.W.Frag} {σ : L2.St} {H : Hp} {Q : VK} {te : TE} {tt : TT} {g : TG} {vs : List Nat} {a : Addr}
theorem fm_ite {α β : Type} (L : List α) (c : α → Prop) [DecidablePred c] (g : α → β) : (L.filterMap fun y => if c y then some (g y) else none) = (L.filter fun y => decide (c y)).map g := by
  induction L with
  | nil => rfl
  | cons x r ih =>
    by_cases h : c x
    · rw [List.filterMap_cons, if_pos h, List.filter_cons, if_pos (decide_eq_true h), List.map_cons, ih]
    · rw [List.filterMap_cons, if_neg h, List.filter_cons, if_neg (by simpa using h), ih]
/-- [y for y in xs if c(y)], texts -/
theorem kLc_filt (L : List Str) (c : Str → Prop) [DecidablePred c] (h : SqL K H a (L.map V.str)) (hz : L.length ≤ 900)
    (step : ∀ y ∈ L, ∀ H1, Same H H1 → ∀ C : Option V → Hp → Prop, (∀ H2, Same H1 H2 → c y → C (some (.str y)) H2) → (∀ H2, Same H1 H2 → ¬ c y → C none H2) → It1 g tt te (wipe σ vs) vs (.str y) H1 C)
    (k : ∀ D H1, H D = none → Same H H1 → H1 D = some (ls (L.filter fun y => decide (c y))) → Q (.ref D) H1) : kLc K g tt te vs σ (.ref a) H Q :=
  kLc_pure L V.str (fun y => if c y then some (.str y) else none) h hz (fun y hy H1 s1 C q => step y hy H1 s1 C (fun H2 s2 z => by have := q H2 s2; rw [if_pos z] at this; exact this) fun H2 s2 z => by have := q H2 s2; rw [if_neg z] at this; exact this)
    fun D H1 hD s1 e => k D H1 hD s1 (by rw [e, fm_ite]; rfl)
end
theorem way_ends {α : Type} {row : α → List V} {H : Hp} {W : Addr} {w : List α} (h : Tups row H W w) : ∃ vs, H W = some (.lst vs) ∧ (∀ x r, w = x :: r → ∃ p, atI vs 0 = some (.ref p) ∧ H p = some (.tup (row x))) ∧ (∀ x r, w = r ++ [x] → ∃ p, atI vs (-1) = some (.ref p) ∧ H p = some (.tup (row x))) := by
  obtain ⟨M, e1, e2, e3⟩ := h
  rw [rf_fst] at e2
  refine ⟨_, e2, fun x r e => ?_, fun x r e => ?_⟩
  · rw [e] at e1
    cases M with
    | nil => cases e1
    | cons m M =>
      rw [List.map_cons] at e1
      obtain ⟨q1, q2⟩ := List.cons.inj e1
      exact ⟨m.1, atI_nat (j := 0) rfl, by rw [← q1]; exact e3 m List.mem_cons_self⟩
  · rcases List.eq_nil_or_concat M with z | ⟨M', m, z⟩
    · subst z
      rw [e] at e1
      cases r <;> cases e1
    · subst z
      rw [List.concat_eq_append, List.map_append, e] at e1
      obtain ⟨q1, q2⟩ := List.append_inj' e1 rfl
      refine ⟨m.1, by rw [List.concat_eq_append, List.map_append]; exact atI_last _ _, ?_⟩
      rw [← (List.cons.inj q2).1]
      exact e3 m (by simp)
abbrev s_check_limits : Stmt := top 29
abbrev N_check_limits : List Str := ["plant", "limits", "name"]
theorem sc_check_limits : FnScope N_check_limits ["plant", "limits"] (defScope s_check_limits) := ⟨rfl, rfl, rfl, by decide +kernel, rfl, by decide +kernel, by decide +kernel⟩
def sp_check_limits (K : PySem.W.Frag) (z : Ad) : Sp := fun vs H Q _ => ∃ (a b : Addr) (p : Pl) (lo hi : Str → Int), vs = [.ref a, .ref b] ∧ PlAt z.C H a p ∧ LimAt H b p.names lo hi ∧ ∀ H', Same H H' → Q .non H'
theorem ok_check_limits {P : Program} {w : World} {K : PySem.W.Frag} {mg : Str → Option Value} {base : Heap} {z : Ad} (T : Bi mg) (Z : Cx3 K z.C z.CM z.CR) (D : Df K mg "check_limits" s_check_limits ["plant", "limits"]) (c_lacks : Cal P w K mg base 3 "lacks" (sp_lacks K z) []) : Cal P w K mg base 4 "check_limits" (sp_check_limits K z) [] := by
  have nd := sc_check_limits.nd
  refine cal_mk D sc_check_limits (by walk_at "len") (fun cdv A outer s H vs Q E f hr h => ⟨_, (pss_one (ps_expr (pe_c c_lacks hr (by decide) (by rfl) (pa_cons (pv 0) (pa_cons (pe_lock (pe_dc (own := [("name", 2)]) rfl nd (pi_keys (pv 1)) (blkOk_by (own := [("name", 2)]) (N := N_check_limits) (sc := defScope s_check_limits) (by decide +kernel)) (fun _ _ _ _ _ => (pg_name (i := 2) nd rfl (.inl rfl))) (fun _ _ _ _ _ => pts_nil) (fun _ _ _ _ _ => (pv 2)) (fun _ _ _ _ _ => pe_int))) pa_nil))))), ?_⟩)
  obtain ⟨a, b, p, lo, hi, rfl, hP, ⟨r, hb, hbt⟩, k⟩ := h
  have hlen : p.names.length ≤ 30 := by unfold Pl.names; rw [List.length_map]; exact hP.1.sl
  walk_at "go"
  refine g_dcKeys rfl hb (by omega) hP.1.nm (fun _ => true) (fl fun _ => 0) (fun y hy H1 lk C c1 c2 => ?_) (fun D H1 hD s1 e1 => ?_)
  · refine g_name ⟨rfl, ?_⟩
    walk_at "go"
    exact c1 H1 (Same.refl _) rfl
  rw [List.filter_eq_self.mpr (fun _ _ => rfl)] at e1
  walk_at "go"
  refine ⟨a, D, p, fun _ => 0, rfl, hP.mono s1, e1, fun D2 H2 hD2 s2 e2 => ?_⟩
  walk_at "go"
  exact k H2 (L2.Same.trans s1 s2)
abbrev s_crossed : Stmt := top 30
abbrev N_crossed : List Str := ["plant", "limits", "name"]
theorem sc_crossed : FnScope N_crossed ["plant", "limits"] (defScope s_crossed) := ⟨rfl, rfl, rfl, by decide +kernel, rfl, by decide +kernel, by decide +kernel⟩
def sp_crossed (K : PySem.W.Frag) (z : Ad) : Sp := fun vs H Q _ => ∃ (a b : Addr) (p : Pl) (lo hi : Str → Int), vs = [.ref a, .ref b] ∧ PlAt z.C H a p ∧ LimAt H b p.names lo hi ∧
  (∀ H' n, Same H H' → n ∈ p.names → hi n < lo n → Q (.str n) H') ∧ ∀ H', Same H H' → (∀ n ∈ p.names, lo n ≤ hi n) → Q .non H'
theorem ok_crossed {P : Program} {w : World} {K : PySem.W.Frag} {mg : Str → Option Value} {base : Heap} {z : Ad} (T : Bi mg) (Z : Cx3 K z.C z.CM z.CR) (D : Df K mg "crossed" s_crossed ["plant", "limits"]) (c_Plant_stream_names : Met P w K mg base 1 z.C "stream_names" (sp_Plant_stream_names K z) []) (c_check_limits : Cal P w K mg base 4 "check_limits" (sp_check_limits K z) []) : Cal P w K mg base 5 "crossed" (sp_crossed K z) [] := by
  have nd := sc_crossed.nd
  refine cal_mk D sc_crossed (by walk_at "len") (fun cdv A outer s H vs Q E f hr h => ⟨_, (pss_cons (ps_expr (pe_c c_check_limits hr (by decide) (by rfl) (pa_cons (pv 0) (pa_cons (pv 1) pa_nil))))
    (pss_cons (ps_for PassesOwn.never rfl (pi_list (pe_mt0 c_Plant_stream_names hr (by decide) (pv 0))) (pg_name (i := 2) nd rfl (.inl rfl))
    (pss_one (ps_if (pt_cmpR op_gt (pe_ix (ix_tupK (K := K) rfl) (pe_dget (hu_of hr) (pv 1) (pv 2) (fun _ _ => rfl)) pe_int (fun _ _ => rfl)) (pe_ix (ix_tupK (K := K) rfl) (pe_dget (hu_of hr) (pv 1) (pv 2) (fun _ _ => rfl)) pe_int (fun _ _ => rfl)) (nomark _))
    (pss_one (ps_ret (pv 2))) pss_nil)))
    (pss_one (ps_ret pe_non)))), ?_⟩)
  obtain ⟨a, b, p, lo, hi, rfl, hP, hb, k1, k2⟩ := h
  walk_at "go"
  refine ⟨a, b, p, lo, hi, rfl, hP, hb, fun H1 s1 => ?_⟩
  walk_at "go"
  refine g_pnames rfl (hP.mono s1) fun D H2 hD s2 e2 => ?_
  have s02 := L2.Same.trans s1 s2
  obtain ⟨r, hb1, hbt⟩ := hb.mono s02
  refine kFor_run p.names V.str (SqL.of e2) (fun d σ' H' => H' = H2 ∧ (∀ n ∈ d, lo n ≤ hi n) ∧ ∃ y, σ' = [some (.ref a), some (.ref b), y]) ⟨rfl, (fun _ z => by cases z), none, rfl⟩ (fun d σ' H' ⟨e, _⟩ => by rw [e]; exact SqL.of e2) (fun d y r' σ' H' hL hI => ?_) (fun σ' H' hI => ?_)
  · obtain ⟨rfl, hd, w, rfl⟩ := hI
    have hy : y ∈ p.names := by rw [hL]; exact List.mem_append_right _ List.mem_cons_self
    refine g_name ?_
    walk_at "go"
    refine g_kgetR (.inl hb1) hy ?_
    walk_at "go"
    refine g_ixT (hbt _ hy) rfl ?_
    walk_at "go"
    refine g_kgetR (.inl hb1) hy ?_
    walk_at "go"
    refine g_ixT (hbt _ hy) rfl ?_
    walk_at "go"
    refine g_ite (fun hlt => ?_) (fun hge => ?_)
    · walk_at "go"
      exact k1 _ y s02 hy (by omega)
    · walk_at "go"
      refine ⟨rfl, fun n hn => ?_, _, rfl⟩
      rcases List.mem_append.mp hn with z | z
      · exact hd n z
      · rw [List.mem_singleton.mp z]; omega
  · obtain ⟨rfl, hd, w, rfl⟩ := hI
    walk_at "go"
    exact k2 _ s02 hd
abbrev s_missing_of : Stmt := top 31
abbrev N_missing_of : List Str := ["plant", "flows", "number"]
theorem sc_missing_of : FnScope N_missing_of ["plant", "flows"] (defScope s_missing_of) := ⟨rfl, rfl, rfl, by decide +kernel, rfl, by decide +kernel, by decide +kernel⟩
def sp_missing_of (K : PySem.W.Frag) (z : Ad) : Sp := fun vs H Q _ => ∃ (a b : Addr) (p : Pl) (f : Str → Int), vs = [.ref a, .ref b] ∧ PlAt z.C H a p ∧ H b = some (dk p.names (fl f)) ∧ ∀ H', Same H H' → Q (.int (mis p f)) H'
theorem ok_missing_of {P : Program} {w : World} {K : PySem.W.Frag} {mg : Str → Option Value} {base : Heap} {z : Ad} (T : Bi mg) (Z : Cx3 K z.C z.CM z.CR) (D : Df K mg "missing_of" s_missing_of ["plant", "flows"]) (c_lacks : Cal P w K mg base 3 "lacks" (sp_lacks K z) []) : Cal P w K mg base 4 "missing_of" (sp_missing_of K z) [] := by
  have nd := sc_missing_of.nd
  refine cal_mk D sc_missing_of (by walk_at "len") (fun cdv A outer s H vs Q E f hr h => ⟨_, (pss_one (ps_ret (pe_callB (cr_sumK (K := K) rfl rfl) (by rfl) T.b_sum (by decide +kernel) (pa_cons (pe_lc (own := [("number", 2)]) rfl nd (pi_values (pe_frz (pe_c c_lacks hr (by decide) (by rfl) (pa_cons (pv 0) (pa_cons (pv 1) pa_nil))))) (blkOk_by (own := [("number", 2)]) (N := N_missing_of) (sc := defScope s_missing_of) (by decide +kernel)) (fun _ _ _ _ _ => (pg_name (i := 2) nd rfl (.inl rfl))) (fun _ _ _ _ _ => pts_nil) (fun _ _ _ _ _ => (pe_callB (cr_maxI rfl) (by rfl) T.b_max (by decide +kernel) (pa_cons pe_int (pa_cons (pe_un un_neg (pv 2)) pa_nil))))) pa_nil)))), ?_⟩)
  obtain ⟨a, b, p, f, rfl, hP, hb, k⟩ := h
  walk_at "go"
  refine g_vals ?_
  walk_at "go"
  refine ⟨a, b, p, f, rfl, hP, hb, fun D H1 hD s1 e1 => ?_⟩
  refine kVals_run e1 s1 hD (by have := hP.1.kl; omega) (fun kn => some (.int (if -netOf p.ss f kn > 0 then -netOf p.ss f kn else 0))) (fun y hy H2 s2 C c => ?_) (fun D2 H2 hD2 s2 e2 => ?_)
  · refine g_name ⟨rfl, ?_⟩
    walk_at "go"
    refine g_rU (m := netOf p.ss f y) ?_
    walk_at "go"
    exact c H2 (Same.refl _)
  · walk_at "go"
    refine g_sumI e2 ?_
    walk_at "go"
    exact k H2 s2
abbrev s_least_missing : Stmt := top 32
abbrev N_least_missing : List Str := ["plant", "limits", "lines", "flows", "least", "spared", "lots", "left", "over", "short", "way", "name", "knot"]
theorem sc_least_missing : FnScope N_least_missing ["plant", "limits"] (defScope s_least_missing) := ⟨rfl, rfl, rfl, by decide +kernel, rfl, by decide +kernel, by decide +kernel⟩
def sp_least_missing (K : PySem.W.Frag) (z : Ad) : Sp := fun vs H Q _ => ∃ (a b : Addr) (p : Pl) (lo hi : Str → Int), vs = [.ref a, .ref b] ∧ PlAt z.C H a p ∧ LimAt H b p.names lo hi ∧
  (∀ H', Same H H' → (∃ n ∈ p.names, hi n < lo n) → Q .non H') ∧
  ∀ x D H' n f, H x = none → H D = none → Same H H' → MisAt z.CM H' x n D → H' D = some (dk p.names (fl f)) → Bd p lo hi f → (0 < n → ∀ g, ¬ Feas p lo hi g) → (n ≤ 0 → Bal p f) → Q (.ref x) H'
theorem ok_least_missing {P : Program} {w : World} {K : PySem.W.Frag} {mg : Str → Option Value} {base : Heap} {z : Ad} (T : Bi mg) (Z : Cx3 K z.C z.CM z.CR) (D : Df K mg "least_missing" s_least_missing ["plant", "limits"]) (c_Missing : Mak P w K mg base 1 "Missing" z.CM (sp_Missing___init__ K z) []) (c_Plant_knots : Prp P w K mg base 1 z.C "knots" (sp_Plant_knots K z)) (c_arcs_of : Cal P w K mg base 1 "arcs_of" (sp_arcs_of K z) []) (c_crossed : Cal P w K mg base 5 "crossed" (sp_crossed K z) []) (c_lacks : Cal P w K mg base 3 "lacks" (sp_lacks K z) []) (c_leading_to : Cal P w K mg base 2 "leading_to" (sp_leading_to K z) []) (c_led_from : Cal P w K mg base 2 "led_from" (sp_led_from K z) []) (c_lines_of : Cal P w K mg base 3 "lines_of" (sp_lines_of K z) []) (c_missing_of : Cal P w K mg base 4 "missing_of" (sp_missing_of K z) []) (c_push : Cal P w K mg base 1 "push" (sp_push K z) []) (c_way_between : Cal P w K mg base 2 "way_between" (sp_way_between K z) []) : Cal P w K mg base 6 "least_missing" (sp_least_missing K z) [] := by
  have nd := sc_least_missing.nd
  refine cal_mk D sc_least_missing (by walk_at "len") (fun cdv A outer s H vs Q E f hr h => ⟨_, (pss_cons (ps_if (pt_cmpR op_notNo (pe_c c_crossed hr (by decide) (by rfl) (pa_cons (pv 0) (pa_cons (pv 1) pa_nil))) pe_non (nomark _))
    (pss_one (ps_ret pe_non)) pss_nil)
    (pss_cons (ps_set (i := 2) nd rfl (.inl rfl) (pe_c c_lines_of hr (by decide) (by rfl) (pa_cons (pv 0) pa_nil)))
    (pss_cons (ps_lock (ps_setDc (i := 3) (own := [("name", 11)]) rfl nd rfl rfl (sw_trueD rfl rfl rfl (by decide +kernel)) (pi_keys (pv 1)) (blkOk_by (own := [("name", 11)]) (N := N_least_missing) (sc := defScope s_least_missing) (by decide +kernel)) (fun _ _ _ _ _ => (pg_name (i := 11) nd rfl (.inl rfl))) (fun _ _ _ _ _ => pts_nil) (fun _ _ _ _ _ => (pv 11)) (fun _ _ _ _ _ => (pe_ix (ix_tupK (K := K) rfl) (pe_dget (hu_of hr) (pv 1) (pv 11) (fun _ _ => rfl)) pe_int (fun _ _ => rfl)))))
    (pss_cons (ps_while PassesOwn.never (pt_val pe_bl)
    (pss_cons (ps_set (i := 7) nd rfl (.inr rfl) (pe_c c_lacks hr (by decide) (by rfl) (pa_cons (pv 0) (pa_cons (pv 3) pa_nil))))
    (pss_cons (ps_setLc (i := 8) (own := [("knot", 12)]) rfl nd rfl rfl (sw_true rfl rfl rfl (by decide +kernel)) (pi_list (pe_pr c_Plant_knots hr (by decide) (pv 0) rfl)) (blkOk_by (own := [("knot", 12)]) (N := N_least_missing) (sc := defScope s_least_missing) (by decide +kernel)) (fun _ _ _ _ _ => (pg_name (i := 12) nd rfl (.inl rfl))) (fun _ _ _ _ _ => pts_one (pt_cmpR op_gt (pe_dget (hu_of hr) (pv 7) (pv 12) (fun _ _ => rfl)) pe_int (nomark _))) (fun _ _ _ _ _ => (pv 12)))
    (pss_cons (ps_setLc (i := 9) (own := [("knot", 12)]) rfl nd rfl rfl (sw_true rfl rfl rfl (by decide +kernel)) (pi_list (pe_pr c_Plant_knots hr (by decide) (pv 0) rfl)) (blkOk_by (own := [("knot", 12)]) (N := N_least_missing) (sc := defScope s_least_missing) (by decide +kernel)) (fun _ _ _ _ _ => (pg_name (i := 12) nd rfl (.inl rfl))) (fun _ _ _ _ _ => pts_one (pt_cmpR op_lt (pe_dget (hu_of hr) (pv 7) (pv 12) (fun _ _ => rfl)) pe_int (nomark _))) (fun _ _ _ _ _ => (pv 12)))
    (pss_cons (ps_set (i := 10) nd rfl (.inl rfl) (pe_c c_way_between hr (by decide) (by rfl) (pa_cons (pe_c c_arcs_of hr (by decide) (by rfl) (pa_cons (pv 2) (pa_cons (pv 1) (pa_cons (pv 3) pa_nil)))) (pa_cons (pv 8) (pa_cons (pv 9) pa_nil)))))
    (pss_cons (ps_if (pt_cmpR op_isNo (pv 10) pe_non (nomark _))
    (pss_one ps_break) pss_nil)
    (pss_one (ps_expr (pe_c c_push hr (by decide) (by rfl) (pa_cons (pv 3) (pa_cons (pv 10) (pa_cons (pe_callB (cr_minI rfl) (by rfl) T.b_min (by decide +kernel) (pa_cons (pe_dget (hu_of hr) (pv 7) (pe_ix (ix_tupK (K := K) rfl) (pe_ix (ix_listK (K := K) rfl) (pv 10) pe_int (fun _ _ => rfl)) pe_int (fun _ _ => rfl)) (fun _ _ => rfl)) (pa_cons (pe_un un_neg (pe_dget (hu_of hr) (pv 7) (pe_ix (ix_tupK (K := K) rfl) (pe_ix (ix_listK (K := K) rfl) (pv 10) (pe_un un_neg pe_int) (fun _ _ => rfl)) pe_int (fun _ _ => rfl)) (fun _ _ => rfl))) pa_nil))) pa_nil))))))))))))
    (pss_cons (ps_set (i := 4) nd rfl (.inr rfl) (pe_c c_leading_to hr (by decide) (by rfl) (pa_cons (pv 2) (pa_cons (pv 1) (pa_cons (pv 3) (pa_cons (pv 9) pa_nil))))))
    (pss_cons (ps_set (i := 5) nd rfl (.inr rfl) (pe_c c_led_from hr (by decide) (by rfl) (pa_cons (pv 2) (pa_cons (pv 1) (pa_cons (pv 3) (pa_cons (pv 8) pa_nil))))))
    (pss_cons (ps_set (i := 6) nd rfl (.inl rfl) (pe_lst (pa_cons (pe_lc (own := [("knot", 12)]) rfl nd (pi_list (pe_pr c_Plant_knots hr (by decide) (pv 0) rfl)) (blkOk_by (own := [("knot", 12)]) (N := N_least_missing) (sc := defScope s_least_missing) (by decide +kernel)) (fun _ _ _ _ _ => (pg_name (i := 12) nd rfl (.inl rfl))) (fun _ _ _ _ _ => pts_one (pt_cmp (pc_din (hu_of hr) (pv 12) (pv 4)))) (fun _ _ _ _ _ => (pv 12))) (pa_cons (pe_lc (own := [("knot", 12)]) rfl nd (pi_list (pe_pr c_Plant_knots hr (by decide) (pv 0) rfl)) (blkOk_by (own := [("knot", 12)]) (N := N_least_missing) (sc := defScope s_least_missing) (by decide +kernel)) (fun _ _ _ _ _ => (pg_name (i := 12) nd rfl (.inl rfl))) (fun _ _ _ _ _ => pts_one (pt_cmp (pc_dnotin (hu_of hr) (pv 12) (pv 5)))) (fun _ _ _ _ _ => (pv 12))) pa_nil))))
    (pss_one (ps_ret (pe_mk c_Missing hr (by decide) (by rfl) (pa_cons (pe_c c_missing_of hr (by decide) (by rfl) (pa_cons (pv 0) (pa_cons (pv 3) pa_nil))) (pa_cons (pv 3) (pa_cons (pe_ix (ix_listK (K := K) rfl) (pv 6) pe_int (fun _ _ => rfl)) (pa_cons (pe_ix (ix_listK (K := K) rfl) (pv 6) pe_int (fun _ _ => rfl)) pa_nil)))))))))))))), ?_⟩)
  obtain ⟨a, b, p, lo, hi, rfl, hP, hb, k1, k2⟩ := h
  have hlen : p.names.length ≤ 30 := by unfold Pl.names; rw [List.length_map]; exact hP.1.sl
  have ok := hP.1
  have hLn : p.lines.length ≤ 30 := by have := lines_len p.ss; have := ok.sl; rw [Pl.lines_eq]; omega
  have hLm : ∀ l ∈ p.lines, l.nm ∈ p.names := fun l hl => ln_names hl
  have hLd : (p.lines.map (·.nm)).Nodup := lines_nd ok.nm
  walk_at "go"
  refine ⟨a, b, p, lo, hi, rfl, hP, hb, fun H1 n s1 hn hlt => ?_, fun H1 s1 hle => ?_⟩
  · walk_at "go"
    exact k1 H1 s1 ⟨n, hn, hlt⟩
  walk_at "go"
  refine ⟨a, p, rfl, hP.mono s1, fun ln H2 hln s2 tl => ?_⟩
  walk_at "go"
  have s02 := L2.Same.trans s1 s2
  obtain ⟨r, hb2, hbt2⟩ := hb.mono s02
  refine g_lockDc ?_
  refine g_dcKeys rfl hb2 (by omega) ok.nm (fun _ => true) (fl lo) (fun y hy H3 lk C c1 c2 => ?_) (fun fd H3 hfd s3 e3 => ?_)
  · refine g_name ⟨rfl, ?_⟩
    walk_at "go"
    refine g_kgetR lk.2 hy ?_
    walk_at "go"
    refine g_ixT (lk.1 _ _ (ne_of (hbt2 _ hy) hb2 (by intro z; cases z)) (hbt2 _ hy)) rfl ?_
    exact c1 H3 (Same.refl _) rfl
  rw [List.filter_eq_self.mpr (fun _ _ => rfl)] at e3
  have s03 := L2.Same.trans s02 s3
  have hfd0 : H fd = none := fresh_of s02 hfd
  have nfb : b ≠ fd := fun z => by rw [← z, hb2] at hfd; cases hfd
  walk_at "go"
  refine g_while (fun m σ' H' => ∃ (f : Str → Int) (y7 y8 y9 y10 : Option V), m = (mis p f).toNat ∧ σ' = [some (.ref a), some (.ref b), some (.ref ln), some (.ref fd), none, none, none, y7, y8, y9, y10, none, none] ∧ But [fd] H3 H' ∧ H' fd = some (dk p.names (fl f)) ∧ Bd p lo hi f)
    _ ⟨lo, _, _, _, _, rfl, rfl, But.refl _ _, e3, fun n hn => ⟨Int.le_refl _, hle n hn⟩⟩ (fun m σ' H' hW => ?_) (fun σ H R R' i q => ?_)
  · obtain ⟨f, y7, y8, y9, y10, rfl, rfl, bt, ef, hbd⟩ := hW
    have sH : Same H H' := bt.same s03 (by intro x hx; rw [List.mem_singleton.mp hx]; exact hfd0)
    walk_at "go"
    refine ⟨a, fd, p, f, rfl, hP.mono sH, ef, fun lf H4 hlf s4 e4 => ?_⟩
    walk_at "go"
    have sH4 := L2.Same.trans sH s4
    refine g_pknots rfl (hP.mono sH4) fun kA H5 hkA s5 e5 => ?_
    refine kLc_filt p.kn (fun y => netOf p.ss f y > 0) (SqL.of e5) (by have := ok.kl; omega) (fun y hy H6 s6 C c1 c2 => ?_) (fun ov H6 hov s6 eov => ?_)
    · refine g_name ⟨rfl, ?_⟩
      walk_at "go"
      refine g_kgetI (.inl (s6 _ _ (s5 _ _ e4))) hy ?_
      walk_at "go"
      refine g_ite (fun hn => ?_) (fun hn => ?_)
      · walk_at "go"
        exact c1 H6 (Same.refl _) hn
      · exact c2 H6 (Same.refl _) hn
    walk_at "go"
    have s46 := L2.Same.trans s5 s6
    refine g_pknots rfl (hP.mono (L2.Same.trans sH4 s46)) fun kB H7 hkB s7 e7 => ?_
    have s47 := L2.Same.trans s46 s7
    refine kLc_filt p.kn (fun y => netOf p.ss f y < 0) (SqL.of e7) (by have := ok.kl; omega) (fun y hy H8 s8 C c1 c2 => ?_) (fun sv H8 hsv s8 esv => ?_)
    · refine g_name ⟨rfl, ?_⟩
      walk_at "go"
      refine g_kgetI (.inl (s8 _ _ (s47 _ _ e4))) hy ?_
      walk_at "go"
      refine g_ite (fun hn => ?_) (fun hn => ?_)
      · walk_at "go"
        exact c1 H8 (Same.refl _) hn
      · exact c2 H8 (Same.refl _) hn
    have s48 := L2.Same.trans s47 s8
    have sHx := L2.Same.trans s4 s48
    have sx : Same H H8 := L2.Same.trans sH sHx
    have s2x : Same H2 H' := bt.same s3 (by intro x hx; rw [List.mem_singleton.mp hx]; exact hfd)
    have tl8 : Tups Ln.row H8 ln p.lines := (tl.mono s2x).mono sHx
    have hb8 : LimAt H8 b p.names lo hi := hb.mono sx
    have ef8 := sHx _ _ ef
    have hover : ∀ k, k ∈ (p.kn.filter fun y => decide (netOf p.ss f y > 0)) ↔ k ∈ p.kn ∧ 0 < netOf p.ss f k := fun k => by rw [List.mem_filter]; simp
    have hshort : ∀ k, k ∈ (p.kn.filter fun y => decide (netOf p.ss f y < 0)) ↔ k ∈ p.kn ∧ netOf p.ss f k < 0 := fun k => by rw [List.mem_filter]; simp
    have ond : (p.kn.filter fun y => decide (netOf p.ss f y > 0)).Nodup := List.Nodup.sublist List.filter_sublist ok.kn
    have shnd : (p.kn.filter fun y => decide (netOf p.ss f y < 0)).Nodup := List.Nodup.sublist List.filter_sublist ok.kn
    have ole : (p.kn.filter fun y => decide (netOf p.ss f y > 0)).length ≤ 24 := Nat.le_trans (List.length_filter_le _ _) ok.kl
    have sle : (p.kn.filter fun y => decide (netOf p.ss f y < 0)).length ≤ 24 := Nat.le_trans (List.length_filter_le _ _) ok.kl
    generalize (p.kn.filter fun y => decide (netOf p.ss f y > 0)) = over at hover ond ole eov
    generalize (p.kn.filter fun y => decide (netOf p.ss f y < 0)) = short at hshort shnd sle esv
    walk_at "go"
    refine ⟨ln, b, fd, p.lines, p.names, lo, hi, f, rfl, tl8, hb8, ef8, hLm, hLn, fun AD H9 hAD s9 tA => ?_⟩
    walk_at "go"
    refine ⟨AD, ov, sv, _, over, short, rfl, tA, s9 _ _ (s8 _ _ (s7 _ _ eov)), s9 _ _ esv, ond, ?_, fun H10 s10 nw => ?_, fun W H10 w hW s10 tw hw => ?_⟩
    · have := arcsOf_len p.lines lo hi f
      omega
    · walk_at "go"
      have s910 := L2.Same.trans s9 s10
      refine ⟨ln, b, fd, sv, p.lines, p.names, lo, hi, f, short, rfl, tl8.mono s910, hb8.mono s910, s910 _ _ ef8, hLm, hLn, s910 _ _ esv, shnd, by omega, fun D1 H11 ks1 hD1 s11 e11 => ?_⟩
      walk_at "go"
      have s911 := L2.Same.trans s910 s11
      refine ⟨ln, b, fd, ov, p.lines, p.names, lo, hi, f, over, rfl, tl8.mono s911, hb8.mono s911, s911 _ _ ef8, hLm, hLn, s911 _ _ (s8 _ _ (s7 _ _ eov)), ond, by omega, fun D2 H12 ks2 hD2 s12 e12 => ?_⟩
      walk_at "go"
      have s912 := L2.Same.trans s911 s12
      refine g_pknots rfl (hP.mono (L2.Same.trans sx s912)) fun kC H13 hkC s13 e13 => ?_
      refine kLc_filt p.kn (fun y => y ∈ ks1) (SqL.of e13) (by have := ok.kl; omega) (fun y hy H14 s14 C c1 c2 => ?_) (fun l1 H14 hl1 s14 el1 => ?_)
      · refine g_name ⟨rfl, ?_⟩
        walk_at "go"
        refine g_kin (.inl (s14 _ _ (s13 _ _ (s12 _ _ e11)))) ?_
        walk_at "go"
        refine g_ite (fun hn => ?_) (fun hn => ?_)
        · walk_at "go"
          exact c1 H14 (Same.refl _) hn
        · exact c2 H14 (Same.refl _) hn
      have s1214 := L2.Same.trans s13 s14
      have s914 := L2.Same.trans s912 s1214
      walk_at "go"
      refine g_pknots rfl (hP.mono (L2.Same.trans sx s914)) fun kD H15 hkD s15 e15 => ?_
      refine kLc_filt p.kn (fun y => ¬ y ∈ ks2) (SqL.of e15) (by have := ok.kl; omega) (fun y hy H16 s16 C c1 c2 => ?_) (fun l2 H16 hl2 s16 el2 => ?_)
      · refine g_name ⟨rfl, ?_⟩
        walk_at "go"
        refine g_knin (.inl (s16 _ _ (s15 _ _ (s1214 _ _ e12)))) ?_
        walk_at "go"
        refine g_iteN (fun hn => ?_) (fun hn => ?_)
        · walk_at "go"
          exact c1 H16 (Same.refl _) hn
        · exact c2 H16 (Same.refl _) (fun z => z hn)
      have s1416 := L2.Same.trans s15 s16
      walk_at "go"
      refine g_newL (by simp) fun lt H17 hlt s17 e17 => ?_
      walk_at "go"
      have s917 := L2.Same.trans s914 (L2.Same.trans s1416 s17)
      refine g_mk ?_
      walk_at "go"
      refine ⟨a, fd, p, f, rfl, hP.mono (L2.Same.trans sx s917), s917 _ _ ef8, fun H18 s18 => ?_⟩
      walk_at "go"
      refine g_ixL (s18 _ _ e17) (atI_nat (j := 0) rfl) ?_
      walk_at "go"
      refine g_ixL (s18 _ _ e17) (atI_nat (j := 1) rfl) ?_
      walk_at "go"
      have s1618 := L2.Same.trans s17 s18
      have s918 := L2.Same.trans s917 s18
      have s018 : Same H H18 := L2.Same.trans sx s918
      refine fun x dx hx hdx hne => ?_
      have sm := mk_same (C := z.CM) hx hdx
      refine ⟨x, dx, fd, l1, l2, mis p f, p.names, _, _, f, rfl, upd_same, sm _ _ (s918 _ _ ef8), sm _ _ (s1618 _ _ (s1416 _ _ el1)), sm _ _ (s1618 _ _ el2), fun H19 D hst hD e19 hMis => ⟨rfl, ?_⟩⟩
      have s1819 := mk_after hx hdx hst
      have s019 := L2.Same.trans s018 s1819
      refine k2 x D H19 (mis p f) f (fresh_of s018 hx) (fresh_of (L2.Same.trans s018 sm) hD) s019 hMis e19 hbd (fun hm g => mis_end ok hover hshort nw hm) (fun hm => mis_zero ok hm)
    · walk_at "go"
      obtain ⟨rk, s', e', hs, he, hch, ha⟩ := hw
      obtain ⟨hs1, hs2⟩ := (hover _).mp hs
      obtain ⟨he1, he2⟩ := (hshort _).mp he
      obtain ⟨w1, w2⟩ := way_facts hLd hLn hLm hch ha
      have hne : s' ≠ e' := fun z => by rw [z] at hs2; omega
      obtain ⟨a0, r0, ew0, ea0⟩ := ch_head hch hne
      obtain ⟨vs, ev, v1, v2⟩ := way_ends tw
      obtain ⟨p0, hp0, hp0'⟩ := v1 _ _ ew0
      have hwl : ∃ r1 a1, w = r1 ++ [a1] := by
        rcases List.eq_nil_or_concat w with z | ⟨r1, a1, z⟩
        · rw [z] at ew0; cases ew0
        · exact ⟨r1, a1, by rw [z, List.concat_eq_append]⟩
      obtain ⟨r1, a1, ew1⟩ := hwl
      obtain ⟨p1, hp1, hp1'⟩ := v2 _ _ ew1
      have ea1 := ch_last hch _ _ ew1
      have s910 := L2.Same.trans s9 s10
      have elf : H10 lf = some (dk p.kn (fl (netOf p.ss f))) := s910 _ _ (s48 _ _ e4)
      refine g_ixL ev hp0 ?_
      walk_at "go"
      refine g_ixT hp0' (v := .str s') (by rw [← ea0]; rfl) ?_
      refine g_kgetI (.inl elf) hs1 ?_
      walk_at "go"
      refine g_ixL ev hp1 ?_
      walk_at "go"
      refine g_ixT hp1' (v := .str e') (by rw [← ea1]; rfl) ?_
      refine g_kgetI (.inl elf) he1 ?_
      walk_at "go"
      have hmn : ∃ mn : Int, mn = (if -netOf p.ss f e' < netOf p.ss f s' then -netOf p.ss f e' else netOf p.ss f s') ∧ 1 ≤ mn ∧ mn ≤ netOf p.ss f s' ∧ mn ≤ -netOf p.ss f e' := ⟨_, rfl, by split <;> omega, by split <;> omega, by split <;> omega⟩
      obtain ⟨mn, emn, mn1, mn2, mn3⟩ := hmn
      rw [← emn]
      refine ⟨fd, W, p.names, f, w, mn, rfl, s910 _ _ ef8, tw, w1, w2, by omega, fun H11 m hm hmin b11 e11 => ?_⟩
      obtain ⟨q1, q2, q3, q4, q5⟩ := push_ok hLd (bnd_lines hbd) hch ha hm hmin mn1
      have hms := mis_push (f := f) ok hs1 he1 q1 (by omega) (by omega) (f' := pushF f w m) fun k => by rw [← net_lines, ← net_lines]; exact q5 k
      have hge := mis_ge (p := p) (f := f) (m := m) he1 (by omega)
      walk_at "go"
      refine ⟨(mis p (pushF f w m)).toNat, by omega, pushF f w m, _, _, _, _, rfl, rfl, bt.trans ((But.of (L2.Same.trans sHx s910)).trans b11), e11, fun n hn => ?_⟩
      by_cases hq : n ∈ p.lines.map (·.nm)
      · obtain ⟨l, hl, el⟩ := List.mem_map.mp hq
        rw [← el]
        exact q3 l hl
      · rw [q4 n hq]
        exact hbd n hn
  · obtain ⟨k1, e1, q⟩ := q
    exact ⟨k1, e1, i _ _ q⟩

end Mh
set_option Elab.async false
set_option linter.all false
set_option maxRecDepth 100000
set_option maxHeartbeats 4000000
namespace Mh
open PySem PySem.Spec PyProof.Rows L2
open C8 (Cal Mak Met pe_c pe_mk pe_mt pe_mt0 pe_gc)
local macro_rules
  | `(tactic| walk_at "hp") => `(tactic| first | assumption | (exact upd_same) | (refine (by assumption : Same _ _) _ _ ?_; first | assumption | (refine (by assumption : Same _ _) _ _ ?_; first | assumption | (refine (by assumption : Same _ _) _ _ ?_; assumption))))
local macro_rules
  | `(tactic| walk_at "go") => `(tactic| repeat (first
    | with_reducible refine g_seq ?_
    | with_reducible refine g_asg ?_
    | with_reducible refine g_name ?_
    | with_reducible refine g_ret ?_
    | with_reducible refine g_retN ?_
    | with_reducible refine g_next ?_
    | with_reducible refine g_break ?_
    | with_reducible refine g_drop ?_
    | with_reducible refine g_if ?_
    | ((with_reducible show tVar _ _ _ _); refine g_var rfl ?_)
    | with_reducible refine g_c ?_
    | with_reducible refine g_op ?_
    | with_reducible refine g_un ?_
    | with_reducible refine g_test ?_
    | with_reducible refine g_tB ?_
    | with_reducible refine g_exb ?_
    | with_reducible refine g_exbi ?_
    | with_reducible refine g_and ?_
    | with_reducible refine g_or ?_
    | with_reducible refine g_not ?_
    | with_reducible refine g_tIf ?_
    | with_reducible refine g_andV ?_
    | with_reducible refine g_chain ?_
    | with_reducible refine g_chain3 ?_
    | with_reducible refine g_rI0 ?_
    | with_reducible refine g_rU ?_
    | with_reducible refine g_eqI ?_
    | with_reducible refine g_neI ?_
    | with_reducible refine g_eqS ?_
    | with_reducible refine g_neS ?_
    | with_reducible refine g_isNoR ?_
    | with_reducible refine g_isNoN ?_
    | with_reducible refine g_isNoS ?_
    | with_reducible refine g_notNoR ?_
    | with_reducible refine g_notNoS ?_
    | with_reducible refine g_notNoN ?_
    | with_reducible refine g_nil ?_
    | with_reducible refine g_cons ?_
    | with_reducible refine g_cb ?_
    | with_reducible refine g_call ?_
    | with_reducible refine g_tup ?_
    | with_reducible refine g_lst ?_
    | with_reducible refine g_dget ?_
    | with_reducible refine g_din ?_
    | with_reducible refine g_dnin ?_
    | with_reducible refine g_dput ?_
    | with_reducible refine g_daug ?_
    | with_reducible refine g_rAdd ?_
    | with_reducible refine g_rSub ?_
    | with_reducible refine g_tcons ?_
    | with_reducible refine g_tnil ?_
    | with_reducible refine g_forL ?_
    | with_reducible refine g_lc ?_
    | with_reducible refine g_dc ?_
    | with_reducible refine g_yes ?_
    | with_reducible refine g_ipI ?_
    | ((with_reducible show tAug _ _ _ _ _ _); refine g_aug rfl ?_)
    | with_reducible refine g_revL ?_
    | with_reducible refine g_sfld ?_
    | with_reducible refine g_abs ?_
    | with_reducible refine g_maxI ?_
    | with_reducible refine g_minI ?_
    | with_reducible refine g_int1 ?_
    | ((with_reducible refine g_modP ?_ ?_); (focus decide))
    | ((with_reducible refine g_fdivP ?_ ?_ ?_); (focus decide); (focus decide))
    | ((with_reducible refine g_mulL ?_ ?_ ?_); (focus decide); (focus decide))
    | ((with_reducible refine g_mulR ?_ ?_ ?_); (focus decide); (focus decide))
    | with_reducible refine g_forR ?_
    | with_reducible refine g_slice ?_
    | with_reducible refine g_nopart ?_
    | with_reducible refine g_part ?_
    | with_reducible refine g_partI ?_
    | with_reducible refine g_intB ?_
    | with_reducible refine g_nT ?_
    | with_reducible refine g_nF ?_
    | with_reducible refine g_T ?_
    | with_reducible refine g_F ?_))
local macro_rules
  | `(tactic| walk_at "len") => `(tactic| (intro vs H Q E h; first | (obtain ⟨e, _⟩ := h; rw [e]; rfl) | (obtain ⟨_, e, _⟩ := h; rw [e]; rfl) | (obtain ⟨_, _, e, _⟩ := h; rw [e]; rfl) | (obtain ⟨_, _, _, e, _⟩ := h; rw [e]; rfl) | (obtain ⟨_, _, _, _, e, _⟩ := h; rw [e]; rfl) | (obtain ⟨_, _, _, _, _, e, _⟩ := h; rw [e]; rfl) | (obtain ⟨_, _, _, _, _, _, e, _⟩ := h; rw [e]; rfl) | (obtain ⟨_, _, _, _, _, _, _, e, _⟩ := h; rw [e]; rfl) | (obtain ⟨_, _, _, _, _, _, _, _, e, _⟩ := h; rw [e]; rfl) | (obtain ⟨_, _, _, _, _, _, _, _, _, e, _⟩ := h; rw [e]; rfl) | (obtain ⟨_, _, _, _, _, _, _, _, _, _, e, _⟩ := h; rw [e]; rfl) | (obtain ⟨_, _, _, _, _, _, _, _, _, _, _, e, _⟩ := h; rw [e]; rfl) | (obtain ⟨_, _, _, _, _, _, _, _, _, _, _, _, e, _⟩ := h; rw [e]; rfl) | (obtain ⟨_, _, _, _, _, _, _, _, _, _, _, _, _, e, _⟩ := h; rw [e]; rfl) | (obtain ⟨_, _, _, _, _, _, _, _, _, _, _, _, _, _, e, _⟩ := h; rw [e]; rfl) | (obtain ⟨_, _, _, _, _, _, _, _, _, _, _, _, _, _, _, e, _⟩ := h; rw [e]; rfl)))
local macro_rules
  | `(tactic| walk_at "nf") => `(tactic| try simp only [L2.start, List.map_cons, List.map_nil, List.length_cons, List.length_nil, List.drop_succ_cons, List.drop_zero, List.replicate_succ, List.replicate_zero, List.cons_append, List.nil_append, List.set_cons_succ, List.set_cons_zero, Nat.reduceAdd, Nat.reduceSub])
/-! ### readings -/
structure Rdg where
  ks : List Str
  nu : Str → Int
  to : Str → Int
structure Rdg.Ok (R : Rdg) (p : Pl) : Prop where
  nd : R.ks.Nodup
  sub : ∀ n ∈ R.ks, n ∈ p.names
  rng : ∀ n ∈ R.ks, 0 ≤ R.nu n ∧ R.nu n ≤ 1000000 ∧ 0 ≤ R.to n ∧ R.to n ≤ 1000000
def RdAt (H : Hp) (b : Addr) (R : Rdg) : Prop := LimAt H b R.ks R.nu R.to
def Pl.low (p : Pl) (n : Str) : Int := match p.ss.find? fun s => decide (s.nm = n) with | some s => s.lo | none => 0
def Pl.high (p : Pl) (n : Str) : Int := match p.ss.find? fun s => decide (s.nm = n) with | some s => s.hi | none => 0
theorem find_nm {ss : List Stm} (hn : (ss.map (·.nm)).Nodup) {s : Stm} (hs : s ∈ ss) : ss.find? (fun x => decide (x.nm = s.nm)) = some s := by
  cases e : ss.find? (fun x => decide (x.nm = s.nm)) with
  | none => exact absurd (decide_eq_true rfl) (List.find?_eq_none.mp e s hs)
  | some x =>
    have h1 := List.mem_of_find?_eq_some e
    have h2 := List.find?_some e
    rw [inj_of_nodup hn h1 hs (of_decide_eq_true h2)]
theorem Pl.low_eq {p : Pl} (ok : p.Ok) {s : Stm} (hs : s ∈ p.ss) : p.low s.nm = s.lo := by unfold Pl.low; rw [find_nm ok.nm hs]
theorem Pl.high_eq {p : Pl} (ok : p.Ok) {s : Stm} (hs : s ∈ p.ss) : p.high s.nm = s.hi := by unfold Pl.high; rw [find_nm ok.nm hs]
def Rdg.lo (R : Rdg) (p : Pl) (n : Str) : Int := if n ∈ R.ks then (if R.nu n - R.to n > p.low n then R.nu n - R.to n else p.low n) else p.low n
def Rdg.hi (R : Rdg) (p : Pl) (n : Str) : Int := if n ∈ R.ks then (if R.nu n + R.to n < p.high n then R.nu n + R.to n else p.high n) else p.high n
/-- the flows that agree -/
def Agr (p : Pl) (R : Rdg) (f : Str → Int) : Prop := Feas p (R.lo p) (R.hi p) f
theorem rdg_len {R : Rdg} {p : Pl} (h : R.Ok p) (ok : p.Ok) : R.ks.length ≤ 30 := by
  have h1 := nodup_len h.nd h.sub
  unfold Pl.names at h1
  rw [List.length_map] at h1
  have := ok.sl
  omega
theorem lim_add {H : Hp} {a q : Addr} {ks : List Str} {lo hi : Str → Int} {n : Str} (h : LimAt H a ks lo hi) (hn : n ∉ ks) (hq : H q = some (.tup [.int (lo n), .int (hi n)])) :
    ∃ val, H a = some (dk ks val) ∧ LimAt (upd H a (dk (ks ++ [n]) (fup val n (.ref q)))) a (ks ++ [n]) lo hi := by
  obtain ⟨r, h1, h2⟩ := h
  refine ⟨_, h1, fup r n q, ?_, fun m hm => ?_⟩
  · rw [upd_same]
    congr 1
    refine dk_congr fun k _ => ?_
    unfold fup
    split <;> rfl
  · have nt : ∀ b xs, H b = some (.tup xs) → b ≠ a := fun b xs e => ne_of e h1 (by intro z; cases z)
    unfold fup
    by_cases z : m = n
    · rw [if_pos z, upd_ne (nt _ _ hq), z]; exact hq
    · rw [if_neg z]
      have hk : m ∈ ks := (List.mem_append.mp hm).elim id fun y => absurd (List.mem_singleton.mp y) z
      rw [upd_ne (nt _ _ (h2 m hk))]; exact h2 m hk
theorem lk_num (n : Int) (D : Addr) (o1 o2 : V) : ([("number", V.int n), ("flows", .ref D), ("least", o1), ("greatest", o2)] : List (Str × V)).lookup ("number" : Str) = some (.int n) := by
  rw [List.lookup_cons]
  simp
theorem lk_flo (n : Int) (D : Addr) (o1 o2 : V) : ([("number", V.int n), ("flows", .ref D), ("least", o1), ("greatest", o2)] : List (Str × V)).lookup ("flows" : Str) = some (.ref D) := by
  have h : (("flows" : Str) == "number") = false := by decide +kernel
  rw [List.lookup_cons, h, List.lookup_cons]
  simp
abbrev s_flows_within : Stmt := top 38
abbrev N_flows_within : List Str := ["plant", "limits", "found"]
theorem sc_flows_within : FnScope N_flows_within ["plant", "limits"] (defScope s_flows_within) := ⟨rfl, rfl, rfl, by decide +kernel, rfl, by decide +kernel, by decide +kernel⟩
def sp_flows_within (K : PySem.W.Frag) (z : Ad) : Sp := fun vs H Q _ => ∃ (a b : Addr) (p : Pl) (lo hi : Str → Int), vs = [.ref a, .ref b] ∧ PlAt z.C H a p ∧ LimAt H b p.names lo hi ∧
  (∀ H', Same H H' → (∀ g, ¬ Feas p lo hi g) → Q .non H') ∧ ∀ D H' f, H D = none → Same H H' → H' D = some (dk p.names (fl f)) → Feas p lo hi f → Q (.ref D) H'
theorem ok_flows_within {P : Program} {w : World} {K : PySem.W.Frag} {mg : Str → Option Value} {base : Heap} {z : Ad} (T : Bi mg) (Z : Cx3 K z.C z.CM z.CR) (D : Df K mg "flows_within" s_flows_within ["plant", "limits"]) (c_least_missing : Cal P w K mg base 6 "least_missing" (sp_least_missing K z) []) : Cal P w K mg base 7 "flows_within" (sp_flows_within K z) [] := by
  have nd := sc_flows_within.nd
  refine cal_mk D sc_flows_within (by walk_at "len") (fun cdv A outer s H vs Q E f hr h => ⟨_, (pss_cons (ps_set (i := 2) nd rfl (.inl rfl) (pe_c c_least_missing hr (by decide) (by rfl) (pa_cons (pv 0) (pa_cons (pv 1) pa_nil))))
    (pss_cons (ps_if (PW.pt (pw_or (pt_cmpR op_isNo (pv 2) pe_non (nomark _)) (pw_or1 (pt_cmpR op_gt (pe_fld (pv 2) rfl) pe_int (nomark _)))))
    (pss_one (ps_ret pe_non)) pss_nil)
    (pss_one (ps_ret (pe_fld (pv 2) rfl))))), ?_⟩)
  obtain ⟨a, b, p, lo, hi, rfl, hP, hb, k1, k2⟩ := h
  walk_at "go"
  refine ⟨a, b, p, lo, hi, rfl, hP, hb, fun H1 s1 ⟨n, hn, hlt⟩ => ?_, fun x D H1 n f hx hD s1 hm e1 hbd m1 m2 => ?_⟩
  · walk_at "go"
    refine k1 H1 s1 fun g hg => ?_
    have := hg.1 n hn
    omega
  · obtain ⟨dx, o1, o2, ex⟩ := hm
    walk_at "go"
    refine g_fld rfl ex Z.clM Z.mN (lk_num _ _ _ _) ?_
    walk_at "go"
    refine g_ite (fun hn => ?_) (fun hn => ?_)
    · walk_at "go"
      exact k1 H1 s1 (m1 hn)
    · walk_at "go"
      refine g_fld rfl ex Z.clM Z.mF (lk_flo _ _ _ _) ?_
      exact k2 D H1 f hD s1 e1 ⟨hbd, m2 (by omega)⟩
abbrev s_check_readings : Stmt := top 34
abbrev N_check_readings : List Str := ["plant", "readings", "names", "name", "reading", "part"]
theorem sc_check_readings : FnScope N_check_readings ["plant", "readings"] (defScope s_check_readings) := ⟨rfl, rfl, rfl, by decide +kernel, rfl, by decide +kernel, by decide +kernel⟩
def sp_check_readings (K : PySem.W.Frag) (z : Ad) : Sp := fun vs H Q _ => ∃ (a b : Addr) (p : Pl) (R : Rdg), vs = [.ref a, .ref b] ∧ PlAt z.C H a p ∧ RdAt H b R ∧ R.Ok p ∧ ∀ H', Same H H' → Q .non H'
theorem ok_check_readings {P : Program} {w : World} {K : PySem.W.Frag} {mg : Str → Option Value} {base : Heap} {z : Ad} (T : Bi mg) (Z : Cx3 K z.C z.CM z.CR) (D : Df K mg "check_readings" s_check_readings ["plant", "readings"]) (c_Plant_stream_names : Met P w K mg base 1 z.C "stream_names" (sp_Plant_stream_names K z) []) : Cal P w K mg base 2 "check_readings" (sp_check_readings K z) [] := by
  have nd := sc_check_readings.nd
  refine cal_mk D sc_check_readings (by walk_at "len") (fun cdv A outer s H vs Q E f hr h => ⟨_, (pss_cons (ps_set (i := 2) nd rfl (.inl rfl) (pe_mt0 c_Plant_stream_names hr (by decide) (pv 0)))
    (pss_cons (ps_for PassesOwn.never rfl (pi_list (pe_callB (cr_sortDk rfl) (by rfl) T.b_sorted (by decide +kernel) (pa_cons (pv 1) pa_nil))) (pg_name (i := 3) nd rfl (.inl rfl))
    (pss_one (ps_if (pt_cmpR (op_notInK (K := K) rfl) (pv 3) (pv 2) rfl)
    (pss_one ps_never) pss_nil)))
    (pss_one (ps_for PassesOwn.never rfl (pi_list (pe_callB (cr_sortDk rfl) (by rfl) T.b_sorted (by decide +kernel) (pa_cons (pv 1) pa_nil))) (pg_name (i := 3) nd rfl (.inl rfl))
    (pss_cons (ps_set (i := 4) nd rfl (.inl rfl) (pe_dget (hu_of hr) (pv 1) (pv 3) (fun _ _ => rfl)))
    (pss_one (ps_if (PW.pt (pw_or (pt_cmpR op_ne (pe_callB (cr_lenQ (K := K) rfl) (by rfl) T.b_len (by decide +kernel) (pa_cons (pv 4) pa_nil)) pe_int (nomark _)) (pw_or1 (pt_not (pt_val (pe_callB (cr_allK (K := K) rfl rfl) (by rfl) T.b_all (by decide +kernel) (pa_cons (pe_lc (own := [("part", 5)]) rfl nd (pi_tup (pv 4)) (blkOk_by (own := [("part", 5)]) (N := N_check_readings) (sc := defScope s_check_readings) (by decide +kernel)) (fun _ _ _ _ _ => (pg_name (i := 5) nd rfl (.inl rfl))) (fun _ _ _ _ _ => pts_nil) (fun _ _ _ _ _ => (pe_chain op_le op_le pe_int (pv 5) (pe_gc (by rfl) T.g_MOST_FLOW)))) pa_nil)))))))
    (pss_one ps_never) pss_nil))))))), ?_⟩)
  obtain ⟨a, b, p, R, rfl, hP, ⟨r, hb, hbt⟩, hR, k⟩ := h
  have hl := rdg_len hR hP.1
  walk_at "go"
  refine g_pnames rfl hP fun nm H1 hnm s1 e1 => ?_
  walk_at "go"
  refine g_sortD (.inl (s1 _ _ hb)) (by omega) fun ys u H2 py _ hu s2 eu => ?_
  have s02 := L2.Same.trans s1 s2
  refine kFor_run ys V.str (SqL.of eu) (fun d σ' H' => H' = H2 ∧ ∃ y, σ' = [some (.ref a), some (.ref b), some (.ref nm), y, none, none]) ⟨rfl, none, rfl⟩ (fun d σ' H' ⟨e, _⟩ => by rw [e]; exact SqL.of eu) (fun d y r' σ' H' hL hI => ?_) (fun σ' H' hI => ?_)
  · obtain ⟨rfl, w, rfl⟩ := hI
    have hy : y ∈ R.ks := py.mem_iff.mp (by rw [hL]; exact List.mem_append_right _ List.mem_cons_self)
    refine g_name ?_
    walk_at "go"
    refine g_ninS (s2 _ _ e1) ?_
    walk_at "go"
    refine g_iteNF (hR.sub y hy) ?_
    walk_at "go"
    exact ⟨rfl, _, rfl⟩
  · obtain ⟨rfl, w, rfl⟩ := hI
    walk_at "go"
    refine g_sortD (.inl (s02 _ _ hb)) (by omega) fun zs v H3 pz _ hv s3 ev => ?_
    have s03 := L2.Same.trans s02 s3
    refine kFor_run zs V.str (SqL.of ev) (fun d σ' H' => Same H3 H' ∧ ∃ y3 y4, σ' = [some (.ref a), some (.ref b), some (.ref nm), y3, y4, none]) ⟨Same.refl _, _, _, rfl⟩ (fun d σ' H' ⟨s', _⟩ => SqL.of (s' _ _ ev)) (fun d y r' σ' H' hL hI => ?_) (fun σ' H' hI => ?_)
    · obtain ⟨s', y3, y4, rfl⟩ := hI
      have hy : y ∈ R.ks := pz.mem_iff.mp (by rw [hL]; exact List.mem_append_right _ List.mem_cons_self)
      have s0' := L2.Same.trans s03 s'
      obtain ⟨q1, q2, q3, q4⟩ := hR.rng y hy
      refine g_name ?_
      walk_at "go"
      refine g_kgetR (.inl (s0' _ _ hb)) hy ?_
      walk_at "go"
      have et := s0' _ _ (hbt y hy)
      refine g_lenT et ?_
      walk_at "go"
      refine g_iteNF rfl ?_
      walk_at "go"
      refine g_lcTup (L := [R.nu y, R.to y]) (f := V.int) rfl et (by simp) (fun m => some (.bl true)) (fun m hm H4 s4 C c => ?_) (fun D H4 hD s4 e4 => ?_)
      · have hm : 0 ≤ m ∧ m ≤ 1000000 := by
          rcases List.mem_cons.mp hm with z | z
          · rw [z]; exact ⟨q1, q2⟩
          · rw [List.mem_singleton.mp z]; exact ⟨q3, q4⟩
        refine g_name ⟨rfl, ?_⟩
        walk_at "go"
        refine g_iteT hm.1 ?_
        walk_at "go"
        rw [decide_eq_true hm.2]
        exact c H4 (Same.refl _)
      · walk_at "go"
        refine g_allB (b := fun _ => true) e4 ?_
        rw [show ([R.nu y, R.to y].all fun _ => true) = true from rfl]
        walk_at "go"
        exact ⟨L2.Same.trans s' s4, _, _, rfl⟩
    · obtain ⟨s', y3, y4, rfl⟩ := hI
      exact k H' (L2.Same.trans s03 s')
abbrev s_limits_of : Stmt := top 35
abbrev N_limits_of : List Str := ["plant", "readings", "found", "name", "_", "low", "high", "number", "tolerance"]
theorem sc_limits_of : FnScope N_limits_of ["plant", "readings"] (defScope s_limits_of) := ⟨rfl, rfl, rfl, by decide +kernel, rfl, by decide +kernel, by decide +kernel⟩
def sp_limits_of (K : PySem.W.Frag) (z : Ad) : Sp := fun vs H Q _ => ∃ (a b : Addr) (p : Pl) (R : Rdg), vs = [.ref a, .ref b] ∧ PlAt z.C H a p ∧ RdAt H b R ∧ R.Ok p ∧ ∀ D H', H D = none → Same H H' → LimAt H' D p.names (R.lo p) (R.hi p) → Q (.ref D) H'
theorem ok_limits_of {P : Program} {w : World} {K : PySem.W.Frag} {mg : Str → Option Value} {base : Heap} {z : Ad} (T : Bi mg) (Z : Cx3 K z.C z.CM z.CR) (D : Df K mg "limits_of" s_limits_of ["plant", "readings"]) (c_Plant_streams : Prp P w K mg base 1 z.C "streams" (sp_Plant_streams K z)) (c_check_readings : Cal P w K mg base 2 "check_readings" (sp_check_readings K z) []) : Cal P w K mg base 3 "limits_of" (sp_limits_of K z) [] := by
  have nd := sc_limits_of.nd
  refine cal_mk D sc_limits_of (by walk_at "len") (fun cdv A outer s H vs Q E f hr h => ⟨_, (pss_cons (ps_expr (pe_c c_check_readings hr (by decide) (by rfl) (pa_cons (pv 0) (pa_cons (pv 1) pa_nil))))
    (pss_cons (ps_set (i := 2) nd rfl (.inl rfl) pe_dnewK)
    (pss_cons (ps_for PassesOwn.never rfl (pi_list (pe_pr c_Plant_streams hr (by decide) (pv 0) rfl)) (pg_tupK (K := K) (n := 5) rfl rfl (pgs_cons (pg_name (i := 3) nd rfl (.inl rfl)) (pgs_cons (pg_name (i := 4) nd rfl (.inl rfl)) (pgs_cons (pg_name (i := 4) nd rfl (.inl rfl)) (pgs_cons (pg_name (i := 5) nd rfl (.inl rfl)) (pgs_cons (pg_name (i := 6) nd rfl (.inl rfl)) pgs_nil))))))
    (pss_cutI (ps_if (pt_cmp (pc_din (hu_of hr) (pv 3) (pv 1)))
    (pss_cons (ps_asg (pe_dget (hu_of hr) (pv 1) (pv 3) (fun _ _ => rfl)) (pg_tupK (K := K) (n := 2) rfl rfl (pgs_cons (pg_name (i := 7) nd rfl (.inl rfl)) (pgs_cons (pg_name (i := 8) nd rfl (.inl rfl)) pgs_nil))))
    (pss_cons (ps_set (i := 5) nd rfl (.inl rfl) (pe_callB (cr_maxI rfl) (by rfl) T.b_max (by decide +kernel) (pa_cons (pv 5) (pa_cons (pe_op op_sub (pv 7) (pv 8)) pa_nil))))
    (pss_one (ps_set (i := 6) nd rfl (.inl rfl) (pe_callB (cr_minI rfl) (by rfl) T.b_min (by decide +kernel) (pa_cons (pv 6) (pa_cons (pe_op op_add (pv 7) (pv 8)) pa_nil))))))) pss_nil)
    (pss_one (ps_dput (hu_of hr) (pv 2) (pv 3) (pe_tup (pa_cons (pv 5) (pa_cons (pv 6) pa_nil))) rfl))))
    (pss_one (ps_ret (pv 2)))))), ?_⟩)
  obtain ⟨a, b, p, R, rfl, hP, hb, hR, k⟩ := h
  have ok := hP.1
  walk_at "go"
  refine ⟨a, b, p, R, rfl, hP, hb, hR, fun H1 s1 => ?_⟩
  walk_at "go"
  refine g_dnew (fun n => .ref 0) fun D H2 hD s2 e2 => ?_
  walk_at "go"
  have s02 := L2.Same.trans s1 s2
  refine g_pstreams rfl (hP.mono s02) fun as H3 has s3 ⟨L, hL, eL, hT⟩ => ?_
  rw [rf_fst] at eL
  have s03 := L2.Same.trans s02 s3
  have hD0 : H D = none := fresh_of s1 hD
  have hnd : (L.map fun q => q.2.nm).Nodup := by
    have := ok.nm
    unfold Pl.names at this
    rw [← hL, List.map_map] at this
    exact this
  have hLl : L.length ≤ 30 := by have := ok.sl; rw [← hL, List.length_map] at this; exact this
  have nD : D ≠ as := ne_of_none e2 has
  refine kFor_run L fst (SqL.of eL) (fun d σ' H' => But [D] H3 H' ∧ LimAt H' D (d.map fun q => q.2.nm) (R.lo p) (R.hi p) ∧ ∃ y3 y4 y5 y6 y7 y8, σ' = [some (.ref a), some (.ref b), some (.ref D), y3, y4, y5, y6, y7, y8])
    ⟨But.refl _ _, ⟨fun _ => 0, s3 _ _ e2, fun _ z => by cases z⟩, _, _, _, _, _, _, rfl⟩ (fun d σ' H' ⟨bt, _⟩ => SqL.of (bt _ _ (by simpa using nD.symm) eL)) (fun d q r σ' H' hL' hI => ?_) (fun σ' H' hI => ?_)
  · obtain ⟨bt, lm, y3, y4, y5, y6, y7, y8, rfl⟩ := hI
    have hq : q ∈ L := by rw [hL']; exact List.mem_append_right _ List.mem_cons_self
    have hm : q.2 ∈ p.ss := by rw [← hL]; exact List.mem_map.mpr ⟨q, hq, rfl⟩
    have sH : Same H H' := bt.same s03 (by intro x hx; rw [List.mem_singleton.mp hx]; exact hD0)
    have et : H' q.1 = some (.tup q.2.row) := bt _ _ (by simpa using ne_of (hT q hq) (s3 _ _ e2) (by intro z; cases z)) (hT q hq)
    have hnew : q.2.nm ∉ d.map fun q => q.2.nm := by
      rw [hL', List.map_append, List.map_cons] at hnd
      exact fun z => (List.nodup_append.mp hnd).2.2 _ z _ List.mem_cons_self rfl
    have hdl : (d.map fun q => q.2.nm).length < 1000 := by rw [hL', List.length_append] at hLl; rw [List.length_map]; omega
    obtain ⟨rr, hb1, hb2⟩ := hb.mono sH
    refine g_stm et ?_
    walk_at "go"
    refine g_cut (fun σ' H2 => H2 = H' ∧ ∃ y7 y8, σ' = [some (.ref a), some (.ref b), some (.ref D), some (.str q.2.nm), some (.str q.2.hd), some (.int (R.lo p q.2.nm)), some (.int (R.hi p q.2.nm)), y7, y8]) ?_ (fun σ2 H4 hM => ?_)
    · walk_at "go"
      refine g_kin (.inl hb1) ?_
      walk_at "go"
      refine g_ite (fun hn => ?_) (fun hn => ?_)
      · walk_at "go"
        refine g_kgetR (.inl hb1) hn ?_
        refine g_two (hb2 _ hn) ?_
        walk_at "go"
        refine ⟨rfl, some (.int (R.nu q.2.nm)), some (.int (R.to q.2.nm)), ?_⟩
        unfold Rdg.lo Rdg.hi
        rw [if_pos hn, if_pos hn, Pl.low_eq ok hm, Pl.high_eq ok hm]
        rfl
      · walk_at "go"
        refine ⟨rfl, y7, y8, ?_⟩
        unfold Rdg.lo Rdg.hi
        rw [if_neg hn, if_neg hn, Pl.low_eq ok hm, Pl.high_eq ok hm]
        rfl
    · obtain ⟨rfl, y7, y8, rfl⟩ := hM
      walk_at "go"
      refine g_newT (by simp) fun t H5 ht s5 e5 => ?_
      walk_at "go"
      obtain ⟨val, ev, lm2⟩ := lim_add (lm.mono s5) hnew e5
      refine g_kput ev hdl ?_
      rw [ins_new hnew]
      refine ⟨bt.trans ((But.of s5).trans (But.upd (by simp))), ?_, _, _, _, _, _, _, rfl⟩
      rw [List.map_append]
      exact lm2
  · obtain ⟨bt, lm, y3, y4, y5, y6, y7, y8, rfl⟩ := hI
    walk_at "go"
    have e : (L.map fun q => q.2.nm) = p.names := by
      unfold Pl.names
      rw [← hL, List.map_map]
      rfl
    rw [e] at lm
    exact k D H' hD0 (bt.same s03 (by intro x hx; rw [List.mem_singleton.mp hx]; exact hD0)) lm
abbrev s_flows_of : Stmt := top 39
abbrev N_flows_of : List Str := ["plant", "readings"]
theorem sc_flows_of : FnScope N_flows_of ["plant", "readings"] (defScope s_flows_of) := ⟨rfl, rfl, rfl, by decide +kernel, rfl, by decide +kernel, by decide +kernel⟩
def sp_flows_of (K : PySem.W.Frag) (z : Ad) : Sp := fun vs H Q _ => ∃ (a b : Addr) (p : Pl) (R : Rdg), vs = [.ref a, .ref b] ∧ PlAt z.C H a p ∧ RdAt H b R ∧ R.Ok p ∧
  (∀ H', Same H H' → (∀ g, ¬ Agr p R g) → Q .non H') ∧ ∀ D H' f, H D = none → Same H H' → H' D = some (dk p.names (fl f)) → Agr p R f → Q (.ref D) H'
theorem ok_flows_of {P : Program} {w : World} {K : PySem.W.Frag} {mg : Str → Option Value} {base : Heap} {z : Ad} (T : Bi mg) (Z : Cx3 K z.C z.CM z.CR) (D : Df K mg "flows_of" s_flows_of ["plant", "readings"]) (c_flows_within : Cal P w K mg base 7 "flows_within" (sp_flows_within K z) []) (c_limits_of : Cal P w K mg base 3 "limits_of" (sp_limits_of K z) []) : Cal P w K mg base 8 "flows_of" (sp_flows_of K z) [] := by
  have nd := sc_flows_of.nd
  refine cal_mk D sc_flows_of (by walk_at "len") (fun cdv A outer s H vs Q E f hr h => ⟨_, (pss_one (ps_ret (pe_c c_flows_within hr (by decide) (by rfl) (pa_cons (pv 0) (pa_cons (pe_c c_limits_of hr (by decide) (by rfl) (pa_cons (pv 0) (pa_cons (pv 1) pa_nil))) pa_nil))))), ?_⟩)
  obtain ⟨a, b, p, R, rfl, hP, hb, hR, k1, k2⟩ := h
  walk_at "go"
  refine ⟨a, b, p, R, rfl, hP, hb, hR, fun D H1 hD s1 lm => ?_⟩
  walk_at "go"
  exact ⟨a, D, p, _, _, rfl, hP.mono s1, lm, fun H2 s2 h => k1 H2 (L2.Same.trans s1 s2) h, fun D2 H2 f hD2 s2 e h => k2 D2 H2 f (fresh_of s1 hD2) (L2.Same.trans s1 s2) e h⟩
abbrev s_without_reading : Stmt := top 36
abbrev N_without_reading : List Str := ["readings", "name", "other"]
theorem sc_without_reading : FnScope N_without_reading ["readings", "name"] (defScope s_without_reading) := ⟨rfl, rfl, rfl, by decide +kernel, rfl, by decide +kernel, by decide +kernel⟩
def Rdg.wo (R : Rdg) (n : Str) : Rdg := ⟨R.ks.filter fun k => !decide (k = n), R.nu, R.to⟩
def sp_without_reading (K : PySem.W.Frag) (z : Ad) : Sp := fun vs H Q _ => ∃ (b : Addr) (R : Rdg) (n : Str), vs = [.ref b, .str n] ∧ RdAt H b R ∧ R.ks.Nodup ∧ R.ks.length ≤ 30 ∧ n ∈ R.ks ∧ ∀ D H', H D = none → Same H H' → RdAt H' D (R.wo n) → Q (.ref D) H'
theorem ok_without_reading {P : Program} {w : World} {K : PySem.W.Frag} {mg : Str → Option Value} {base : Heap} {z : Ad} (T : Bi mg) (Z : Cx3 K z.C z.CM z.CR) (D : Df K mg "without_reading" s_without_reading ["readings", "name"])  : Cal P w K mg base 1 "without_reading" (sp_without_reading K z) [] := by
  have nd := sc_without_reading.nd
  refine cal_mk D sc_without_reading (by walk_at "len") (fun cdv A outer s H vs Q E f hr h => ⟨_, (pss_cons (ps_if (pt_cmp (pc_dnotin (hu_of hr) (pv 1) (pv 0)))
    (pss_one ps_never) pss_nil)
    (pss_one (ps_ret (pe_lock (pe_dc (own := [("other", 2)]) rfl nd (pi_keys (pv 0)) (blkOk_by (own := [("other", 2)]) (N := N_without_reading) (sc := defScope s_without_reading) (by decide +kernel)) (fun _ _ _ _ _ => (pg_name (i := 2) nd rfl (.inl rfl))) (fun _ _ _ _ _ => pts_one (pt_cmpR op_ne (pv 2) (pv 1) (nomark _))) (fun _ _ _ _ _ => (pv 2)) (fun _ _ _ _ _ => (pe_dget (hu_of hr) (pv 0) (pv 2) (fun _ _ => rfl)))))))), ?_⟩)
  obtain ⟨b, R, n, rfl, ⟨r, hb, hbt⟩, hnd, hl, hn, k⟩ := h
  walk_at "go"
  refine g_knin (.inl hb) ?_
  walk_at "go"
  refine g_iteNF hn ?_
  walk_at "go"
  refine g_dcKeys rfl hb (by omega) hnd (fun y => !decide (y = n)) (fun y => .ref (r y)) (fun y hy H1 lk C c1 c2 => ?_) (fun D H1 hD s1 e1 => ?_)
  · refine g_name ⟨rfl, ?_⟩
    walk_at "go"
    refine g_iteN (fun hne => ?_) (fun heq => ?_)
    · walk_at "go"
      refine g_kgetR lk.2 hy ?_
      exact c1 H1 (Same.refl _) (by simpa using hne)
    · exact c2 H1 (Same.refl _) (by simpa using heq)
  · exact k D H1 hD s1 ⟨r, e1, fun m hm => s1 _ _ (hbt m (List.mem_filter.mp hm).1)⟩

end Mh
set_option Elab.async false
set_option linter.all false
set_option maxRecDepth 100000
set_option maxHeartbeats 4000000
namespace Mh
open PySem PySem.Spec PyProof.Rows L2
open C8 (Cal Mak Met pe_c pe_mk pe_mt pe_mt0 pe_gc)
local macro_rules
  | `(tactic| walk_at "hp") => `(tactic| first | assumption | (exact upd_same) | (refine (by assumption : Same _ _) _ _ ?_; first | assumption | (refine (by assumption : Same _ _) _ _ ?_; first | assumption | (refine (by assumption : Same _ _) _ _ ?_; assumption))))
local macro_rules
  | `(tactic| walk_at "go") => `(tactic| repeat (first
    | with_reducible refine g_seq ?_
    | with_reducible refine g_asg ?_
    | with_reducible refine g_name ?_
    | with_reducible refine g_ret ?_
    | with_reducible refine g_retN ?_
    | with_reducible refine g_next ?_
    | with_reducible refine g_break ?_
    | with_reducible refine g_drop ?_
    | with_reducible refine g_if ?_
    | ((with_reducible show tVar _ _ _ _); refine g_var rfl ?_)
    | with_reducible refine g_c ?_
    | with_reducible refine g_op ?_
    | with_reducible refine g_un ?_
    | with_reducible refine g_test ?_
    | with_reducible refine g_tB ?_
    | with_reducible refine g_exb ?_
    | with_reducible refine g_exbi ?_
    | with_reducible refine g_and ?_
    | with_reducible refine g_or ?_
    | with_reducible refine g_not ?_
    | with_reducible refine g_tIf ?_
    | with_reducible refine g_andV ?_
    | with_reducible refine g_chain ?_
    | with_reducible refine g_chain3 ?_
    | with_reducible refine g_rI0 ?_
    | with_reducible refine g_rU ?_
    | with_reducible refine g_eqI ?_
    | with_reducible refine g_neI ?_
    | with_reducible refine g_eqS ?_
    | with_reducible refine g_neS ?_
    | with_reducible refine g_isNoR ?_
    | with_reducible refine g_isNoN ?_
    | with_reducible refine g_isNoS ?_
    | with_reducible refine g_notNoR ?_
    | with_reducible refine g_notNoS ?_
    | with_reducible refine g_notNoN ?_
    | with_reducible refine g_nil ?_
    | with_reducible refine g_cons ?_
    | with_reducible refine g_cb ?_
    | with_reducible refine g_call ?_
    | with_reducible refine g_tup ?_
    | with_reducible refine g_lst ?_
    | with_reducible refine g_dget ?_
    | with_reducible refine g_din ?_
    | with_reducible refine g_dnin ?_
    | with_reducible refine g_dput ?_
    | with_reducible refine g_daug ?_
    | with_reducible refine g_rAdd ?_
    | with_reducible refine g_rSub ?_
    | with_reducible refine g_tcons ?_
    | with_reducible refine g_tnil ?_
    | with_reducible refine g_forL ?_
    | with_reducible refine g_lc ?_
    | with_reducible refine g_dc ?_
    | with_reducible refine g_yes ?_
    | with_reducible refine g_ipI ?_
    | ((with_reducible show tAug _ _ _ _ _ _); refine g_aug rfl ?_)
    | with_reducible refine g_revL ?_
    | with_reducible refine g_sfld ?_
    | with_reducible refine g_abs ?_
    | with_reducible refine g_maxI ?_
    | with_reducible refine g_minI ?_
    | with_reducible refine g_int1 ?_
    | ((with_reducible refine g_modP ?_ ?_); (focus decide))
    | ((with_reducible refine g_fdivP ?_ ?_ ?_); (focus decide); (focus decide))
    | ((with_reducible refine g_mulL ?_ ?_ ?_); (focus decide); (focus decide))
    | ((with_reducible refine g_mulR ?_ ?_ ?_); (focus decide); (focus decide))
    | with_reducible refine g_forR ?_
    | with_reducible refine g_slice ?_
    | with_reducible refine g_nopart ?_
    | with_reducible refine g_part ?_
    | with_reducible refine g_partI ?_
    | with_reducible refine g_intB ?_
    | with_reducible refine g_nT ?_
    | with_reducible refine g_nF ?_
    | with_reducible refine g_T ?_
    | with_reducible refine g_F ?_))
local macro_rules
  | `(tactic| walk_at "len") => `(tactic| (intro vs H Q E h; first | (obtain ⟨e, _⟩ := h; rw [e]; rfl) | (obtain ⟨_, e, _⟩ := h; rw [e]; rfl) | (obtain ⟨_, _, e, _⟩ := h; rw [e]; rfl) | (obtain ⟨_, _, _, e, _⟩ := h; rw [e]; rfl) | (obtain ⟨_, _, _, _, e, _⟩ := h; rw [e]; rfl) | (obtain ⟨_, _, _, _, _, e, _⟩ := h; rw [e]; rfl) | (obtain ⟨_, _, _, _, _, _, e, _⟩ := h; rw [e]; rfl) | (obtain ⟨_, _, _, _, _, _, _, e, _⟩ := h; rw [e]; rfl) | (obtain ⟨_, _, _, _, _, _, _, _, e, _⟩ := h; rw [e]; rfl) | (obtain ⟨_, _, _, _, _, _, _, _, _, e, _⟩ := h; rw [e]; rfl) | (obtain ⟨_, _, _, _, _, _, _, _, _, _, e, _⟩ := h; rw [e]; rfl) | (obtain ⟨_, _, _, _, _, _, _, _, _, _, _, e, _⟩ := h; rw [e]; rfl) | (obtain ⟨_, _, _, _, _, _, _, _, _, _, _, _, e, _⟩ := h; rw [e]; rfl) | (obtain ⟨_, _, _, _, _, _, _, _, _, _, _, _, _, e, _⟩ := h; rw [e]; rfl) | (obtain ⟨_, _, _, _, _, _, _, _, _, _, _, _, _, _, e, _⟩ := h; rw [e]; rfl) | (obtain ⟨_, _, _, _, _, _, _, _, _, _, _, _, _, _, _, e, _⟩ := h; rw [e]; rfl)))
local macro_rules
  | `(tactic| walk_at "nf") => `(tactic| try simp only [L2.start, List.map_cons, List.map_nil, List.length_cons, List.length_nil, List.drop_succ_cons, List.drop_zero, List.replicate_succ, List.replicate_zero, List.cons_append, List.nil_append, List.set_cons_succ, List.set_cons_zero, Nat.reduceAdd, Nat.reduceSub])
def LotV (H : Hp) (v : V) : Prop := v = .non ∨ ∃ l xs, v = .ref l ∧ H l = some (ls xs)
theorem LotV.mono {H H' : Hp} {v : V} (h : LotV H v) (e : Same H H') : LotV H' v := h.imp id fun ⟨l, xs, a, b⟩ => ⟨l, xs, a, e _ _ b⟩
theorem LotV.but {H H' : Hp} {v : V} {c : Addr} {ks : List Str} {val : Str → V} (h : LotV H v) (hc : H c = some (dk ks val)) (bt : But [c] H H') : LotV H' v :=
  h.imp id fun ⟨l, xs, a, b⟩ => ⟨l, xs, a, bt _ _ (by simpa using ne_of b hc (by intro z; cases z)) b⟩
theorem PlAt.but {C : Addr} {H H' : Hp} {a c : Addr} {p : Pl} {ks : List Str} {val : Str → V} (h : PlAt C H a p) (hc : H c = some (dk ks val)) (bt : But [c] H H') : PlAt C H' a p := by
  obtain ⟨ok, dx, ak, as, h1, h2, h3⟩ := h
  exact ⟨ok, dx, ak, as, bt _ _ (by simpa using ne_of h1 hc (by intro z; cases z)) h1, bt _ _ (by simpa using ne_of h2 hc (by intro z; cases z)) h2, tups_but h3 hc bt⟩
theorem putF_len (f : Str) (v : V) : ∀ fs : List (Str × V), (putF f v fs).length ≤ fs.length + 1
  | [] => Nat.le_refl _
  | (g, x) :: r => by
    show (if g = f then (g, v) :: r else (g, x) :: putF f v r).length ≤ _
    have := putF_len f v r
    split
    · simp
    · rw [List.length_cons, List.length_cons]; omega
/-- a Range at x: its numbers -/
def RgAt (C : Addr) (H : Hp) (x : Addr) (l h : Int) : Prop := ∃ dx fs, H x = some (.ins C dx fs) ∧ fs.lookup ("low" : Str) = some (.int l) ∧ fs.lookup ("high" : Str) = some (.int h)
abbrev s_Range___init__ : Stmt := inClass (top 41) 0
abbrev N_Range___init__ : List Str := ["self", "low", "high", "low_flows", "high_flows", "low_lot", "high_lot"]
theorem sc_Range___init__ : FnScope N_Range___init__ ["self", "low", "high", "low_flows", "high_flows", "low_lot", "high_lot"] (defScope s_Range___init__) := ⟨rfl, rfl, rfl, by decide +kernel, rfl, by decide +kernel, by decide +kernel⟩
def sp_Range___init__ (K : PySem.W.Frag) (z : Ad) : Sp := fun vs H Q _ => ∃ (x dx c d : Addr) (l h : Int) (u v : V) (ks ms : List Str) (f g : Str → V), vs = [.ref x, .int l, .int h, .ref c, .ref d, u, v] ∧ H x = some (.ins z.CR dx []) ∧ H c = some (dk ks f) ∧ H d = some (dk ms g) ∧ LotV H u ∧ LotV H v ∧
  ∀ H', But [x] H H' → RgAt z.CR H' x l h → Q .non H'
theorem ok_Range___init__ {P : Program} {w : World} {K : PySem.W.Frag} {mg : Str → Option Value} {base : Heap} {z : Ad} (T : Bi mg) (Z : Cx3 K z.C z.CM z.CR) (D : Dk K mg "Range" "Range.__init__" z.CR s_Range___init__ ["self", "low", "high", "low_flows", "high_flows", "low_lot", "high_lot"])  : Mak P w K mg base 1 "Range" z.CR (sp_Range___init__ K z) [] := by
  have nd := sc_Range___init__.nd
  refine mak_mk D sc_Range___init__ (by walk_at "len") (fun cdv A outer s H vs Q E f hr h => ⟨_, (pss_cons (ps_fld (pv 0) (pv 1) rfl)
    (pss_cons (ps_fld (pv 0) (pv 2) rfl)
    (pss_cons (ps_fld (pv 0) (pe_callTy cr_dictDk (by rfl) T.b_dict (by decide +kernel) (pa_cons (pv 3) pa_nil)) rfl)
    (pss_cons (ps_fld (pv 0) (pe_callTy cr_dictDk (by rfl) T.b_dict (by decide +kernel) (pa_cons (pv 4) pa_nil)) rfl)
    (pss_cons (ps_fld (pv 0) (pe_ifExp (pt_cmpR op_isNo (pv 5) pe_non (nomark _)) pe_non (pe_callTy (cr_listQ (K := K) rfl) (by rfl) T.b_list (by decide +kernel) (pa_cons (pv 5) pa_nil))) rfl)
    (pss_one (ps_fld (pv 0) (pe_ifExp (pt_cmpR op_isNo (pv 6) pe_non (nomark _)) pe_non (pe_callTy (cr_listQ (K := K) rfl) (by rfl) T.b_list (by decide +kernel) (pa_cons (pv 6) pa_nil))) rfl))))))), ?_⟩)
  obtain ⟨x, dx, c, d, l, h, u, v, ks, ms, f, g, rfl, hx, hc, hd, hu, hv, k⟩ := h
  have nc : c ≠ x := ne_of hc hx (by intro z; cases z)
  have ndx : d ≠ x := ne_of hd hx (by intro z; cases z)
  have key : ∀ w : V, LotV H w → w = .non ∨ ∃ l xs, w = .ref l ∧ l ≠ x ∧ H l = some (ls xs) := fun w hw => hw.imp id fun ⟨l, xs, e1, e2⟩ => ⟨l, xs, e1, ne_of e2 hx (by intro z; cases z), e2⟩
  walk_at "go"
  refine g_kfld hx Z.clR Z.rL (by simp) ?_
  have b1 : But [x] H (upd H x (.ins z.CR dx (putF "low" (.int l) []))) := But.upd (by simp)
  have l1 := putF_len "low" (.int l) []
  walk_at "go"
  refine g_kfld upd_same Z.clR Z.rH (by simp at l1 ⊢; omega) ?_
  have l2 := putF_len "high" (.int h) (putF "low" (.int l) [])
  have b2 := b1.trans (But.upd (l := [x]) (p := x) (o := .ins z.CR dx (putF "high" (.int h) (putF "low" (.int l) []))) (by simp))
  walk_at "go"
  refine g_dictD (.inl (b2 _ _ (by simpa using nc) hc)) fun D1 H1 hD1 s1 e1 => ?_
  walk_at "go"
  refine g_kfld (s1 _ _ upd_same) Z.clR Z.rLF (by simp at l1 l2 ⊢; omega) ?_
  have l3 := putF_len "low_flows" (.ref D1) (putF "high" (.int h) (putF "low" (.int l) []))
  have b3 := (b2.trans (But.of s1)).trans (But.upd (l := [x]) (p := x) (o := .ins z.CR dx (putF "low_flows" (.ref D1) (putF "high" (.int h) (putF "low" (.int l) [])))) (by simp))
  walk_at "go"
  refine g_dictD (.inl (b3 _ _ (by simpa using ndx) hd)) fun D2 H2 hD2 s2 e2 => ?_
  walk_at "go"
  refine g_kfld (s2 _ _ upd_same) Z.clR Z.rHF (by simp at l1 l2 l3 ⊢; omega) ?_
  have l4 := putF_len "high_flows" (.ref D2) (putF "low_flows" (.ref D1) (putF "high" (.int h) (putF "low" (.int l) [])))
  have b4 := (b3.trans (But.of s2)).trans (But.upd (l := [x]) (p := x) (o := .ins z.CR dx (putF "high_flows" (.ref D2) (putF "low_flows" (.ref D1) (putF "high" (.int h) (putF "low" (.int l) []))))) (by simp))
  have g1 : (putF "high_flows" (.ref D2) (putF "low_flows" (.ref D1) (putF "high" (.int h) (putF "low" (.int l) [])))).lookup ("low" : Str) = some (.int l) := by
    rw [lookup_putF, if_neg (by decide +kernel), lookup_putF, if_neg (by decide +kernel), lookup_putF, if_neg (by decide +kernel), lookup_putF, if_pos rfl]
  have g2 : (putF "high_flows" (.ref D2) (putF "low_flows" (.ref D1) (putF "high" (.int h) (putF "low" (.int l) [])))).lookup ("high" : Str) = some (.int h) := by
    rw [lookup_putF, if_neg (by decide +kernel), lookup_putF, if_neg (by decide +kernel), lookup_putF, if_pos rfl]
  have l5 : (putF "high_flows" (.ref D2) (putF "low_flows" (.ref D1) (putF "high" (.int h) (putF "low" (.int l) [])))).length < 900 := by simp at l1 l2 l3 l4 ⊢; omega
  clear l1 l2 l3 l4 b1 b2 b3
  have hx4 : ∀ (H2 : Hp) fs, (upd H2 x (.ins z.CR dx fs)) x = some (.ins z.CR dx fs) := fun _ _ => upd_same
  generalize putF "high_flows" (V.ref D2) (putF "low_flows" (.ref D1) (putF "high" (.int h) (putF "low" (.int l) []))) = fs at *
  have fin : ∀ (H3 : Hp) (o : V), But [x] H H3 → H3 x = some (.ins z.CR dx (putF "low_lot" o fs)) → sFld K (tVar 0) (tIf (tTest (tOp rIsNo (tVar 6) (tC .non))) (tC .non) (tCB (rListQ K) (tCons (tVar 6) tNil))) "high_lot" ⟨fun _ H' => Q .non H', Q, fun _ _ => False, fun _ _ => False⟩ (L2.start N_Range___init__ [.ref x, .int l, .int h, .ref c, .ref d, u, v]) H3 := fun H3 o b5 hx3 => by
    have l6 := putF_len "low_lot" o fs
    have end2 : ∀ (H4 : Hp) (o2 : V), But [x] H H4 → H4 x = some (.ins z.CR dx (putF "high_lot" o2 (putF "low_lot" o fs))) → Q .non H4 := fun H4 o2 b6 e6 => k H4 b6 ⟨dx, _, e6, by
      rw [lookup_putF, if_neg (by decide +kernel), lookup_putF, if_neg (by decide +kernel)]; exact g1, by
      rw [lookup_putF, if_neg (by decide +kernel), lookup_putF, if_neg (by decide +kernel)]; exact g2⟩
    rcases key v hv with rfl | ⟨p1, xs, rfl, np, hp⟩
    · walk_at "go"
      refine g_kfld hx3 Z.clR Z.rHL (by omega) ?_
      exact end2 _ _ (b5.trans (But.upd (by simp))) upd_same
    · walk_at "go"
      refine g_listL (b5 _ _ (by simpa using np) hp) fun D4 H4 hD4 s4 e4 => ?_
      walk_at "go"
      refine g_kfld (s4 _ _ hx3) Z.clR Z.rHL (by omega) ?_
      exact end2 _ _ ((b5.trans (But.of s4)).trans (But.upd (by simp))) upd_same
  walk_at "go"
  rcases key u hu with rfl | ⟨p1, xs, rfl, np, hp⟩
  · walk_at "go"
    refine g_kfld upd_same Z.clR Z.rLL (by omega) ?_
    exact fin _ _ (b4.trans (But.upd (by simp))) upd_same
  · walk_at "go"
    refine g_listL (b4 _ _ (by simpa using np) hp) fun D3 H3 hD3 s3 e3 => ?_
    walk_at "go"
    refine g_kfld (s3 _ _ upd_same) Z.clR Z.rLL (by omega) ?_
    exact fin _ _ ((b4.trans (But.of s3)).trans (But.upd (by simp))) upd_same
abbrev s_pushed_to : Stmt := top 42
abbrev N_pushed_to : List Str := ["plant", "lines", "limits", "flows", "start", "end", "most", "pushed", "found", "knot"]
theorem sc_pushed_to : FnScope N_pushed_to ["plant", "lines", "limits", "flows", "start", "end", "most"] (defScope s_pushed_to) := ⟨rfl, rfl, rfl, by decide +kernel, rfl, by decide +kernel, by decide +kernel⟩
def sp_pushed_to (K : PySem.W.Frag) (z : Ad) : Sp := fun vs H Q _ => ∃ (pa a b c : Addr) (p : Pl) (L : List Ln) (ks : List Str) (lo hi f : Str → Int) (s e : Str) (most : Int), vs = [.ref pa, .ref a, .ref b, .ref c, .str s, .str e, .int most] ∧
  PlAt z.C H pa p ∧ Tups Ln.row H a L ∧ LimAt H b ks lo hi ∧ H c = some (dk ks (fl f)) ∧ b ≠ c ∧ (∀ l ∈ L, l.nm ∈ ks) ∧ (L.map (·.nm)).Nodup ∧ L.length ≤ 30 ∧ ks.length ≤ 30 ∧ bnd L lo hi f ∧ 0 ≤ most ∧
  ∀ H' f' n r v, But [c] H H' → H' c = some (dk ks (fl f')) → 0 ≤ n → n ≤ most → bnd L lo hi f' → (∀ x, x ∉ L.map (·.nm) → f' x = f x) → (∀ k, netL L f' k = netL L f k + ((if e = k then n else 0) - (if s = k then n else 0))) →
    (n = most ∨ NoWay (arcsOf L lo hi f') [s] [e]) → H r = none → H' r = some (.tup [.int n, v]) → LotV H' v → Q (.ref r) H'
theorem ok_pushed_to {P : Program} {w : World} {K : PySem.W.Frag} {mg : Str → Option Value} {base : Heap} {z : Ad} (T : Bi mg) (Z : Cx3 K z.C z.CM z.CR) (D : Df K mg "pushed_to" s_pushed_to ["plant", "lines", "limits", "flows", "start", "end", "most"]) (c_Plant_knots : Prp P w K mg base 1 z.C "knots" (sp_Plant_knots K z)) (c_leading_to : Cal P w K mg base 2 "leading_to" (sp_leading_to K z) []) (c_push_all : Cal P w K mg base 3 "push_all" (sp_push_all K z) []) : Cal P w K mg base 4 "pushed_to" (sp_pushed_to K z) [] := by
  have nd := sc_pushed_to.nd
  refine cal_mk D sc_pushed_to (by walk_at "len") (fun cdv A outer s H vs Q E f hr h => ⟨_, (pss_cons (ps_set (i := 7) nd rfl (.inl rfl) (pe_c c_push_all hr (by decide) (by rfl) (pa_cons (pv 1) (pa_cons (pv 2) (pa_cons (pv 3) (pa_cons (pv 4) (pa_cons (pv 5) (pa_cons (pv 6) pa_nil))))))))
    (pss_cons (ps_if (pt_cmpR op_eq (pv 7) (pv 6) (nomark _))
    (pss_one (ps_ret (pe_tup (pa_cons (pv 7) (pa_cons pe_non pa_nil))))) pss_nil)
    (pss_cons (ps_set (i := 8) nd rfl (.inr rfl) (pe_c c_leading_to hr (by decide) (by rfl) (pa_cons (pv 1) (pa_cons (pv 2) (pa_cons (pv 3) (pa_cons (pe_lst (pa_cons (pv 5) pa_nil)) pa_nil))))))
    (pss_one (ps_ret (pe_tup (pa_cons (pv 7) (pa_cons (pe_lc (own := [("knot", 9)]) rfl nd (pi_list (pe_pr c_Plant_knots hr (by decide) (pv 0) rfl)) (blkOk_by (own := [("knot", 9)]) (N := N_pushed_to) (sc := defScope s_pushed_to) (by decide +kernel)) (fun _ _ _ _ _ => (pg_name (i := 9) nd rfl (.inl rfl))) (fun _ _ _ _ _ => pts_one (pt_cmp (pc_din (hu_of hr) (pv 9) (pv 8)))) (fun _ _ _ _ _ => (pv 9))) pa_nil)))))))), ?_⟩)
  obtain ⟨pa, a, b, c, p, L, ks, lo, hi, f, s, e, most, rfl, hP, hL, hb, hc, nbc, hks, hn, hl, hkl, hbd, hmost, k⟩ := h
  have keep : ∀ {H1 : Hp} {r : Addr} {o : HO}, But [c] H H1 → H1 c = some o → H1 r = none → H r = none := fun {H1 r o'} bt ec hr => by
    cases q : H r with
    | none => rfl
    | some o =>
      by_cases z : r = c
      · rw [z, ec] at hr
        cases hr
      · rw [bt _ _ (by simpa using z) q] at hr; cases hr
  walk_at "go"
  refine ⟨a, b, c, L, ks, lo, hi, f, s, e, most, rfl, hL, hb, hc, nbc, hks, hn, hl, hkl, hbd, hmost, fun H1 f' n bt ec h0 h1 hb' hx hnet hor => ?_⟩
  walk_at "go"
  refine g_ite (fun heq => ?_) (fun hne => ?_)
  · walk_at "go"
    exact g_newT (by simp) fun r H2 hr s2 e2 => k H2 f' n r .non (bt.trans (But.of s2)) (s2 _ _ ec) h0 h1 hb' hx hnet hor (keep bt ec hr) e2 (.inl rfl)
  · walk_at "go"
    refine g_newL (by simp) fun el H2 hel s2 e2 => ?_
    walk_at "go"
    refine ⟨a, b, c, el, L, ks, lo, hi, f', [e], rfl, (tups_but hL hc bt).mono s2, (lim_but hb hc nbc bt).mono s2, s2 _ _ ec, hks, hl, e2, by simp, by simp, fun D H3 ks2 hD s3 e3 => ?_⟩
    walk_at "go"
    have s13 := L2.Same.trans s2 s3
    refine g_pknots rfl ((hP.but hc bt).mono s13) fun kn H4 hkn s4 e4 => ?_
    refine kLc_filt p.kn (fun y => y ∈ ks2) (SqL.of e4) (by have := hP.1.kl; omega) (fun y hy H5 s5 C c1 c2 => ?_) (fun lt H5 hlt s5 el5 => ?_)
    · refine g_name ⟨rfl, ?_⟩
      walk_at "go"
      refine g_kin (.inl (s5 _ _ (s4 _ _ e3))) ?_
      walk_at "go"
      refine g_ite (fun hn => ?_) (fun hn => ?_)
      · walk_at "go"
        exact c1 H5 (Same.refl _) hn
      · exact c2 H5 (Same.refl _) hn
    · walk_at "go"
      have s15 := L2.Same.trans s13 (L2.Same.trans s4 s5)
      exact g_newT (by simp) fun r H6 hr s6 e6 => k H6 f' n r (.ref lt) (bt.trans (But.of (L2.Same.trans s15 s6))) (s6 _ _ (s15 _ _ ec)) h0 h1 hb' hx hnet hor (keep (bt.trans (But.of s15)) (s15 _ _ ec) hr) e6 (.inr ⟨lt, _, rfl, s6 _ _ el5⟩)
/-- what the two pushes show -/
theorem rg_mk {p : Pl} {lo hi f f1 f2 : Str → Int} (ok : p.Ok) {s : Stm} (hs : s ∈ p.ss) (hf : Feas p lo hi f) {n1 n2 : Int}
    (a0 : 0 ≤ n1) (a1 : n1 ≤ f s.nm - lo s.nm) (ab : bnd (p.but s.nm) lo hi f1) (ax : ∀ y, y ∉ (p.but s.nm).map (·.nm) → f1 y = f y) (an : ∀ k, netL (p.but s.nm) f1 k = netL (p.but s.nm) f k + ((if s.hd = k then n1 else 0) - (if s.tl = k then n1 else 0))) (ao : n1 = f s.nm - lo s.nm ∨ NoWay (arcsOf (p.but s.nm) lo hi f1) [s.tl] [s.hd])
    (b0 : 0 ≤ n2) (b1 : n2 ≤ hi s.nm - f s.nm) (bb : bnd (p.but s.nm) lo hi f2) (bx : ∀ y, y ∉ (p.but s.nm).map (·.nm) → f2 y = f y) (bn : ∀ k, netL (p.but s.nm) f2 k = netL (p.but s.nm) f k + ((if s.tl = k then n2 else 0) - (if s.hd = k then n2 else 0))) (bo : n2 = hi s.nm - f s.nm ∨ NoWay (arcsOf (p.but s.nm) lo hi f2) [s.hd] [s.tl]) :
    IsRg p lo hi s.nm (f s.nm - n1) (f s.nm + n2) := by
  have hm : s.nm ∈ p.names := List.mem_map.mpr ⟨s, hs, rfl⟩
  have hfb := hf.1 _ hm
  have q1 : Feas p lo hi (fup f1 s.nm (f s.nm - n1)) := rg_feas ok hs hf ab ax (by omega) (by omega) fun k => by rw [an]; split <;> split <;> omega
  have q2 : Feas p lo hi (fup f2 s.nm (f s.nm + n2)) := rg_feas ok hs hf bb bx (by omega) (by omega) fun k => by rw [bn]; split <;> split <;> omega
  refine ⟨⟨_, q1, by unfold fup; rw [if_pos rfl]⟩, ⟨_, q2, by unfold fup; rw [if_pos rfl]⟩, fun g hg => ⟨?_, ?_⟩⟩
  · rcases ao with z | z
    · have := (hg.1 _ hm).1; omega
    · exact rg_low ok hs hf q1 z hg
  · rcases bo with z | z
    · have := (hg.1 _ hm).2; omega
    · exact rg_high ok hs hf q2 z hg

end Mh
set_option Elab.async false
set_option linter.all false
set_option maxRecDepth 100000
set_option maxHeartbeats 4000000
namespace Mh
open PySem PySem.Spec PyProof.Rows L2
open C8 (Cal Mak Met pe_c pe_mk pe_mt pe_mt0 pe_gc)
local macro_rules
  | `(tactic| walk_at "hp") => `(tactic| first | assumption | (exact upd_same) | (refine (by assumption : Same _ _) _ _ ?_; first | assumption | (refine (by assumption : Same _ _) _ _ ?_; first | assumption | (refine (by assumption : Same _ _) _ _ ?_; assumption))))
local macro_rules
  | `(tactic| walk_at "go") => `(tactic| repeat (first
    | with_reducible refine g_seq ?_
    | with_reducible refine g_asg ?_
    | with_reducible refine g_name ?_
    | with_reducible refine g_ret ?_
    | with_reducible refine g_retN ?_
    | with_reducible refine g_next ?_
    | with_reducible refine g_break ?_
    | with_reducible refine g_drop ?_
    | with_reducible refine g_if ?_
    | ((with_reducible show tVar _ _ _ _); refine g_var rfl ?_)
    | with_reducible refine g_c ?_
    | with_reducible refine g_op ?_
    | with_reducible refine g_un ?_
    | with_reducible refine g_test ?_
    | with_reducible refine g_tB ?_
    | with_reducible refine g_exb ?_
    | with_reducible refine g_exbi ?_
    | with_reducible refine g_and ?_
    | with_reducible refine g_or ?_
    | with_reducible refine g_not ?_
    | with_reducible refine g_tIf ?_
    | with_reducible refine g_andV ?_
    | with_reducible refine g_chain ?_
    | with_reducible refine g_chain3 ?_
    | with_reducible refine g_rI0 ?_
    | with_reducible refine g_rU ?_
    | with_reducible refine g_eqI ?_
    | with_reducible refine g_neI ?_
    | with_reducible refine g_eqS ?_
    | with_reducible refine g_neS ?_
    | with_reducible refine g_isNoR ?_
    | with_reducible refine g_isNoN ?_
    | with_reducible refine g_isNoS ?_
    | with_reducible refine g_notNoR ?_
    | with_reducible refine g_notNoS ?_
    | with_reducible refine g_notNoN ?_
    | with_reducible refine g_nil ?_
    | with_reducible refine g_cons ?_
    | with_reducible refine g_cb ?_
    | with_reducible refine g_call ?_
    | with_reducible refine g_tup ?_
    | with_reducible refine g_lst ?_
    | with_reducible refine g_dget ?_
    | with_reducible refine g_din ?_
    | with_reducible refine g_dnin ?_
    | with_reducible refine g_dput ?_
    | with_reducible refine g_daug ?_
    | with_reducible refine g_rAdd ?_
    | with_reducible refine g_rSub ?_
    | with_reducible refine g_tcons ?_
    | with_reducible refine g_tnil ?_
    | with_reducible refine g_forL ?_
    | with_reducible refine g_lc ?_
    | with_reducible refine g_dc ?_
    | with_reducible refine g_yes ?_
    | with_reducible refine g_ipI ?_
    | ((with_reducible show tAug _ _ _ _ _ _); refine g_aug rfl ?_)
    | with_reducible refine g_revL ?_
    | with_reducible refine g_sfld ?_
    | with_reducible refine g_abs ?_
    | with_reducible refine g_maxI ?_
    | with_reducible refine g_minI ?_
    | with_reducible refine g_int1 ?_
    | ((with_reducible refine g_modP ?_ ?_); (focus decide))
    | ((with_reducible refine g_fdivP ?_ ?_ ?_); (focus decide); (focus decide))
    | ((with_reducible refine g_mulL ?_ ?_ ?_); (focus decide); (focus decide))
    | ((with_reducible refine g_mulR ?_ ?_ ?_); (focus decide); (focus decide))
    | with_reducible refine g_forR ?_
    | with_reducible refine g_slice ?_
    | with_reducible refine g_nopart ?_
    | with_reducible refine g_part ?_
    | with_reducible refine g_partI ?_
    | with_reducible refine g_intB ?_
    | with_reducible refine g_nT ?_
    | with_reducible refine g_nF ?_
    | with_reducible refine g_T ?_
    | with_reducible refine g_F ?_))
local macro_rules
  | `(tactic| walk_at "len") => `(tactic| (intro vs H Q E h; first | (obtain ⟨e, _⟩ := h; rw [e]; rfl) | (obtain ⟨_, e, _⟩ := h; rw [e]; rfl) | (obtain ⟨_, _, e, _⟩ := h; rw [e]; rfl) | (obtain ⟨_, _, _, e, _⟩ := h; rw [e]; rfl) | (obtain ⟨_, _, _, _, e, _⟩ := h; rw [e]; rfl) | (obtain ⟨_, _, _, _, _, e, _⟩ := h; rw [e]; rfl) | (obtain ⟨_, _, _, _, _, _, e, _⟩ := h; rw [e]; rfl) | (obtain ⟨_, _, _, _, _, _, _, e, _⟩ := h; rw [e]; rfl) | (obtain ⟨_, _, _, _, _, _, _, _, e, _⟩ := h; rw [e]; rfl) | (obtain ⟨_, _, _, _, _, _, _, _, _, e, _⟩ := h; rw [e]; rfl) | (obtain ⟨_, _, _, _, _, _, _, _, _, _, e, _⟩ := h; rw [e]; rfl) | (obtain ⟨_, _, _, _, _, _, _, _, _, _, _, e, _⟩ := h; rw [e]; rfl) | (obtain ⟨_, _, _, _, _, _, _, _, _, _, _, _, e, _⟩ := h; rw [e]; rfl) | (obtain ⟨_, _, _, _, _, _, _, _, _, _, _, _, _, e, _⟩ := h; rw [e]; rfl) | (obtain ⟨_, _, _, _, _, _, _, _, _, _, _, _, _, _, e, _⟩ := h; rw [e]; rfl) | (obtain ⟨_, _, _, _, _, _, _, _, _, _, _, _, _, _, _, e, _⟩ := h; rw [e]; rfl)))
local macro_rules
  | `(tactic| walk_at "nf") => `(tactic| try simp only [L2.start, List.map_cons, List.map_nil, List.length_cons, List.length_nil, List.drop_succ_cons, List.drop_zero, List.replicate_succ, List.replicate_zero, List.cons_append, List.nil_append, List.set_cons_succ, List.set_cons_zero, Nat.reduceAdd, Nat.reduceSub])
theorem fl_fup (f : Str → Int) (n : Str) (v : Int) : fup (fl f) n (.int v) = fl (fup f n v) := by
  funext k
  unfold fl
  show (if k = n then V.int v else V.int (f k)) = V.int (if k = n then v else f k)
  split <;> rfl
theorem fup_at {α : Type} (f : Str → α) (n : Str) (v : α) : fup f n v n = v := by unfold fup; rw [if_pos rfl]
section
variable {K : PySem.W.Frag} {σ : L2.St} {H : Hp} {Q : VK} {tk tv : TE} {tt : TT} {g : TG} {vs : List Nat} {i : Nat}
theorem g_dcItems {H0 : Hp} {d : Addr} {ks : List Str} {val0 : Str → V} (hv : σ[i]? = some (some (.ref d))) (h : H d = some (dk ks val0)) (s0 : Same H0 H) (hd : H0 d = none) (hz : ks.length ≤ 900) (hn : ks.Nodup) (c : Str → Bool) (val : Str → V)
    (step : ∀ y ∈ ks, ∀ r H1, Same H0 H1 → (∀ b o, b ≠ d → H b = some o → H1 b = some o) → H1 r = some (.tup [.str y, val0 y]) → ∀ C : Option (V × V) → Hp → Prop, (∀ H2, Same H1 H2 → c y = true → C (some (.str y, val y)) H2) → (∀ H2, Same H1 H2 → c y = false → C none H2) → It2 g tt tk tv (wipe σ vs) vs (.ref r) H1 C)
    (k : ∀ D H1, H0 D = none → Same H0 H1 → H1 D = some (dk (ks.filter c) val) → Q (.ref D) H1) : tDc (iItems (tFrz (tVar i))) g tt tk tv vs σ H Q := by
  refine ⟨_, hv, d, _, rfl, h, True.intro, fun od => ⟨d, od, _, rfl, upd_same, ?_⟩⟩
  have s1 : Same H0 (upd H d (.frz od (dk ks val0))) := sm_chg s0 hd
  refine dcJ (wk_items upd_same) hz id (by rw [List.map_id]; exact hn) c val (fun y hy x H1 s it C c1 c2 => ?_) (fun D H1 hD s e => ?_)
  · obtain ⟨r, rfl, er⟩ := it
    exact step y hy r H1 (L2.Same.trans s1 s) (fun b o hb q => s b o (by rw [upd_ne hb]; exact q)) er C c1 c2
  · rw [List.map_id] at e
    exact k D H1 (fresh_of s1 hD) (L2.Same.trans s1 s) e
end
abbrev s_range_within : Stmt := top 43
abbrev N_range_within : List Str := ["plant", "limits", "name", "flows", "low_flows", "high_flows", "others", "_", "tail", "head", "low", "high", "less", "low_lot", "more", "high_lot", "line"]
theorem sc_range_within : FnScope N_range_within ["plant", "limits", "name"] (defScope s_range_within) := ⟨rfl, rfl, rfl, by decide +kernel, rfl, by decide +kernel, by decide +kernel⟩
def sp_range_within (K : PySem.W.Frag) (z : Ad) : Sp := fun vs H Q _ => ∃ (a b : Addr) (p : Pl) (lo hi : Str → Int) (s : Stm), vs = [.ref a, .ref b, .str s.nm] ∧ PlAt z.C H a p ∧ LimAt H b p.names lo hi ∧ s ∈ p.ss ∧
  (∀ H', Same H H' → (∀ g, ¬ Feas p lo hi g) → Q .non H') ∧ ∀ x H' l h, H x = none → Same H H' → RgAt z.CR H' x l h → (∃ f, Feas p lo hi f) → IsRg p lo hi s.nm l h → Q (.ref x) H'
theorem ok_range_within {P : Program} {w : World} {K : PySem.W.Frag} {mg : Str → Option Value} {base : Heap} {z : Ad} (T : Bi mg) (Z : Cx3 K z.C z.CM z.CR) (D : Df K mg "range_within" s_range_within ["plant", "limits", "name"]) (c_Plant_stream_named : Met P w K mg base 1 z.C "stream_named" (sp_Plant_stream_named K z) []) (c_Range : Mak P w K mg base 1 "Range" z.CR (sp_Range___init__ K z) []) (c_flows_within : Cal P w K mg base 7 "flows_within" (sp_flows_within K z) []) (c_lines_of : Cal P w K mg base 3 "lines_of" (sp_lines_of K z) []) (c_pushed_to : Cal P w K mg base 4 "pushed_to" (sp_pushed_to K z) []) : Cal P w K mg base 8 "range_within" (sp_range_within K z) [] := by
  have nd := sc_range_within.nd
  refine cal_mk D sc_range_within (by walk_at "len") (fun cdv A outer s H vs Q E f hr h => ⟨_, (pss_cons (ps_asg (pe_mt c_Plant_stream_named hr (by decide) (pv 0) (pa_cons (pv 2) pa_nil)) (pg_tupK (K := K) (n := 5) rfl rfl (pgs_cons (pg_name (i := 7) nd rfl (.inl rfl)) (pgs_cons (pg_name (i := 8) nd rfl (.inl rfl)) (pgs_cons (pg_name (i := 9) nd rfl (.inl rfl)) (pgs_cons (pg_name (i := 7) nd rfl (.inl rfl)) (pgs_cons (pg_name (i := 7) nd rfl (.inl rfl)) pgs_nil)))))))
    (pss_cons (ps_set (i := 3) nd rfl (.inl rfl) (pe_c c_flows_within hr (by decide) (by rfl) (pa_cons (pv 0) (pa_cons (pv 1) pa_nil))))
    (pss_cons (ps_if (pt_cmpR op_isNo (pv 3) pe_non (nomark _))
    (pss_one (ps_ret pe_non)) pss_nil)
    (pss_cons (ps_asg (pe_dget (hu_of hr) (pv 1) (pv 2) (fun _ _ => rfl)) (pg_tupK (K := K) (n := 2) rfl rfl (pgs_cons (pg_name (i := 10) nd rfl (.inl rfl)) (pgs_cons (pg_name (i := 11) nd rfl (.inl rfl)) pgs_nil))))
    (pss_cons (ps_set (i := 4) nd rfl (.inl rfl) (pe_callTy cr_dictDk (by rfl) T.b_dict (by decide +kernel) (pa_cons (pv 3) pa_nil)))
    (pss_cons (ps_set (i := 5) nd rfl (.inl rfl) (pe_callTy cr_dictDk (by rfl) T.b_dict (by decide +kernel) (pa_cons (pv 3) pa_nil)))
    (pss_cons (ps_if (pt_cmpR op_eq (pv 8) (pv 9) (nomark _))
    (pss_cons (ps_dput (hu_of hr) (pv 4) (pv 2) (pv 10) rfl)
    (pss_cons (ps_dput (hu_of hr) (pv 5) (pv 2) (pv 11) rfl)
    (pss_one (ps_ret (pe_mk c_Range hr (by decide) (by rfl) (pa_cons (pv 10) (pa_cons (pv 11) (pa_cons (pv 4) (pa_cons (pv 5) (pa_cons pe_non (pa_cons pe_non pa_nil))))))))))) pss_nil)
    (pss_cons (ps_setLc (i := 6) (own := [("line", 16)]) rfl nd rfl rfl (sw_true rfl rfl rfl (by decide +kernel)) (pi_list (pe_c c_lines_of hr (by decide) (by rfl) (pa_cons (pv 0) pa_nil))) (blkOk_by (own := [("line", 16)]) (N := N_range_within) (sc := defScope s_range_within) (by decide +kernel)) (fun _ _ _ _ _ => (pg_name (i := 16) nd rfl (.inl rfl))) (fun _ _ _ _ _ => pts_one (pt_cmpR op_ne (pe_ix (ix_tupK (K := K) rfl) (pv 16) pe_int (fun _ _ => rfl)) (pv 2) (nomark _))) (fun _ _ _ _ _ => (pv 16)))
    (pss_cons (ps_asg (pe_c c_pushed_to hr (by decide) (by rfl) (pa_cons (pv 0) (pa_cons (pv 6) (pa_cons (pv 1) (pa_cons (pv 4) (pa_cons (pv 8) (pa_cons (pv 9) (pa_cons (pe_op op_sub (pe_dget (hu_of hr) (pv 3) (pv 2) (fun _ _ => rfl)) (pv 10)) pa_nil)))))))) (pg_tupK (K := K) (n := 2) rfl rfl (pgs_cons (pg_name (i := 12) nd rfl (.inl rfl)) (pgs_cons (pg_name (i := 13) nd rfl (.inl rfl)) pgs_nil))))
    (pss_cons (ps_asg (pe_c c_pushed_to hr (by decide) (by rfl) (pa_cons (pv 0) (pa_cons (pv 6) (pa_cons (pv 1) (pa_cons (pv 5) (pa_cons (pv 9) (pa_cons (pv 8) (pa_cons (pe_op op_sub (pv 11) (pe_dget (hu_of hr) (pv 3) (pv 2) (fun _ _ => rfl))) pa_nil)))))))) (pg_tupK (K := K) (n := 2) rfl rfl (pgs_cons (pg_name (i := 14) nd rfl (.inl rfl)) (pgs_cons (pg_name (i := 15) nd rfl (.inl rfl)) pgs_nil))))
    (pss_cons (ps_daug (hu_of hr) (pv 4) (pv 2) (pv 12) in_sub (fun _ _ _ => rfl))
    (pss_cons (ps_daug (hu_of hr) (pv 5) (pv 2) (pv 14) in_add (fun _ _ _ => rfl))
    (pss_one (ps_ret (pe_mk c_Range hr (by decide) (by rfl) (pa_cons (pe_dget (hu_of hr) (pv 4) (pv 2) (fun _ _ => rfl)) (pa_cons (pe_dget (hu_of hr) (pv 5) (pv 2) (fun _ _ => rfl)) (pa_cons (pv 4) (pa_cons (pv 5) (pa_cons (pv 13) (pa_cons (pv 15) pa_nil))))))))))))))))))))), ?_⟩)
  obtain ⟨a, b, p, lo, hi, st, rfl, hP, hb, hst, k1, k2⟩ := h
  have ok := hP.1
  have hm : st.nm ∈ p.names := List.mem_map.mpr ⟨st, hst, rfl⟩
  have hlen : p.names.length ≤ 30 := by unfold Pl.names; rw [List.length_map]; exact ok.sl
  walk_at "go"
  refine g_pnamed rfl rfl hP hst fun r0 er0 => ?_
  refine g_stm er0 ?_
  walk_at "go"
  refine ⟨a, b, p, lo, hi, rfl, hP, hb, fun H1 s1 hno => ?_, fun fd H1 f hfd s1 ef hf => ?_⟩
  · walk_at "go"
    exact k1 H1 s1 hno
  walk_at "go"
  obtain ⟨rr, hb1, hbt1⟩ := hb.mono s1
  have hfb := hf.1 _ hm
  walk_at "nf"
  refine g_kgetR (.inl hb1) hm ?_
  refine g_two (hbt1 _ hm) ?_
  walk_at "go"
  refine g_dictD (.inl ef) fun D1 H2 hD1 s2 e1 => ?_
  walk_at "go"
  refine g_dictD (.inl (s2 _ _ ef)) fun D2 H3 hD2 s3 e2 => ?_
  walk_at "go"
  have s03 := L2.Same.trans s1 (L2.Same.trans s2 s3)
  have e1' := s3 _ _ e1
  have n12 : D1 ≠ D2 := ne_of_none e1 hD2
  have hD10 : H D1 = none := fresh_of s1 hD1
  have hD20 : H D2 = none := fresh_of s1 (fresh_of s2 hD2)
  have nf1 : fd ≠ D1 := ne_of_none ef hD1
  have nf2 : fd ≠ D2 := ne_of_none (s2 _ _ ef) hD2
  have nb1 : b ≠ D1 := ne_of_none hb1 hD1
  have nb2 : b ≠ D2 := ne_of_none (s2 _ _ hb1) hD2
  have ef3 : H3 fd = some (dk p.names (fl f)) := s3 _ _ (s2 _ _ ef)
  refine g_ite (fun heq => ?_) (fun hne => ?_)
  · walk_at "go"
    refine g_kput e1' (by omega) ?_
    rw [ins_old hm]
    walk_at "go"
    refine g_kput (by rw [upd_ne n12.symm]; exact e2) (by omega) ?_
    rw [ins_old hm]
    walk_at "go"
    refine g_mk ?_
    walk_at "go"
    refine fun x dx hx hdx hne => ?_
    have sm := mk_same (C := z.CR) hx hdx
    have s04 := sm_chg (o := dk p.names (fup (fl f) st.nm (.int (hi st.nm)))) (sm_chg (o := dk p.names (fup (fl f) st.nm (.int (lo st.nm)))) s03 hD10) hD20
    refine ⟨x, dx, D1, D2, lo st.nm, hi st.nm, .non, .non, _, _, _, _, rfl, upd_same, sm _ _ (by rw [upd_ne n12, upd_same]), sm _ _ upd_same, .inl rfl, .inl rfl, fun H5 bt hr => ⟨rfl, ?_⟩⟩
    exact k2 x H5 _ _ (fresh_of s04 hx) (L2.Same.trans s04 (mk_after hx hdx fun b o nb e => bt b o (by simpa using nb) e)) hr ⟨f, hf⟩ (rg_loop ok hst heq hf)
  · walk_at "nf"
    walk_at "go"
    refine ⟨a, p, rfl, hP.mono s03, fun LA H4 hLA s4 ⟨L, hL, eL, hT⟩ => ?_⟩
    rw [rf_fst] at eL
    have hLl : L.length ≤ 30 := by
      have h1 := lines_len p.ss
      have h2 := ok.sl
      rw [Pl.lines_eq] at hL
      rw [← hL, List.length_map] at h1
      omega
    refine kLc_tups L fst (fun q => !decide (q.2.nm = st.nm)) (fun q => q.2) Ln.row (SqL.of eL) (by omega) (fun q hq H5 s5 C c1 c2 => ?_) (fun OT H5 hOT s5 tO => ?_)
    · refine g_name ⟨rfl, ?_⟩
      walk_at "go"
      refine g_ixT (s5 _ _ (hT q hq)) rfl ?_
      walk_at "go"
      refine g_iteN (fun hn => ?_) (fun hn => ?_)
      · walk_at "go"
        exact c2 q.1 H5 (Same.refl _) (by simpa using hn) (s5 _ _ (hT q hq))
      · exact c1 H5 (Same.refl _) (by simpa using hn)
    have hbut : (L.filter fun q => !decide (q.2.nm = st.nm)).map (·.2) = p.but st.nm := by
      unfold Pl.but
      rw [← hL, List.filter_map]
      congr 1
      refine List.filter_congr fun q _ => ?_
      show _ = decide (q.2.nm ≠ st.nm)
      rw [decide_not]
    rw [hbut] at tO
    have s35 := L2.Same.trans s4 s5
    have s05 := L2.Same.trans s03 s35
    have hbl : (p.but st.nm).length ≤ 30 := by
      have h1 := lines_len p.ss
      have h2 := ok.sl
      have h3 : (p.but st.nm).length ≤ p.lines.length := List.length_filter_le _ _
      rw [Pl.lines_eq] at h3
      omega
    have hbm : ∀ l ∈ p.but st.nm, l.nm ∈ p.names := fun l hl => ln_names (but_mem hl).1
    have hbb : bnd (p.but st.nm) lo hi f := fun l hl => hf.1 _ (hbm l hl)
    have hnot : st.nm ∉ (p.but st.nm).map (·.nm) := fun z => by
      obtain ⟨l, hl, e⟩ := List.mem_map.mp z
      exact (but_mem hl).2 e
    walk_at "go"
    refine g_kgetI (.inl (s35 _ _ ef3)) hm ?_
    walk_at "go"
    refine ⟨a, OT, b, D1, p, p.but st.nm, p.names, lo, hi, f, st.tl, st.hd, f st.nm - lo st.nm, rfl, hP.mono s05, tO, hb.mono s05, s35 _ _ e1', nb1, hbm, but_nd ok _, hbl, hlen, hbb, by omega, fun H6 f1 n1 r1 v1 bt1 ed1 a0 a1 ab ax an ao hr1 er1 lv1 => ?_⟩
    walk_at "nf"
    refine g_two er1 ?_
    walk_at "go"
    walk_at "nf"
    have s06 : Same H H6 := bt1.same s05 (by intro x hx; rw [List.mem_singleton.mp hx]; exact hD10)
    have ef6 : H6 fd = some (dk p.names (fl f)) := bt1 _ _ (by simpa using nf1) (s35 _ _ ef3)
    have ed2 : H6 D2 = some (dk p.names (fl f)) := bt1 _ _ (by simpa using n12.symm) (s35 _ _ e2)
    refine g_kgetI (.inl ef6) hm ?_
    walk_at "go"
    refine ⟨a, OT, b, D2, p, p.but st.nm, p.names, lo, hi, f, st.hd, st.tl, hi st.nm - f st.nm, rfl, hP.mono s06, tups_but tO (s35 _ _ e1') bt1, hb.mono s06, ed2, nb2, hbm, but_nd ok _, hbl, hlen, hbb, by omega, fun H7 f2 n2 r2 v2 bt2 ed3 b0 b1 bb bx bn bo hr2 er2 lv2 => ?_⟩
    refine g_two er2 ?_
    walk_at "nf"
    walk_at "go"
    have s07 : Same H H7 := bt2.same s06 (by intro x hx; rw [List.mem_singleton.mp hx]; exact hD20)
    have ed17 : H7 D1 = some (dk p.names (fl f1)) := bt2 _ _ (by simpa using n12) ed1
    refine g_kget2 (.inl ed17) hm ?_
    walk_at "go"
    show rSub (.int (f1 st.nm)) (.int n1) _ _
    refine g_rSub ?_
    refine g_kput2 ed17 (by omega) ?_
    rw [ins_old hm, fl_fup]
    walk_at "go"
    refine g_kget2 (.inl (by rw [upd_ne n12.symm]; exact ed3)) hm ?_
    walk_at "go"
    show rAdd (.int (f2 st.nm)) (.int n2) _ _
    refine g_rAdd ?_
    refine g_kput2 (by rw [upd_ne n12.symm]; exact ed3) (by omega) ?_
    rw [ins_old hm, fl_fup]
    have s08 := sm_chg (o := dk p.names (fl (fup f2 st.nm (f2 st.nm + n2)))) (sm_chg (o := dk p.names (fl (fup f1 st.nm (f1 st.nm - n1)))) s07 hD10) hD20
    have bl1 : LotV (upd (upd H7 D1 (dk p.names (fl (fup f1 st.nm (f1 st.nm - n1))))) D2 (dk p.names (fl (fup f2 st.nm (f2 st.nm + n2))))) v1 :=
      ((lv1.but ed2 bt2).but ed17 (But.upd (by simp))).but (by rw [upd_ne n12.symm]; exact ed3) (But.upd (by simp))
    have bl2 : LotV (upd (upd H7 D1 (dk p.names (fl (fup f1 st.nm (f1 st.nm - n1))))) D2 (dk p.names (fl (fup f2 st.nm (f2 st.nm + n2))))) v2 :=
      (lv2.but ed17 (But.upd (by simp))).but (by rw [upd_ne n12.symm]; exact ed3) (But.upd (by simp))
    have ee1 : (upd (upd H7 D1 (dk p.names (fl (fup f1 st.nm (f1 st.nm - n1))))) D2 (dk p.names (fl (fup f2 st.nm (f2 st.nm + n2))))) D1 = some (dk p.names (fl (fup f1 st.nm (f1 st.nm - n1)))) := by rw [upd_ne n12, upd_same]
    have ee2 : (upd (upd H7 D1 (dk p.names (fl (fup f1 st.nm (f1 st.nm - n1))))) D2 (dk p.names (fl (fup f2 st.nm (f2 st.nm + n2))))) D2 = some (dk p.names (fl (fup f2 st.nm (f2 st.nm + n2)))) := upd_same
    generalize upd (upd H7 D1 (dk p.names (fl (fup f1 st.nm (f1 st.nm - n1))))) D2 (dk p.names (fl (fup f2 st.nm (f2 st.nm + n2)))) = H8 at *
    walk_at "go"
    refine g_mk ?_
    walk_at "go"
    refine g_kgetI (.inl ee1) hm ?_
    walk_at "go"
    refine g_kgetI (.inl ee2) hm ?_
    walk_at "go"
    rw [fup_at, fup_at, ax _ hnot, bx _ hnot] at *
    refine fun x dx hx hdx hne => ?_
    have sm := mk_same (C := z.CR) hx hdx
    refine ⟨x, dx, D1, D2, _, _, v1, v2, _, _, _, _, rfl, upd_same, sm _ _ ee1, sm _ _ ee2, bl1.mono sm, bl2.mono sm, fun H9 bt hr => ⟨rfl, ?_⟩⟩
    exact k2 x H9 _ _ (fresh_of s08 hx) (L2.Same.trans s08 (mk_after hx hdx fun b o nb e => bt b o (by simpa using nb) e)) hr ⟨f, hf⟩ (rg_mk ok hst hf a0 a1 ab ax an ao b0 b1 bb bx bn bo)

end Mh
set_option Elab.async false
set_option linter.all false
set_option maxRecDepth 100000
set_option maxHeartbeats 4000000
namespace Mh
open PySem PySem.Spec PyProof.Rows L2
open C8 (Cal Mak Met pe_c pe_mk pe_mt pe_mt0 pe_gc)
local macro_rules
  | `(tactic| walk_at "hp") => `(tactic| first | assumption | (exact upd_same) | (refine (by assumption : Same _ _) _ _ ?_; first | assumption | (refine (by assumption : Same _ _) _ _ ?_; first | assumption | (refine (by assumption : Same _ _) _ _ ?_; assumption))))
local macro_rules
  | `(tactic| walk_at "go") => `(tactic| repeat (first
    | with_reducible refine g_seq ?_
    | with_reducible refine g_asg ?_
    | with_reducible refine g_name ?_
    | with_reducible refine g_ret ?_
    | with_reducible refine g_retN ?_
    | with_reducible refine g_next ?_
    | with_reducible refine g_break ?_
    | with_reducible refine g_drop ?_
    | with_reducible refine g_if ?_
    | ((with_reducible show tVar _ _ _ _); refine g_var rfl ?_)
    | with_reducible refine g_c ?_
    | with_reducible refine g_op ?_
    | with_reducible refine g_un ?_
    | with_reducible refine g_test ?_
    | with_reducible refine g_tB ?_
    | with_reducible refine g_exb ?_
    | with_reducible refine g_exbi ?_
    | with_reducible refine g_and ?_
    | with_reducible refine g_or ?_
    | with_reducible refine g_not ?_
    | with_reducible refine g_tIf ?_
    | with_reducible refine g_andV ?_
    | with_reducible refine g_chain ?_
    | with_reducible refine g_chain3 ?_
    | with_reducible refine g_rI0 ?_
    | with_reducible refine g_rU ?_
    | with_reducible refine g_eqI ?_
    | with_reducible refine g_neI ?_
    | with_reducible refine g_eqS ?_
    | with_reducible refine g_neS ?_
    | with_reducible refine g_isNoR ?_
    | with_reducible refine g_isNoN ?_
    | with_reducible refine g_isNoS ?_
    | with_reducible refine g_notNoR ?_
    | with_reducible refine g_notNoS ?_
    | with_reducible refine g_notNoN ?_
    | with_reducible refine g_nil ?_
    | with_reducible refine g_cons ?_
    | with_reducible refine g_cb ?_
    | with_reducible refine g_call ?_
    | with_reducible refine g_tup ?_
    | with_reducible refine g_lst ?_
    | with_reducible refine g_dget ?_
    | with_reducible refine g_din ?_
    | with_reducible refine g_dnin ?_
    | with_reducible refine g_dput ?_
    | with_reducible refine g_daug ?_
    | with_reducible refine g_rAdd ?_
    | with_reducible refine g_rSub ?_
    | with_reducible refine g_tcons ?_
    | with_reducible refine g_tnil ?_
    | with_reducible refine g_forL ?_
    | with_reducible refine g_lc ?_
    | with_reducible refine g_dc ?_
    | with_reducible refine g_yes ?_
    | with_reducible refine g_ipI ?_
    | ((with_reducible show tAug _ _ _ _ _ _); refine g_aug rfl ?_)
    | with_reducible refine g_revL ?_
    | with_reducible refine g_sfld ?_
    | with_reducible refine g_abs ?_
    | with_reducible refine g_maxI ?_
    | with_reducible refine g_minI ?_
    | with_reducible refine g_int1 ?_
    | ((with_reducible refine g_modP ?_ ?_); (focus decide))
    | ((with_reducible refine g_fdivP ?_ ?_ ?_); (focus decide); (focus decide))
    | ((with_reducible refine g_mulL ?_ ?_ ?_); (focus decide); (focus decide))
    | ((with_reducible refine g_mulR ?_ ?_ ?_); (focus decide); (focus decide))
    | with_reducible refine g_forR ?_
    | with_reducible refine g_slice ?_
    | with_reducible refine g_nopart ?_
    | with_reducible refine g_part ?_
    | with_reducible refine g_partI ?_
    | with_reducible refine g_intB ?_
    | with_reducible refine g_nT ?_
    | with_reducible refine g_nF ?_
    | with_reducible refine g_T ?_
    | with_reducible refine g_F ?_))
local macro_rules
  | `(tactic| walk_at "len") => `(tactic| (intro vs H Q E h; first | (obtain ⟨e, _⟩ := h; rw [e]; rfl) | (obtain ⟨_, e, _⟩ := h; rw [e]; rfl) | (obtain ⟨_, _, e, _⟩ := h; rw [e]; rfl) | (obtain ⟨_, _, _, e, _⟩ := h; rw [e]; rfl) | (obtain ⟨_, _, _, _, e, _⟩ := h; rw [e]; rfl) | (obtain ⟨_, _, _, _, _, e, _⟩ := h; rw [e]; rfl) | (obtain ⟨_, _, _, _, _, _, e, _⟩ := h; rw [e]; rfl) | (obtain ⟨_, _, _, _, _, _, _, e, _⟩ := h; rw [e]; rfl) | (obtain ⟨_, _, _, _, _, _, _, _, e, _⟩ := h; rw [e]; rfl) | (obtain ⟨_, _, _, _, _, _, _, _, _, e, _⟩ := h; rw [e]; rfl) | (obtain ⟨_, _, _, _, _, _, _, _, _, _, e, _⟩ := h; rw [e]; rfl) | (obtain ⟨_, _, _, _, _, _, _, _, _, _, _, e, _⟩ := h; rw [e]; rfl) | (obtain ⟨_, _, _, _, _, _, _, _, _, _, _, _, e, _⟩ := h; rw [e]; rfl) | (obtain ⟨_, _, _, _, _, _, _, _, _, _, _, _, _, e, _⟩ := h; rw [e]; rfl) | (obtain ⟨_, _, _, _, _, _, _, _, _, _, _, _, _, _, e, _⟩ := h; rw [e]; rfl) | (obtain ⟨_, _, _, _, _, _, _, _, _, _, _, _, _, _, _, e, _⟩ := h; rw [e]; rfl)))
local macro_rules
  | `(tactic| walk_at "nf") => `(tactic| try simp only [L2.start, List.map_cons, List.map_nil, List.length_cons, List.length_nil, List.drop_succ_cons, List.drop_zero, List.replicate_succ, List.replicate_zero, List.cons_append, List.nil_append, List.set_cons_succ, List.set_cons_zero, Nat.reduceAdd, Nat.reduceSub])
section
variable {K : PySem.W.Frag} {σ : L2.St} {H : Hp} {Q : VK} {te : TE} {tt : TT} {g : TG} {vs : List Nat} {a : Addr}
/-- [y for y in xs if ..], what is taken has P -/
theorem kLc_some (L : List Str) (P : Str → Prop) (h : SqL K H a (L.map V.str)) (hz : L.length ≤ 900)
    (step : ∀ y ∈ L, ∀ H1, Same H H1 → ∀ C : Option V → Hp → Prop, (∀ H2, Same H1 H2 → P y → C (some (.str y)) H2) → (∀ H2, Same H1 H2 → C none H2) → It1 g tt te (wipe σ vs) vs (.str y) H1 C)
    (k : ∀ D H1 ys, H D = none → Same H H1 → H1 D = some (ls ys) → (∀ y ∈ ys, y ∈ L ∧ P y) → ys.length ≤ L.length → Q (.ref D) H1) : kLc K g tt te vs σ (.ref a) H Q := by
  refine kLc_run L V.str h hz (fun y o _ => o = none ∨ (o = some (.str y) ∧ P y)) (fun _ _ _ _ _ z => z) (fun y hy H1 s1 C q => step y hy H1 s1 C (fun H2 s2 p => q _ H2 s2 (.inr ⟨rfl, p⟩)) fun H2 s2 => q _ H2 s2 (.inl rfl)) (fun D H1 os hD s1 hp e => ?_)
  have eo : ∀ {l : List Str} {os : List (Option V)}, Paired (fun y o => o = none ∨ (o = some (V.str y) ∧ P y)) l os → ∃ ys : List Str, os.filterMap id = ys.map V.str ∧ (∀ y ∈ ys, y ∈ l ∧ P y) ∧ ys.length ≤ l.length := by
    intro l os hp
    induction hp with
    | nil => exact ⟨[], rfl, (fun _ z => by cases z), Nat.le_refl _⟩
    | @cons y o l os r t ih =>
      obtain ⟨ys, h1, h2, h3⟩ := ih
      rcases r with rfl | ⟨rfl, r⟩
      · exact ⟨ys, by rw [List.filterMap_cons]; exact h1, fun y hy => ⟨List.mem_cons_of_mem _ (h2 y hy).1, (h2 y hy).2⟩, by rw [List.length_cons]; omega⟩
      · refine ⟨y :: ys, by rw [List.filterMap_cons, List.map_cons, ← h1]; rfl, fun z hz => ?_, by rw [List.length_cons, List.length_cons]; omega⟩
        rcases List.mem_cons.mp hz with q | q
        · subst q; exact ⟨List.mem_cons_self, r⟩
        · exact ⟨List.mem_cons_of_mem _ (h2 z q).1, (h2 z q).2⟩
  obtain ⟨ys, h1, h2, h3⟩ := eo hp
  exact k D H1 ys hD s1 (by rw [e, h1]; rfl) h2 h3
end
section
variable {p : Pl} {R : Rdg} {n m : Str}
theorem Rdg.lo_ge : p.low m ≤ R.lo p m := by unfold Rdg.lo; split <;> (try split) <;> omega
theorem Rdg.hi_le : R.hi p m ≤ p.high m := by unfold Rdg.hi; split <;> (try split) <;> omega
theorem Rdg.mem_wo : m ∈ (R.wo n).ks ↔ m ∈ R.ks ∧ m ≠ n := by
  unfold Rdg.wo
  rw [List.mem_filter]
  simp
theorem Rdg.wo_ok (h : R.Ok p) : (R.wo n).Ok p := ⟨List.Nodup.sublist List.filter_sublist h.nd, fun m hm => h.sub m (Rdg.mem_wo.mp hm).1, fun m hm => h.rng m (Rdg.mem_wo.mp hm).1⟩
theorem wo_lo (h : m ≠ n) : (R.wo n).lo p m = R.lo p m := by
  unfold Rdg.lo
  by_cases z : m ∈ R.ks
  · rw [if_pos z, if_pos (Rdg.mem_wo.mpr ⟨z, h⟩)]; rfl
  · rw [if_neg z, if_neg fun q => z (Rdg.mem_wo.mp q).1]
theorem wo_hi (h : m ≠ n) : (R.wo n).hi p m = R.hi p m := by
  unfold Rdg.hi
  by_cases z : m ∈ R.ks
  · rw [if_pos z, if_pos (Rdg.mem_wo.mpr ⟨z, h⟩)]; rfl
  · rw [if_neg z, if_neg fun q => z (Rdg.mem_wo.mp q).1]
theorem wo_lo_self : (R.wo n).lo p n = p.low n := by unfold Rdg.lo; exact if_neg fun q => (Rdg.mem_wo.mp q).2 rfl
theorem wo_hi_self : (R.wo n).hi p n = p.high n := by unfold Rdg.hi; exact if_neg fun q => (Rdg.mem_wo.mp q).2 rfl
theorem feas_sub {lo hi lo' hi' f : Str → Int} (h : ∀ m ∈ p.names, lo' m ≤ lo m ∧ hi m ≤ hi' m) (hf : Feas p lo hi f) : Feas p lo' hi' f :=
  ⟨fun m hm => by have := h m hm; have := hf.1 m hm; omega, hf.2⟩
theorem agr_wo {f : Str → Int} (h : Agr p R f) : Agr p (R.wo n) f := feas_sub (fun m _ => by
  by_cases z : m = n
  · subst z
    rw [wo_lo_self, wo_hi_self]
    exact ⟨Rdg.lo_ge, Rdg.hi_le⟩
  · rw [wo_lo z, wo_hi z]
    exact ⟨Int.le_refl _, Int.le_refl _⟩) h
/-- flows that agree without the reading, and lie within it -/
theorem agr_add {f : Str → Int} (h : Agr p (R.wo n) f) (h1 : R.nu n - R.to n ≤ f n) (h2 : f n ≤ R.nu n + R.to n) : Agr p R f := ⟨fun m hm => by
  have q := h.1 m hm
  by_cases z : m = n
  · subst z
    rw [wo_lo_self, wo_hi_self] at q
    unfold Rdg.lo Rdg.hi
    split <;> (try split) <;> (try split) <;> omega
  · rw [wo_lo z, wo_hi z] at q
    exact q, h.2⟩
end
theorem LimAt.congr {H : Hp} {a : Addr} {ks : List Str} {lo hi lo' hi' : Str → Int} (h : LimAt H a ks lo hi) (e : ∀ n ∈ ks, lo' n = lo n ∧ hi' n = hi n) : LimAt H a ks lo' hi' := by
  obtain ⟨r, h1, h2⟩ := h
  exact ⟨r, h1, fun n hn => by rw [(e n hn).1, (e n hn).2]; exact h2 n hn⟩
abbrev s_range_of : Stmt := top 44
abbrev N_range_of : List Str := ["plant", "readings", "name"]
theorem sc_range_of : FnScope N_range_of ["plant", "readings", "name"] (defScope s_range_of) := ⟨rfl, rfl, rfl, by decide +kernel, rfl, by decide +kernel, by decide +kernel⟩
def sp_range_of (K : PySem.W.Frag) (z : Ad) : Sp := fun vs H Q _ => ∃ (a b : Addr) (p : Pl) (R : Rdg) (s : Stm), vs = [.ref a, .ref b, .str s.nm] ∧ PlAt z.C H a p ∧ RdAt H b R ∧ R.Ok p ∧ s ∈ p.ss ∧
  (∀ H', Same H H' → (∀ g, ¬ Agr p R g) → Q .non H') ∧ ∀ x H' l h, H x = none → Same H H' → RgAt z.CR H' x l h → (∃ f, Agr p R f) → IsRg p (R.lo p) (R.hi p) s.nm l h → Q (.ref x) H'
theorem ok_range_of {P : Program} {w : World} {K : PySem.W.Frag} {mg : Str → Option Value} {base : Heap} {z : Ad} (T : Bi mg) (Z : Cx3 K z.C z.CM z.CR) (D : Df K mg "range_of" s_range_of ["plant", "readings", "name"]) (c_limits_of : Cal P w K mg base 3 "limits_of" (sp_limits_of K z) []) (c_range_within : Cal P w K mg base 8 "range_within" (sp_range_within K z) []) : Cal P w K mg base 9 "range_of" (sp_range_of K z) [] := by
  have nd := sc_range_of.nd
  refine cal_mk D sc_range_of (by walk_at "len") (fun cdv A outer s H vs Q E f hr h => ⟨_, (pss_one (ps_ret (pe_c c_range_within hr (by decide) (by rfl) (pa_cons (pv 0) (pa_cons (pe_c c_limits_of hr (by decide) (by rfl) (pa_cons (pv 0) (pa_cons (pv 1) pa_nil))) (pa_cons (pv 2) pa_nil)))))), ?_⟩)
  obtain ⟨a, b, p, R, st, rfl, hP, hb, hR, hst, k1, k2⟩ := h
  walk_at "go"
  refine ⟨a, b, p, R, rfl, hP, hb, hR, fun D H1 hD s1 lm => ?_⟩
  walk_at "go"
  exact ⟨a, D, p, _, _, st, rfl, hP.mono s1, lm, hst, fun H2 s2 h => k1 H2 (L2.Same.trans s1 s2) h, fun x H2 l h hx s2 hr he hi => k2 x H2 l h (fresh_of s1 hx) (L2.Same.trans s1 s2) hr he hi⟩
abbrev s_ranges_of : Stmt := top 45
abbrev N_ranges_of : List Str := ["plant", "readings", "limits", "found", "name", "told"]
theorem sc_ranges_of : FnScope N_ranges_of ["plant", "readings"] (defScope s_ranges_of) := ⟨rfl, rfl, rfl, by decide +kernel, rfl, by decide +kernel, by decide +kernel⟩
def sp_ranges_of (K : PySem.W.Frag) (z : Ad) : Sp := fun vs H Q _ => ∃ (a b : Addr) (p : Pl) (R : Rdg), vs = [.ref a, .ref b] ∧ PlAt z.C H a p ∧ RdAt H b R ∧ R.Ok p ∧
  (∀ H', Same H H' → (∀ g, ¬ Agr p R g) → Q .non H') ∧ ∀ D H' l h, H D = none → Same H H' → LimAt H' D p.names l h → (∃ f, Agr p R f) → (∀ n ∈ p.names, IsRg p (R.lo p) (R.hi p) n (l n) (h n)) → Q (.ref D) H'
theorem ok_ranges_of {P : Program} {w : World} {K : PySem.W.Frag} {mg : Str → Option Value} {base : Heap} {z : Ad} (T : Bi mg) (Z : Cx3 K z.C z.CM z.CR) (D : Df K mg "ranges_of" s_ranges_of ["plant", "readings"]) (c_Plant_stream_names : Met P w K mg base 1 z.C "stream_names" (sp_Plant_stream_names K z) []) (c_flows_within : Cal P w K mg base 7 "flows_within" (sp_flows_within K z) []) (c_limits_of : Cal P w K mg base 3 "limits_of" (sp_limits_of K z) []) (c_range_within : Cal P w K mg base 8 "range_within" (sp_range_within K z) []) : Cal P w K mg base 9 "ranges_of" (sp_ranges_of K z) [] := by
  have nd := sc_ranges_of.nd
  refine cal_mk D sc_ranges_of (by walk_at "len") (fun cdv A outer s H vs Q E f hr h => ⟨_, (pss_cons (ps_set (i := 2) nd rfl (.inl rfl) (pe_c c_limits_of hr (by decide) (by rfl) (pa_cons (pv 0) (pa_cons (pv 1) pa_nil))))
    (pss_cons (ps_if (pt_cmpR op_isNo (pe_c c_flows_within hr (by decide) (by rfl) (pa_cons (pv 0) (pa_cons (pv 2) pa_nil))) pe_non (nomark _))
    (pss_one (ps_ret pe_non)) pss_nil)
    (pss_cons (ps_set (i := 3) nd rfl (.inl rfl) pe_dnewK)
    (pss_cons (ps_for PassesOwn.never rfl (pi_list (pe_mt0 c_Plant_stream_names hr (by decide) (pv 0))) (pg_name (i := 4) nd rfl (.inl rfl))
    (pss_cons (ps_set (i := 5) nd rfl (.inl rfl) (pe_c c_range_within hr (by decide) (by rfl) (pa_cons (pv 0) (pa_cons (pv 2) (pa_cons (pv 4) pa_nil)))))
    (pss_one (ps_dput (hu_of hr) (pv 3) (pv 4) (pe_tup (pa_cons (pe_fld (pv 5) rfl) (pa_cons (pe_fld (pv 5) rfl) pa_nil))) rfl))))
    (pss_one (ps_ret (pv 3))))))), ?_⟩)
  obtain ⟨a, b, p, R, rfl, hP, hb, hR, k1, k2⟩ := h
  have ok := hP.1
  have hlen : p.names.length ≤ 30 := by unfold Pl.names; rw [List.length_map]; exact ok.sl
  walk_at "go"
  refine ⟨a, b, p, R, rfl, hP, hb, hR, fun LD H1 hLD s1 lm => ?_⟩
  walk_at "go"
  refine ⟨a, LD, p, _, _, rfl, hP.mono s1, lm, fun H2 s2 hno => ?_, fun fd H2 f hfd s2 ef hf => ?_⟩
  · walk_at "go"
    exact k1 H2 (L2.Same.trans s1 s2) hno
  walk_at "go"
  refine g_dnew (fun n => .ref 0) fun D H3 hD s3 e3 => ?_
  walk_at "go"
  have s03 := L2.Same.trans s1 (L2.Same.trans s2 s3)
  have hD0 : H D = none := fresh_of s1 (fresh_of s2 hD)
  refine g_pnames rfl (hP.mono s03) fun nl H4 hnl s4 e4 => ?_
  have s04 := L2.Same.trans s03 s4
  have lm4 := lm.mono (L2.Same.trans s2 (L2.Same.trans s3 s4))
  have nLD : LD ≠ D := by
    obtain ⟨r, h1, _⟩ := lm.mono s2
    exact ne_of_none h1 hD
  have nnl : nl ≠ D := (ne_of_none e3 hnl).symm
  refine kFor_run p.names V.str (SqL.of e4) (fun d σ' H' => But [D] H4 H' ∧ (∃ l h, LimAt H' D d l h ∧ ∀ n ∈ d, IsRg p (R.lo p) (R.hi p) n (l n) (h n)) ∧ ∃ y4 y5, σ' = [some (.ref a), some (.ref b), some (.ref LD), some (.ref D), y4, y5])
    ⟨But.refl _ _, ⟨fun _ => 0, fun _ => 0, ⟨fun _ => 0, s4 _ _ e3, fun _ z => by cases z⟩, fun _ z => by cases z⟩, _, _, rfl⟩ (fun d σ' H' ⟨bt, _⟩ => SqL.of (bt _ _ (by simpa using nnl) e4)) (fun d y r σ' H' hL hI => ?_) (fun σ' H' hI => ?_)
  · obtain ⟨bt, ⟨l, h, lD, hIs⟩, y4, y5, rfl⟩ := hI
    have hy : y ∈ p.names := by rw [hL]; exact List.mem_append_right _ List.mem_cons_self
    have hyd : y ∉ d := by
      have := ok.nm
      rw [hL] at this
      exact fun z => (List.nodup_append.mp this).2.2 _ z _ List.mem_cons_self rfl
    have hdl : d.length < 1000 := by rw [hL, List.length_append] at hlen; omega
    obtain ⟨st, hst, rfl⟩ := List.mem_map.mp hy
    have sH : Same H H' := bt.same s04 (by intro x hx; rw [List.mem_singleton.mp hx]; exact hD0)
    have lmH : LimAt H' LD p.names (R.lo p) (R.hi p) := by
      obtain ⟨r, h1, h2⟩ := lm4
      exact ⟨r, bt _ _ (by simpa using nLD) h1, fun n hn => bt _ _ (by simpa using ne_of (h2 n hn) (s4 _ _ e3) (by intro z; cases z)) (h2 n hn)⟩
    refine g_name ?_
    walk_at "go"
    refine ⟨a, LD, p, R.lo p, R.hi p, st, rfl, hP.mono sH, lmH, hst, fun H5 s5 hno => absurd hf (hno f), fun x H5 l1 h1 hx s5 ⟨dx, fs, ex, q1, q2⟩ _ hI => ?_⟩
    walk_at "go"
    refine g_fld rfl ex Z.clR Z.rL q1 ?_
    walk_at "go"
    refine g_fld rfl ex Z.clR Z.rH q2 ?_
    walk_at "go"
    refine g_newT (by simp) fun t H6 ht s6 e6 => ?_
    walk_at "go"
    have eqs : ∀ n ∈ d, fup l st.nm l1 n = l n ∧ fup h st.nm h1 n = h n := fun n hn => by
      have : n ≠ st.nm := fun z => hyd (z ▸ hn)
      unfold fup
      rw [if_neg this, if_neg this]
      exact ⟨rfl, rfl⟩
    obtain ⟨val, ev, lm2⟩ := lim_add (lo := fup l st.nm l1) (hi := fup h st.nm h1) (((lD.mono s5).mono s6).congr eqs) hyd (by rw [fup_at, fup_at]; exact e6)
    refine g_kput ev hdl ?_
    rw [ins_new hyd]
    refine ⟨bt.trans ((But.of (L2.Same.trans s5 s6)).trans (But.upd (by simp))), ⟨_, _, lm2, fun n hn => ?_⟩, _, _, rfl⟩
    rcases List.mem_append.mp hn with q | q
    · rw [(eqs n q).1, (eqs n q).2]; exact hIs n q
    · rw [List.mem_singleton.mp q, fup_at, fup_at]; exact hI
  · obtain ⟨bt, ⟨l, h, lD, hIs⟩, y4, y5, rfl⟩ := hI
    walk_at "go"
    exact k2 D H' l h hD0 (bt.same s04 (by intro x hx; rw [List.mem_singleton.mp hx]; exact hD0)) lD ⟨f, hf⟩ hIs
abbrev s_fixed_streams : Stmt := top 47
abbrev N_fixed_streams : List Str := ["plant", "readings", "told", "name", "low", "high"]
theorem sc_fixed_streams : FnScope N_fixed_streams ["plant", "readings"] (defScope s_fixed_streams) := ⟨rfl, rfl, rfl, by decide +kernel, rfl, by decide +kernel, by decide +kernel⟩
def sp_fixed_streams (K : PySem.W.Frag) (z : Ad) : Sp := fun vs H Q _ => ∃ (a b : Addr) (p : Pl) (R : Rdg), vs = [.ref a, .ref b] ∧ PlAt z.C H a p ∧ RdAt H b R ∧ R.Ok p ∧ (∃ f, Agr p R f) ∧
  ∀ D H' (l h : Str → Int), H D = none → Same H H' → (∀ n ∈ p.names, IsRg p (R.lo p) (R.hi p) n (l n) (h n)) → H' D = some (dk (p.names.filter fun n => decide (l n = h n)) (fl l)) → Q (.ref D) H'
theorem ok_fixed_streams {P : Program} {w : World} {K : PySem.W.Frag} {mg : Str → Option Value} {base : Heap} {z : Ad} (T : Bi mg) (Z : Cx3 K z.C z.CM z.CR) (D : Df K mg "fixed_streams" s_fixed_streams ["plant", "readings"]) (c_ranges_of : Cal P w K mg base 9 "ranges_of" (sp_ranges_of K z) []) : Cal P w K mg base 10 "fixed_streams" (sp_fixed_streams K z) [] := by
  have nd := sc_fixed_streams.nd
  refine cal_mk D sc_fixed_streams (by walk_at "len") (fun cdv A outer s H vs Q E f hr h => ⟨_, (pss_cons (ps_set (i := 2) nd rfl (.inl rfl) (pe_c c_ranges_of hr (by decide) (by rfl) (pa_cons (pv 0) (pa_cons (pv 1) pa_nil))))
    (pss_cons (ps_if (pt_cmpR op_isNo (pv 2) pe_non (nomark _))
    (pss_one (ps_ret pe_non)) pss_nil)
    (pss_one (ps_ret (pe_dc (own := [("name", 3), ("low", 4), ("high", 5)]) rfl nd (pi_items (pe_frz (pv 2))) (blkOk_by (own := [("name", 3), ("low", 4), ("high", 5)]) (N := N_fixed_streams) (sc := defScope s_fixed_streams) (by decide +kernel)) (fun _ _ _ _ _ => (pg_tupK (K := K) (n := 2) rfl rfl (pgs_cons (pg_name (i := 3) nd rfl (.inl rfl)) (pgs_cons (pg_tupK (K := K) (n := 2) rfl rfl (pgs_cons (pg_name (i := 4) nd rfl (.inl rfl)) (pgs_cons (pg_name (i := 5) nd rfl (.inl rfl)) pgs_nil))) pgs_nil)))) (fun _ _ _ _ _ => pts_one (pt_cmpR op_eq (pv 4) (pv 5) (nomark _))) (fun _ _ _ _ _ => (pv 3)) (fun _ _ _ _ _ => (pv 4))))))), ?_⟩)
  obtain ⟨a, b, p, R, rfl, hP, hb, hR, ⟨f, hf⟩, k⟩ := h
  have hlen : p.names.length ≤ 30 := by unfold Pl.names; rw [List.length_map]; exact hP.1.sl
  walk_at "go"
  refine ⟨a, b, p, R, rfl, hP, hb, hR, fun H1 s1 hno => absurd hf (hno f), fun D H1 l h hD s1 ⟨r, hr1, hr2⟩ _ hIs => ?_⟩
  walk_at "go"
  refine g_dcItems rfl hr1 s1 hD (by omega) hP.1.nm (fun n => decide (l n = h n)) (fl l) (fun y hy t H2 s2 st et C c1 c2 => ?_) (fun D2 H2 hD2 s2 e2 => ?_)
  · refine g_two et ?_
    refine g_tcons ?_
    refine g_name ?_
    refine g_tcons ?_
    refine g_two (st _ _ (ne_of (hr2 y hy) hr1 (by intro z; cases z)) (hr2 y hy)) ?_
    refine g_tcons ?_
    refine g_name ?_
    refine g_tcons ?_
    refine g_name ?_
    refine g_tnil ?_
    refine g_tnil ⟨rfl, ?_⟩
    walk_at "go"
    refine g_ite (fun hn => ?_) (fun hn => ?_)
    · walk_at "go"
      exact c1 H2 (Same.refl _) (decide_eq_true hn)
    · exact c2 H2 (Same.refl _) (decide_eq_false hn)
  · exact k D2 H2 l h hD2 s2 hIs e2
abbrev s_is_idle : Stmt := top 48
abbrev N_is_idle : List Str := ["plant", "readings", "name", "told", "number", "tolerance"]
theorem sc_is_idle : FnScope N_is_idle ["plant", "readings", "name"] (defScope s_is_idle) := ⟨rfl, rfl, rfl, by decide +kernel, rfl, by decide +kernel, by decide +kernel⟩
def sp_is_idle (K : PySem.W.Frag) (z : Ad) : Sp := fun vs H Q _ => ∃ (a b : Addr) (p : Pl) (R : Rdg) (n : Str), vs = [.ref a, .ref b, .str n] ∧ PlAt z.C H a p ∧ RdAt H b R ∧ R.Ok p ∧ n ∈ R.ks ∧ (∃ f, Agr p R f) ∧
  ∀ H' (w : Bool), Same H H' → (w = true → ∀ g, Agr p (R.wo n) g → Agr p R g) → Q (.bl w) H'
theorem ok_is_idle {P : Program} {w : World} {K : PySem.W.Frag} {mg : Str → Option Value} {base : Heap} {z : Ad} (T : Bi mg) (Z : Cx3 K z.C z.CM z.CR) (D : Df K mg "is_idle" s_is_idle ["plant", "readings", "name"]) (c_range_of : Cal P w K mg base 9 "range_of" (sp_range_of K z) []) (c_without_reading : Cal P w K mg base 1 "without_reading" (sp_without_reading K z) []) : Cal P w K mg base 10 "is_idle" (sp_is_idle K z) [] := by
  have nd := sc_is_idle.nd
  refine cal_mk D sc_is_idle (by walk_at "len") (fun cdv A outer s H vs Q E f hr h => ⟨_, (pss_cons (ps_asg (pe_dget (hu_of hr) (pv 1) (pv 2) (fun _ _ => rfl)) (pg_tupK (K := K) (n := 2) rfl rfl (pgs_cons (pg_name (i := 4) nd rfl (.inl rfl)) (pgs_cons (pg_name (i := 5) nd rfl (.inl rfl)) pgs_nil))))
    (pss_cons (ps_set (i := 3) nd rfl (.inl rfl) (pe_c c_range_of hr (by decide) (by rfl) (pa_cons (pv 0) (pa_cons (pe_c c_without_reading hr (by decide) (by rfl) (pa_cons (pv 1) (pa_cons (pv 2) pa_nil))) (pa_cons (pv 2) pa_nil)))))
    (pss_one (ps_ret (pe_and (pe_cmpR op_le (pe_op op_sub (pv 4) (pv 5)) (pe_fld (pv 3) rfl) (nomark _)) (pe_one (pe_cmpR op_le (pe_fld (pv 3) rfl) (pe_op op_add (pv 4) (pv 5)) (nomark _)))))))), ?_⟩)
  obtain ⟨a, b, p, R, n, rfl, hP, hb, hR, hn, ⟨f, hf⟩, k⟩ := h
  obtain ⟨st, hst, rfl⟩ := List.mem_map.mp (hR.sub n hn)
  obtain ⟨rr, hb1, hb2⟩ := hb
  walk_at "go"
  refine g_kgetR (.inl hb1) hn ?_
  refine g_two (hb2 _ hn) ?_
  walk_at "go"
  refine ⟨b, R, st.nm, rfl, ⟨rr, hb1, hb2⟩, hR.nd, rdg_len hR hP.1, hn, fun D H1 hD s1 rd => ?_⟩
  walk_at "go"
  refine ⟨a, D, p, R.wo st.nm, st, rfl, hP.mono s1, rd, Rdg.wo_ok hR, hst, fun H2 s2 hno => absurd (agr_wo hf) (hno f), fun x H2 l h hx s2 ⟨dx, fs, ex, q1, q2⟩ _ hI => ?_⟩
  walk_at "go"
  refine g_fld rfl ex Z.clR Z.rL q1 ?_
  walk_at "go"
  refine g_ite (fun hle => ?_) (fun hgt => ?_)
  · walk_at "go"
    refine g_fld rfl ex Z.clR Z.rH q2 ?_
    walk_at "go"
    refine k H2 _ (L2.Same.trans s1 s2) fun hw g hg => ?_
    have h1 := hI.bd g hg
    have h2 := of_decide_eq_true hw
    exact agr_add hg (by omega) (by omega)
  · exact k H2 false (L2.Same.trans s1 s2) fun hw => by cases hw
abbrev s_idle_readings : Stmt := top 49
abbrev N_idle_readings : List Str := ["plant", "readings", "name"]
theorem sc_idle_readings : FnScope N_idle_readings ["plant", "readings"] (defScope s_idle_readings) := ⟨rfl, rfl, rfl, by decide +kernel, rfl, by decide +kernel, by decide +kernel⟩
def sp_idle_readings (K : PySem.W.Frag) (z : Ad) : Sp := fun vs H Q _ => ∃ (a b : Addr) (p : Pl) (R : Rdg), vs = [.ref a, .ref b] ∧ PlAt z.C H a p ∧ RdAt H b R ∧ R.Ok p ∧ (∃ f, Agr p R f) ∧
  ∀ D H' ys, H D = none → Same H H' → H' D = some (ls ys) → (∀ n ∈ ys, n ∈ R.ks ∧ ∀ g, Agr p (R.wo n) g → Agr p R g) → ys.length ≤ 30 → Q (.ref D) H'
theorem ok_idle_readings {P : Program} {w : World} {K : PySem.W.Frag} {mg : Str → Option Value} {base : Heap} {z : Ad} (T : Bi mg) (Z : Cx3 K z.C z.CM z.CR) (D : Df K mg "idle_readings" s_idle_readings ["plant", "readings"]) (c_is_idle : Cal P w K mg base 10 "is_idle" (sp_is_idle K z) []) (c_ranges_of : Cal P w K mg base 9 "ranges_of" (sp_ranges_of K z) []) : Cal P w K mg base 11 "idle_readings" (sp_idle_readings K z) [] := by
  have nd := sc_idle_readings.nd
  refine cal_mk D sc_idle_readings (by walk_at "len") (fun cdv A outer s H vs Q E f hr h => ⟨_, (pss_cons (ps_if (pt_cmpR op_isNo (pe_c c_ranges_of hr (by decide) (by rfl) (pa_cons (pv 0) (pa_cons (pv 1) pa_nil))) pe_non (nomark _))
    (pss_one (ps_ret pe_non)) pss_nil)
    (pss_one (ps_ret (pe_lc (own := [("name", 2)]) rfl nd (pi_list (pe_callB (cr_sortDk rfl) (by rfl) T.b_sorted (by decide +kernel) (pa_cons (pv 1) pa_nil))) (blkOk_by (own := [("name", 2)]) (N := N_idle_readings) (sc := defScope s_idle_readings) (by decide +kernel)) (fun _ _ _ _ _ => (pg_name (i := 2) nd rfl (.inl rfl))) (fun _ _ _ _ _ => pts_one (pt_val (pe_c c_is_idle hr (by decide) (by rfl) (pa_cons (pv 0) (pa_cons (pv 1) (pa_cons (pv 2) pa_nil)))))) (fun _ _ _ _ _ => (pv 2)))))), ?_⟩)
  obtain ⟨a, b, p, R, rfl, hP, hb, hR, ⟨f, hf⟩, k⟩ := h
  have hl := rdg_len hR hP.1
  walk_at "go"
  refine ⟨a, b, p, R, rfl, hP, hb, hR, fun H1 s1 hno => absurd hf (hno f), fun D H1 l h hD s1 _ _ _ => ?_⟩
  walk_at "go"
  obtain ⟨rr, hb1, hb2⟩ := hb.mono s1
  refine g_sortD (.inl hb1) (by omega) fun ys u H2 py _ hu s2 eu => ?_
  have s02 := L2.Same.trans s1 s2
  have hyl := py.length_eq
  refine kLc_some ys (fun n => ∀ g, Agr p (R.wo n) g → Agr p R g) (SqL.of eu) (by omega) (fun y hy H3 s3 C c1 c2 => ?_) (fun D2 H3 zs hD2 s3 e3 hz hl3 => ?_)
  · refine g_name ⟨rfl, ?_⟩
    walk_at "go"
    have s03 := L2.Same.trans s02 s3
    refine ⟨a, b, p, R, y, rfl, hP.mono s03, hb.mono s03, hR, py.mem_iff.mp hy, ⟨f, hf⟩, fun H4 w s4 hw => ?_⟩
    walk_at "go"
    refine g_iteB (fun e => ?_) (fun e => ?_)
    · walk_at "go"
      exact c1 H4 s4 (hw e)
    · exact c2 H4 s4
  · exact k D2 H3 zs (fresh_of s02 hD2) (L2.Same.trans s02 s3) e3 (fun n hn => ⟨py.mem_iff.mp (hz n hn).1, (hz n hn).2⟩) (by omega)

end Mh
set_option Elab.async false
set_option linter.all false
set_option maxRecDepth 100000
set_option maxHeartbeats 4000000
namespace Mh
open PySem PySem.Spec PyProof.Rows L2
open C8 (Cal Mak Met pe_c pe_mk pe_mt pe_mt0 pe_gc)
local macro_rules
  | `(tactic| walk_at "hp") => `(tactic| first | assumption | (exact upd_same) | (refine (by assumption : Same _ _) _ _ ?_; first | assumption | (refine (by assumption : Same _ _) _ _ ?_; first | assumption | (refine (by assumption : Same _ _) _ _ ?_; assumption))))
local macro_rules
  | `(tactic| walk_at "go") => `(tactic| repeat (first
    | with_reducible refine g_seq ?_
    | with_reducible refine g_asg ?_
    | with_reducible refine g_name ?_
    | with_reducible refine g_ret ?_
    | with_reducible refine g_retN ?_
    | with_reducible refine g_next ?_
    | with_reducible refine g_break ?_
    | with_reducible refine g_drop ?_
    | with_reducible refine g_if ?_
    | ((with_reducible show tVar _ _ _ _); refine g_var rfl ?_)
    | with_reducible refine g_c ?_
    | with_reducible refine g_op ?_
    | with_reducible refine g_un ?_
    | with_reducible refine g_test ?_
    | with_reducible refine g_tB ?_
    | with_reducible refine g_exb ?_
    | with_reducible refine g_exbi ?_
    | with_reducible refine g_and ?_
    | with_reducible refine g_or ?_
    | with_reducible refine g_not ?_
    | with_reducible refine g_tIf ?_
    | with_reducible refine g_andV ?_
    | with_reducible refine g_chain ?_
    | with_reducible refine g_chain3 ?_
    | with_reducible refine g_rI0 ?_
    | with_reducible refine g_rU ?_
    | with_reducible refine g_eqI ?_
    | with_reducible refine g_neI ?_
    | with_reducible refine g_eqS ?_
    | with_reducible refine g_neS ?_
    | with_reducible refine g_isNoR ?_
    | with_reducible refine g_isNoN ?_
    | with_reducible refine g_isNoS ?_
    | with_reducible refine g_notNoR ?_
    | with_reducible refine g_notNoS ?_
    | with_reducible refine g_notNoN ?_
    | with_reducible refine g_nil ?_
    | with_reducible refine g_cons ?_
    | with_reducible refine g_cb ?_
    | with_reducible refine g_call ?_
    | with_reducible refine g_tup ?_
    | with_reducible refine g_lst ?_
    | with_reducible refine g_dget ?_
    | with_reducible refine g_din ?_
    | with_reducible refine g_dnin ?_
    | with_reducible refine g_dput ?_
    | with_reducible refine g_daug ?_
    | with_reducible refine g_rAdd ?_
    | with_reducible refine g_rSub ?_
    | with_reducible refine g_tcons ?_
    | with_reducible refine g_tnil ?_
    | with_reducible refine g_forL ?_
    | with_reducible refine g_lc ?_
    | with_reducible refine g_dc ?_
    | with_reducible refine g_yes ?_
    | with_reducible refine g_ipI ?_
    | ((with_reducible show tAug _ _ _ _ _ _); refine g_aug rfl ?_)
    | with_reducible refine g_revL ?_
    | with_reducible refine g_sfld ?_
    | with_reducible refine g_abs ?_
    | with_reducible refine g_maxI ?_
    | with_reducible refine g_minI ?_
    | with_reducible refine g_int1 ?_
    | ((with_reducible refine g_modP ?_ ?_); (focus decide))
    | ((with_reducible refine g_fdivP ?_ ?_ ?_); (focus decide); (focus decide))
    | ((with_reducible refine g_mulL ?_ ?_ ?_); (focus decide); (focus decide))
    | ((with_reducible refine g_mulR ?_ ?_ ?_); (focus decide); (focus decide))
    | with_reducible refine g_forR ?_
    | with_reducible refine g_slice ?_
    | with_reducible refine g_nopart ?_
    | with_reducible refine g_part ?_
    | with_reducible refine g_partI ?_
    | with_reducible refine g_intB ?_
    | with_reducible refine g_nT ?_
    | with_reducible refine g_nF ?_
    | with_reducible refine g_T ?_
    | with_reducible refine g_F ?_))
local macro_rules
  | `(tactic| walk_at "len") => `(tactic| (intro vs H Q E h; first | (obtain ⟨e, _⟩ := h; rw [e]; rfl) | (obtain ⟨_, e, _⟩ := h; rw [e]; rfl) | (obtain ⟨_, _, e, _⟩ := h; rw [e]; rfl) | (obtain ⟨_, _, _, e, _⟩ := h; rw [e]; rfl) | (obtain ⟨_, _, _, _, e, _⟩ := h; rw [e]; rfl) | (obtain ⟨_, _, _, _, _, e, _⟩ := h; rw [e]; rfl) | (obtain ⟨_, _, _, _, _, _, e, _⟩ := h; rw [e]; rfl) | (obtain ⟨_, _, _, _, _, _, _, e, _⟩ := h; rw [e]; rfl) | (obtain ⟨_, _, _, _, _, _, _, _, e, _⟩ := h; rw [e]; rfl) | (obtain ⟨_, _, _, _, _, _, _, _, _, e, _⟩ := h; rw [e]; rfl) | (obtain ⟨_, _, _, _, _, _, _, _, _, _, e, _⟩ := h; rw [e]; rfl) | (obtain ⟨_, _, _, _, _, _, _, _, _, _, _, e, _⟩ := h; rw [e]; rfl) | (obtain ⟨_, _, _, _, _, _, _, _, _, _, _, _, e, _⟩ := h; rw [e]; rfl) | (obtain ⟨_, _, _, _, _, _, _, _, _, _, _, _, _, e, _⟩ := h; rw [e]; rfl) | (obtain ⟨_, _, _, _, _, _, _, _, _, _, _, _, _, _, e, _⟩ := h; rw [e]; rfl) | (obtain ⟨_, _, _, _, _, _, _, _, _, _, _, _, _, _, _, e, _⟩ := h; rw [e]; rfl)))
local macro_rules
  | `(tactic| walk_at "nf") => `(tactic| try simp only [L2.start, List.map_cons, List.map_nil, List.length_cons, List.length_nil, List.drop_succ_cons, List.drop_zero, List.replicate_succ, List.replicate_zero, List.cons_append, List.nil_append, List.set_cons_succ, List.set_cons_zero, Nat.reduceAdd, Nat.reduceSub])
section
variable {K : PySem.W.Frag} {σ : L2.St} {H : Hp} {Q : VK} {R : L2.St → Hp → Prop} {te : TE} {t : TA} {i j : Nat} {nx : L2.St → Hp → Prop} {rt : VK} {bk ct : L2.St → Hp → Prop}
theorem g_inT {p : Addr} {s x y : Str} (h : H p = some (.tup [.str x, .str y])) (q : Q (.bl (decide (s ∈ [x, y]))) H) : rIn K false (.str s) (.ref p) H Q := by
  refine ⟨p, [x, y].map V.str, rfl, .inr (SqT.of h), rfl, flat_str _, ?_⟩
  rw [inV_str]
  exact q
theorem g_par (q : t σ H fun vs H1 => ∃ v w, vs = [v, w] ∧ nx ((σ.set i (some v)).set j (some w)) H1) : tPar i j t ⟨nx, rt, bk, ct⟩ σ H := q
theorem g_slice {r : V → Option Int → Option Int → Hp → VK → Prop} {tl th : TO} (q : te σ H fun x H1 => tl σ H1 fun l H2 => th σ H2 fun u H3 => r x l u H3 Q) : tSl r te tl th σ H Q := q
end
abbrev s_check_names : Stmt := top 51
abbrev N_check_names : List Str := ["plant", "names", "known", "name"]
theorem sc_check_names : FnScope N_check_names ["plant", "names"] (defScope s_check_names) := ⟨rfl, rfl, rfl, by decide +kernel, rfl, by decide +kernel, by decide +kernel⟩
def sp_check_names (K : PySem.W.Frag) (z : Ad) : Sp := fun vs H Q _ => ∃ (a b : Addr) (p : Pl) (ns : List Str), vs = [.ref a, .ref b] ∧ PlAt z.C H a p ∧ H b = some (ls ns) ∧ ns.length ≤ 60 ∧ (∀ n ∈ ns, n ∈ p.names) ∧ ∀ H', Same H H' → Q .non H'
theorem ok_check_names {P : Program} {w : World} {K : PySem.W.Frag} {mg : Str → Option Value} {base : Heap} {z : Ad} (T : Bi mg) (Z : Cx3 K z.C z.CM z.CR) (D : Df K mg "check_names" s_check_names ["plant", "names"]) (c_Plant_stream_names : Met P w K mg base 1 z.C "stream_names" (sp_Plant_stream_names K z) []) : Cal P w K mg base 2 "check_names" (sp_check_names K z) [] := by
  have nd := sc_check_names.nd
  refine cal_mk D sc_check_names (by walk_at "len") (fun cdv A outer s H vs Q E f hr h => ⟨_, (pss_cons (ps_set (i := 2) nd rfl (.inl rfl) (pe_mt0 c_Plant_stream_names hr (by decide) (pv 0)))
    (pss_one (ps_for PassesOwn.never rfl (pi_list (pe_callB cr_sortedS (by rfl) T.b_sorted (by decide +kernel) (pa_cons (pv 1) pa_nil))) (pg_name (i := 3) nd rfl (.inl rfl))
    (pss_one (ps_if (pt_cmpR (op_notInK (K := K) rfl) (pv 3) (pv 2) rfl)
    (pss_one ps_never) pss_nil))))), ?_⟩)
  obtain ⟨a, b, p, ns, rfl, hP, hb, hl, hn, k⟩ := h
  walk_at "go"
  refine g_pnames rfl hP fun nm H1 hnm s1 e1 => ?_
  walk_at "go"
  refine g_sortS (s1 _ _ hb) (by omega) fun ys u H2 py _ hu s2 eu => ?_
  refine kFor_run ys V.str (SqL.of eu) (fun d σ' H' => H' = H2 ∧ ∃ y, σ' = [some (.ref a), some (.ref b), some (.ref nm), y]) ⟨rfl, none, rfl⟩ (fun d σ' H' ⟨e, _⟩ => by rw [e]; exact SqL.of eu) (fun d y r' σ' H' hL hI => ?_) (fun σ' H' hI => ?_)
  · obtain ⟨rfl, w, rfl⟩ := hI
    have hy : y ∈ ns := py.mem_iff.mp (by rw [hL]; exact List.mem_append_right _ List.mem_cons_self)
    refine g_name ?_
    walk_at "go"
    refine g_ninS (s2 _ _ e1) ?_
    walk_at "go"
    refine g_iteNF (hn y hy) ?_
    walk_at "go"
    exact ⟨rfl, _, rfl⟩
  · obtain ⟨rfl, w, rfl⟩ := hI
    exact k _ (L2.Same.trans s1 s2)
abbrev s_ends_of : Stmt := top 52
abbrev N_ends_of : List Str := ["plant", "name", "_", "tail", "head"]
theorem sc_ends_of : FnScope N_ends_of ["plant", "name"] (defScope s_ends_of) := ⟨rfl, rfl, rfl, by decide +kernel, rfl, by decide +kernel, by decide +kernel⟩
def sp_ends_of (K : PySem.W.Frag) (z : Ad) : Sp := fun vs H Q _ => ∃ (a : Addr) (p : Pl) (s : Stm), vs = [.ref a, .str s.nm] ∧ PlAt z.C H a p ∧ s ∈ p.ss ∧ ∀ D H', H D = none → Same H H' → H' D = some (.tup [.str s.tl, .str s.hd]) → Q (.ref D) H'
theorem ok_ends_of {P : Program} {w : World} {K : PySem.W.Frag} {mg : Str → Option Value} {base : Heap} {z : Ad} (T : Bi mg) (Z : Cx3 K z.C z.CM z.CR) (D : Df K mg "ends_of" s_ends_of ["plant", "name"]) (c_Plant_stream_named : Met P w K mg base 1 z.C "stream_named" (sp_Plant_stream_named K z) []) : Cal P w K mg base 2 "ends_of" (sp_ends_of K z) [] := by
  have nd := sc_ends_of.nd
  refine cal_mk D sc_ends_of (by walk_at "len") (fun cdv A outer s H vs Q E f hr h => ⟨_, (pss_cons (ps_asg (pe_mt c_Plant_stream_named hr (by decide) (pv 0) (pa_cons (pv 1) pa_nil)) (pg_tupK (K := K) (n := 5) rfl rfl (pgs_cons (pg_name (i := 2) nd rfl (.inl rfl)) (pgs_cons (pg_name (i := 3) nd rfl (.inl rfl)) (pgs_cons (pg_name (i := 4) nd rfl (.inl rfl)) (pgs_cons (pg_name (i := 2) nd rfl (.inl rfl)) (pgs_cons (pg_name (i := 2) nd rfl (.inl rfl)) pgs_nil)))))))
    (pss_one (ps_ret (pe_tup (pa_cons (pv 3) (pa_cons (pv 4) pa_nil)))))), ?_⟩)
  obtain ⟨a, p, st, rfl, hP, hs, k⟩ := h
  walk_at "go"
  refine g_pnamed rfl rfl hP hs fun r0 er0 => ?_
  refine g_stm er0 ?_
  walk_at "go"
  exact g_newT (by simp) fun D H1 hD s1 e1 => k D H1 hD s1 e1
abbrev s_steps_from : Stmt := top 53
abbrev N_steps_from : List Str := ["plant", "names", "knot", "found", "name", "tail", "head", "_"]
theorem sc_steps_from : FnScope N_steps_from ["plant", "names", "knot"] (defScope s_steps_from) := ⟨rfl, rfl, rfl, by decide +kernel, rfl, by decide +kernel, by decide +kernel⟩
def sp_steps_from (K : PySem.W.Frag) (z : Ad) : Sp := fun vs H Q _ => ∃ (a b : Addr) (p : Pl) (ns : List Str) (k : Str), vs = [.ref a, .ref b, .str k] ∧ PlAt z.C H a p ∧ H b = some (ls ns) ∧ ∀ D H', H D = none → Same H H' → Tups Stp.row H' D (stps p ns k) → Q (.ref D) H'
theorem ok_steps_from {P : Program} {w : World} {K : PySem.W.Frag} {mg : Str → Option Value} {base : Heap} {z : Ad} (T : Bi mg) (Z : Cx3 K z.C z.CM z.CR) (D : Df K mg "steps_from" s_steps_from ["plant", "names", "knot"]) (c_Plant_streams : Prp P w K mg base 1 z.C "streams" (sp_Plant_streams K z)) : Cal P w K mg base 3 "steps_from" (sp_steps_from K z) [] := by
  have nd := sc_steps_from.nd
  refine cal_mk D sc_steps_from (by walk_at "len") (fun cdv A outer s H vs Q E f hr h => ⟨_, (pss_cons (ps_set (i := 3) nd rfl (.inl rfl) (pe_lst pa_nil))
    (pss_cons (ps_for PassesOwn.never rfl (pi_list (pe_pr c_Plant_streams hr (by decide) (pv 0) rfl)) (pg_tupK (K := K) (n := 5) rfl rfl (pgs_cons (pg_name (i := 4) nd rfl (.inl rfl)) (pgs_cons (pg_name (i := 5) nd rfl (.inl rfl)) (pgs_cons (pg_name (i := 6) nd rfl (.inl rfl)) (pgs_cons (pg_name (i := 7) nd rfl (.inl rfl)) (pgs_cons (pg_name (i := 7) nd rfl (.inl rfl)) pgs_nil))))))
    (pss_one (ps_if (PW.pt (pw_and (pt_cmpR (op_inK (K := K) rfl) (pv 2) (pe_tup (pa_cons (pv 5) (pa_cons (pv 6) pa_nil))) rfl) (pw_and1 (pt_cmpR (op_inK (K := K) rfl) (pv 4) (pv 1) rfl))))
    (pss_cutI (ps_if (pt_cmpR op_eq (pv 6) (pv 2) (nomark _))
    (pss_one (ps_expr (pe_bm PySem.F.plainAttrs_list PySem.F.slot_list_append PySem.F.type_list_append mt_append (pv 3) (pa_cons (pe_tup (pa_cons (pv 4) (pa_cons (pe_un un_neg pe_int) (pa_cons (pv 5) pa_nil)))) pa_nil)))) pss_nil)
    (pss_one (ps_if (pt_cmpR op_eq (pv 5) (pv 2) (nomark _))
    (pss_one (ps_expr (pe_bm PySem.F.plainAttrs_list PySem.F.slot_list_append PySem.F.type_list_append mt_append (pv 3) (pa_cons (pe_tup (pa_cons (pv 4) (pa_cons pe_int (pa_cons (pv 6) pa_nil)))) pa_nil)))) pss_nil))) pss_nil)))
    (pss_one (ps_ret (pv 3))))), ?_⟩)
  obtain ⟨a, b, p, ns, kt, rfl, hP, hb, k⟩ := h
  walk_at "go"
  refine g_newL (by simp) fun D H1 hD s1 e1 => ?_
  walk_at "go"
  refine g_pstreams rfl (hP.mono s1) fun as H2 has s2 ⟨L, hL, eL, hT⟩ => ?_
  rw [rf_fst] at eL
  have s02 := L2.Same.trans s1 s2
  have nD : D ≠ as := ne_of_none e1 has
  have hLl : L.length ≤ 30 := by have := hP.1.sl; rw [← hL, List.length_map] at this; exact this
  refine kFor_run L fst (SqL.of eL) (fun d σ' H' => But [D] H2 H' ∧ Tups Stp.row H' D ((d.map (·.2)).flatMap (stp1 ns kt)) ∧ ∃ y4 y5 y6 y7, σ' = [some (.ref a), some (.ref b), some (.str kt), some (.ref D), y4, y5, y6, y7])
    ⟨But.refl _ _, ⟨[], rfl, s2 _ _ e1, fun _ q => by cases q⟩, _, _, _, _, rfl⟩ (fun d σ' H' ⟨bt, _⟩ => SqL.of (bt _ _ (by simpa using nD.symm) eL)) (fun d q r σ' H' hL' hI => ?_) (fun σ' H' hI => ?_)
  · obtain ⟨bt, tD, y4, y5, y6, y7, rfl⟩ := hI
    have hq : q ∈ L := by rw [hL']; exact List.mem_append_right _ List.mem_cons_self
    have hdl : d.length ≤ 29 := by rw [hL', List.length_append, List.length_cons] at hLl; omega
    have hpl : ((d.map (·.2)).flatMap (stp1 ns kt)).length ≤ 58 := by
      have := flat_len (stp1 ns kt) (stp1_len ns kt) (d.map (·.2))
      rw [List.length_map] at this
      omega
    have em : ((d ++ [q]).map (·.2)).flatMap (stp1 ns kt) = (d.map (·.2)).flatMap (stp1 ns kt) ++ stp1 ns kt q.2 := by
      rw [List.map_append, List.flatMap_append]
      simp
    rw [em]
    generalize (d.map (·.2)).flatMap (stp1 ns kt) = pre at *
    have sH : Same H H' := bt.same s02 (by intro x hx; rw [List.mem_singleton.mp hx]; exact hD)
    refine g_stm (bt _ _ (by simpa using ne_of (hT q hq) (s2 _ _ e1) (by intro z; cases z)) (hT q hq)) ?_
    walk_at "go"
    refine g_newT (by simp) fun r1 H3 hr1 s3 e3 => ?_
    refine g_inT e3 ?_
    walk_at "go"
    have done0 : ∀ H4, Same H' H4 → stp1 ns kt q.2 = [] → But [D] H2 H4 ∧ Tups Stp.row H4 D (pre ++ stp1 ns kt q.2) := fun H4 s4 e => ⟨bt.trans (But.of s4), by rw [e, List.append_nil]; exact tD.mono s4⟩
    refine g_ite (fun hin => ?_) (fun hout => ?_)
    · walk_at "go"
      refine g_inS (s3 _ _ (sH _ _ hb)) ?_
      walk_at "go"
      refine g_ite (fun hnm => ?_) (fun hnm => ?_)
      · have hc : (kt = q.2.tl ∨ kt = q.2.hd) ∧ q.2.nm ∈ ns := ⟨by simpa using hin, hnm⟩
        unfold stp1
        rw [if_pos hc]
        refine g_cut (fun σ' H4 => But [D] H2 H4 ∧ Tups Stp.row H4 D (pre ++ (if q.2.hd = kt then [⟨q.2.nm, -1, q.2.tl⟩] else [])) ∧
          σ' = [some (.ref a), some (.ref b), some (.str kt), some (.ref D), some (.str q.2.nm), some (.str q.2.tl), some (.str q.2.hd), some (.int q.2.hi)]) ?_ (fun σ2 H4 hM => ?_)
        · walk_at "go"
          refine g_ite (fun hh => ?_) (fun hh => ?_)
          · obtain ⟨vs, ev⟩ := (tD.mono s3).lst
            walk_at "go"
            refine g_append rfl ev ?_
            walk_at "go"
            refine g_newT (by simp) fun r2 H5 hr2 s5 e5 => ?_
            refine g_kappT (row := Stp.row) (y := (⟨q.2.nm, -1, q.2.tl⟩ : Stp)) ((tD.mono s3).mono s5) e5 (by omega) fun H6 t6 b6 _ => ?_
            exact ⟨bt.trans ((But.of (L2.Same.trans s3 s5)).trans b6), by rw [if_pos hh]; exact t6, rfl⟩
          · walk_at "go"
            exact ⟨bt.trans (But.of s3), by rw [if_neg hh, List.append_nil]; exact tD.mono s3, rfl⟩
        · obtain ⟨b4, t4, rfl⟩ := hM
          walk_at "go"
          refine g_ite (fun hh => ?_) (fun hh => ?_)
          · obtain ⟨vs, ev⟩ := t4.lst
            walk_at "go"
            refine g_append rfl ev ?_
            walk_at "go"
            refine g_newT (by simp) fun r2 H5 hr2 s5 e5 => ?_
            refine g_kappT (row := Stp.row) (y := (⟨q.2.nm, 1, q.2.hd⟩ : Stp)) (t4.mono s5) e5 (by rw [List.length_append]; split <;> simp <;> omega) fun H6 t6 b6 _ => ?_
            exact ⟨b4.trans ((But.of s5).trans b6), by rw [if_pos hh, ← List.append_assoc]; exact t6, _, _, _, _, rfl⟩
          · walk_at "go"
            exact ⟨b4, by rw [if_neg hh, List.append_nil]; exact t4, _, _, _, _, rfl⟩
      · walk_at "go"
        obtain ⟨q1, q2⟩ := done0 _ s3 (by unfold stp1; rw [if_neg fun z => hnm z.2])
        exact ⟨q1, q2, _, _, _, _, rfl⟩
    · walk_at "go"
      obtain ⟨q1, q2⟩ := done0 _ s3 (by unfold stp1; rw [if_neg fun z => hout (by simpa using z.1)])
      exact ⟨q1, q2, _, _, _, _, rfl⟩
  · obtain ⟨bt, tD, y4, y5, y6, y7, rfl⟩ := hI
    walk_at "go"
    rw [hL] at tD
    exact k D H' hD (bt.same s02 (by intro x hx; rw [List.mem_singleton.mp hx]; exact hD)) tD
abbrev s_unmetered : Stmt := top 58
abbrev N_unmetered : List Str := ["plant", "metered", "name"]
theorem sc_unmetered : FnScope N_unmetered ["plant", "metered"] (defScope s_unmetered) := ⟨rfl, rfl, rfl, by decide +kernel, rfl, by decide +kernel, by decide +kernel⟩
def sp_unmetered (K : PySem.W.Frag) (z : Ad) : Sp := fun vs H Q _ => ∃ (a b : Addr) (p : Pl) (ns : List Str), vs = [.ref a, .ref b] ∧ PlAt z.C H a p ∧ H b = some (ls ns) ∧ ns.length ≤ 60 ∧ (∀ n ∈ ns, n ∈ p.names) ∧
  ∀ D H', H D = none → Same H H' → H' D = some (ls (p.names.filter fun n => decide (¬ n ∈ ns))) → Q (.ref D) H'
theorem ok_unmetered {P : Program} {w : World} {K : PySem.W.Frag} {mg : Str → Option Value} {base : Heap} {z : Ad} (T : Bi mg) (Z : Cx3 K z.C z.CM z.CR) (D : Df K mg "unmetered" s_unmetered ["plant", "metered"]) (c_Plant_stream_names : Met P w K mg base 1 z.C "stream_names" (sp_Plant_stream_names K z) []) (c_check_names : Cal P w K mg base 2 "check_names" (sp_check_names K z) []) : Cal P w K mg base 3 "unmetered" (sp_unmetered K z) [] := by
  have nd := sc_unmetered.nd
  refine cal_mk D sc_unmetered (by walk_at "len") (fun cdv A outer s H vs Q E f hr h => ⟨_, (pss_cons (ps_expr (pe_c c_check_names hr (by decide) (by rfl) (pa_cons (pv 0) (pa_cons (pv 1) pa_nil))))
    (pss_one (ps_ret (pe_lc (own := [("name", 2)]) rfl nd (pi_list (pe_mt0 c_Plant_stream_names hr (by decide) (pv 0))) (blkOk_by (own := [("name", 2)]) (N := N_unmetered) (sc := defScope s_unmetered) (by decide +kernel)) (fun _ _ _ _ _ => (pg_name (i := 2) nd rfl (.inl rfl))) (fun _ _ _ _ _ => pts_one (pt_cmpR (op_notInK (K := K) rfl) (pv 2) (pv 1) rfl)) (fun _ _ _ _ _ => (pv 2)))))), ?_⟩)
  obtain ⟨a, b, p, ns, rfl, hP, hb, hl, hn, k⟩ := h
  have hlen : p.names.length ≤ 30 := by unfold Pl.names; rw [List.length_map]; exact hP.1.sl
  walk_at "go"
  refine ⟨a, b, p, ns, rfl, hP, hb, hl, hn, fun H1 s1 => ?_⟩
  walk_at "go"
  refine g_pnames rfl (hP.mono s1) fun nm H2 hnm s2 e2 => ?_
  have s02 := L2.Same.trans s1 s2
  refine kLc_filt p.names (fun n => ¬ n ∈ ns) (SqL.of e2) (by omega) (fun y hy H3 s3 C c1 c2 => ?_) (fun D H3 hD s3 e3 => k D H3 (fresh_of s02 hD) (L2.Same.trans s02 s3) e3)
  refine g_name ⟨rfl, ?_⟩
  walk_at "go"
  refine g_ninS (s3 _ _ (s02 _ _ hb)) ?_
  walk_at "go"
  refine g_iteN (fun hn => ?_) (fun hn => ?_)
  · walk_at "go"
    exact c1 H3 (Same.refl _) hn
  · exact c2 H3 (Same.refl _) fun z => z hn

end Mh
set_option Elab.async false
set_option linter.all false
set_option maxRecDepth 100000
set_option maxHeartbeats 4000000
namespace Mh
open PySem PySem.Spec PyProof.Rows L2
open C8 (Cal Mak Met pe_c pe_mk pe_mt pe_mt0 pe_gc)
local macro_rules
  | `(tactic| walk_at "hp") => `(tactic| first | assumption | (exact upd_same) | (refine (by assumption : Same _ _) _ _ ?_; first | assumption | (refine (by assumption : Same _ _) _ _ ?_; first | assumption | (refine (by assumption : Same _ _) _ _ ?_; assumption))))
local macro_rules
  | `(tactic| walk_at "go") => `(tactic| repeat (first
    | with_reducible refine g_seq ?_
    | with_reducible refine g_asg ?_
    | with_reducible refine g_name ?_
    | with_reducible refine g_ret ?_
    | with_reducible refine g_retN ?_
    | with_reducible refine g_next ?_
    | with_reducible refine g_break ?_
    | with_reducible refine g_drop ?_
    | with_reducible refine g_if ?_
    | ((with_reducible show tVar _ _ _ _); refine g_var rfl ?_)
    | with_reducible refine g_c ?_
    | with_reducible refine g_op ?_
    | with_reducible refine g_un ?_
    | with_reducible refine g_test ?_
    | with_reducible refine g_tB ?_
    | with_reducible refine g_exb ?_
    | with_reducible refine g_exbi ?_
    | with_reducible refine g_and ?_
    | with_reducible refine g_or ?_
    | with_reducible refine g_not ?_
    | with_reducible refine g_tIf ?_
    | with_reducible refine g_andV ?_
    | with_reducible refine g_chain ?_
    | with_reducible refine g_chain3 ?_
    | with_reducible refine g_rI0 ?_
    | with_reducible refine g_rU ?_
    | with_reducible refine g_eqI ?_
    | with_reducible refine g_neI ?_
    | with_reducible refine g_eqS ?_
    | with_reducible refine g_neS ?_
    | with_reducible refine g_isNoR ?_
    | with_reducible refine g_isNoN ?_
    | with_reducible refine g_isNoS ?_
    | with_reducible refine g_notNoR ?_
    | with_reducible refine g_notNoS ?_
    | with_reducible refine g_notNoN ?_
    | with_reducible refine g_nil ?_
    | with_reducible refine g_cons ?_
    | with_reducible refine g_cb ?_
    | with_reducible refine g_call ?_
    | with_reducible refine g_tup ?_
    | with_reducible refine g_lst ?_
    | with_reducible refine g_dget ?_
    | with_reducible refine g_din ?_
    | with_reducible refine g_dnin ?_
    | with_reducible refine g_dput ?_
    | with_reducible refine g_daug ?_
    | with_reducible refine g_rAdd ?_
    | with_reducible refine g_rSub ?_
    | with_reducible refine g_tcons ?_
    | with_reducible refine g_tnil ?_
    | with_reducible refine g_forL ?_
    | with_reducible refine g_lc ?_
    | with_reducible refine g_dc ?_
    | with_reducible refine g_yes ?_
    | with_reducible refine g_ipI ?_
    | ((with_reducible show tAug _ _ _ _ _ _); refine g_aug rfl ?_)
    | with_reducible refine g_revL ?_
    | with_reducible refine g_sfld ?_
    | with_reducible refine g_abs ?_
    | with_reducible refine g_maxI ?_
    | with_reducible refine g_minI ?_
    | with_reducible refine g_int1 ?_
    | ((with_reducible refine g_modP ?_ ?_); (focus decide))
    | ((with_reducible refine g_fdivP ?_ ?_ ?_); (focus decide); (focus decide))
    | ((with_reducible refine g_mulL ?_ ?_ ?_); (focus decide); (focus decide))
    | ((with_reducible refine g_mulR ?_ ?_ ?_); (focus decide); (focus decide))
    | with_reducible refine g_forR ?_
    | with_reducible refine g_slice ?_
    | with_reducible refine g_nopart ?_
    | with_reducible refine g_part ?_
    | with_reducible refine g_partI ?_
    | with_reducible refine g_intB ?_
    | with_reducible refine g_nT ?_
    | with_reducible refine g_nF ?_
    | with_reducible refine g_T ?_
    | with_reducible refine g_F ?_))
local macro_rules
  | `(tactic| walk_at "len") => `(tactic| (intro vs H Q E h; first | (obtain ⟨e, _⟩ := h; rw [e]; rfl) | (obtain ⟨_, e, _⟩ := h; rw [e]; rfl) | (obtain ⟨_, _, e, _⟩ := h; rw [e]; rfl) | (obtain ⟨_, _, _, e, _⟩ := h; rw [e]; rfl) | (obtain ⟨_, _, _, _, e, _⟩ := h; rw [e]; rfl) | (obtain ⟨_, _, _, _, _, e, _⟩ := h; rw [e]; rfl) | (obtain ⟨_, _, _, _, _, _, e, _⟩ := h; rw [e]; rfl) | (obtain ⟨_, _, _, _, _, _, _, e, _⟩ := h; rw [e]; rfl) | (obtain ⟨_, _, _, _, _, _, _, _, e, _⟩ := h; rw [e]; rfl) | (obtain ⟨_, _, _, _, _, _, _, _, _, e, _⟩ := h; rw [e]; rfl) | (obtain ⟨_, _, _, _, _, _, _, _, _, _, e, _⟩ := h; rw [e]; rfl) | (obtain ⟨_, _, _, _, _, _, _, _, _, _, _, e, _⟩ := h; rw [e]; rfl) | (obtain ⟨_, _, _, _, _, _, _, _, _, _, _, _, e, _⟩ := h; rw [e]; rfl) | (obtain ⟨_, _, _, _, _, _, _, _, _, _, _, _, _, e, _⟩ := h; rw [e]; rfl) | (obtain ⟨_, _, _, _, _, _, _, _, _, _, _, _, _, _, e, _⟩ := h; rw [e]; rfl) | (obtain ⟨_, _, _, _, _, _, _, _, _, _, _, _, _, _, _, e, _⟩ := h; rw [e]; rfl)))
local macro_rules
  | `(tactic| walk_at "nf") => `(tactic| try simp only [L2.start, List.map_cons, List.map_nil, List.length_cons, List.length_nil, List.drop_succ_cons, List.drop_zero, List.replicate_succ, List.replicate_zero, List.cons_append, List.nil_append, List.set_cons_succ, List.set_cons_zero, Nat.reduceAdd, Nat.reduceSub])
section
variable {K : PySem.W.Frag} {σ : L2.St} {H : Hp} {Q : VK} {te : TE} {i : Nat}
theorem g_disp1 {n : Str} {m : Int} (hv : σ[i]? = some (some (.str n))) (q : ∀ p H1, H p = none → Same H H1 → H1 p = some (dk [n] (fl fun _ => m)) → Q (.ref p) H1) : tDisp [(tVar i, tC (.int m))] σ H Q :=
  fun p hp => ⟨_, hv, upd_same, [(Sum.inr n, .int m)], rfl, by simp, q p _ hp (sm_chg (same_upd hp) hp) upd_same⟩
theorem g_nopart {R : Option Int → Hp → Prop} (q : R none H) : tNoPart σ H R := q
theorem g_part {R : Option Int → Hp → Prop} (q : te σ H fun x H1 => ∃ i, x = .int i ∧ R (some i) H1) : tPart te σ H R := q
theorem g_partI {m : Int} {R : Int → Prop} (q : R m) : ∃ i, V.int m = .int i ∧ R i := ⟨m, rfl, q⟩
theorem g_cutL {a : Addr} {xs : List V} {lo hi : Option Int} (h : H a = some (.lst xs)) (q : ∀ p H1, H p = none → Same H H1 → H1 p = some (.lst (cutV xs lo hi)) → Q (.ref p) H1) : rSlL K (.ref a) lo hi H Q := ⟨a, xs, rfl, SqL.of h, g_new q⟩
theorem g_cutT {a : Addr} {xs : List V} {lo hi : Option Int} (h : H a = some (.tup xs)) (hw : ¬ (HT.sIx xs.length 0 lo = 0 ∧ HT.sIx xs.length xs.length hi = xs.length)) (q : ∀ p H1, H p = none → Same H H1 → H1 p = some (.tup (cutV xs lo hi)) → Q (.ref p) H1) : rSlT K (.ref a) lo hi H Q := ⟨a, xs, rfl, SqT.of h, hw, g_new q⟩
theorem cut_tail (x : V) (r : List V) : cutV (x :: r) (some 1) none = r := by
  unfold cutV
  rw [HT.sIx_none, show HT.sIx (x :: r).length 0 (some 1) = 1 from by rw [show (some (1 : Int)) = some ((1 : Nat) : Int) from rfl, HT.sIx_nat, List.length_cons]; omega]
  simp
end
abbrev s_levels_from : Stmt := top 54
abbrev N_levels_from : List Str := ["plant", "names", "knot", "levels", "waiting", "here", "_", "there"]
theorem sc_levels_from : FnScope N_levels_from ["plant", "names", "knot"] (defScope s_levels_from) := ⟨rfl, rfl, rfl, by decide +kernel, rfl, by decide +kernel, by decide +kernel⟩
def sp_levels_from (K : PySem.W.Frag) (z : Ad) : Sp := fun vs H Q _ => ∃ (a b : Addr) (p : Pl) (ns : List Str) (st : Str), vs = [.ref a, .ref b, .str st] ∧ PlAt z.C H a p ∧ H b = some (ls ns) ∧ st ∈ p.kn ∧
  ∀ D H' W lv, H D = none → Same H H' → H' D = some (dk W (fl lv)) → Lvs p ns st W lv [] [] → Q (.ref D) H'
theorem ok_levels_from {P : Program} {w : World} {K : PySem.W.Frag} {mg : Str → Option Value} {base : Heap} {z : Ad} (T : Bi mg) (Z : Cx3 K z.C z.CM z.CR) (D : Df K mg "levels_from" s_levels_from ["plant", "names", "knot"]) (c_steps_from : Cal P w K mg base 3 "steps_from" (sp_steps_from K z) []) : Cal P w K mg base 4 "levels_from" (sp_levels_from K z) [] := by
  have nd := sc_levels_from.nd
  refine cal_mk D sc_levels_from (by walk_at "len") (fun cdv A outer s H vs Q E f hr h => ⟨_, (pss_cons (ps_set (i := 3) nd rfl (.inl rfl) (pe_disp (pps_cons (pv 2) pe_int pps_nil) (by rfl) (by rfl) (fun z => by cases z) (by decide)))
    (pss_cons (ps_set (i := 4) nd rfl (.inl rfl) (pe_lst (pa_cons (pv 2) pa_nil)))
    (pss_cons (ps_while PassesOwn.never (pt_truth (pv 4) (by intro _; rfl))
    (pss_cons (ps_par (i := 5) (j := 4) (by rfl) nd rfl rfl (by decide) rfl rfl (pa_cons (pe_ix (ix_listK (K := K) rfl) (pv 4) pe_int (fun _ _ => rfl)) (pa_cons (pe_slice sl_list (pv 4) (po_some pe_int) po_none) pa_nil)) (by rfl))
    (pss_one (ps_for PassesOwn.never rfl (pi_list (pe_c c_steps_from hr (by decide) (by rfl) (pa_cons (pv 0) (pa_cons (pv 1) (pa_cons (pv 5) pa_nil))))) (pg_tupK (K := K) (n := 3) rfl rfl (pgs_cons (pg_name (i := 6) nd rfl (.inl rfl)) (pgs_cons (pg_name (i := 6) nd rfl (.inl rfl)) (pgs_cons (pg_name (i := 7) nd rfl (.inl rfl)) pgs_nil))))
    (pss_one (ps_if (pt_cmp (pc_dnotin (hu_of hr) (pv 7) (pv 3)))
    (pss_cons (ps_dput (hu_of hr) (pv 3) (pv 7) (pe_op op_add (pe_dget (hu_of hr) (pv 3) (pv 5) (fun _ _ => rfl)) pe_int) rfl)
    (pss_one (ps_expr (pe_bm PySem.F.plainAttrs_list PySem.F.slot_list_append PySem.F.type_list_append mt_append (pv 4) (pa_cons (pv 7) pa_nil))))) pss_nil))))))
    (pss_one (ps_ret (pv 3)))))), ?_⟩)
  obtain ⟨a, b, p, ns, st, rfl, hP, hb, hst, k⟩ := h
  have ok := hP.1
  walk_at "go"
  refine g_disp1 rfl fun D H1 hD s1 e1 => ?_
  walk_at "go"
  refine g_newL (by simp) fun w0 H2 hw0 s2 e2 => ?_
  walk_at "go"
  have s02 := L2.Same.trans s1 s2
  refine g_while (fun m σ' H' => ∃ (W wt : List Str) (lv : Str → Int) (wl : Addr) (y5 y6 y7 : Option V), m + 2 * W.length = 2 * p.kn.length + wt.length ∧ σ' = [some (.ref a), some (.ref b), some (.str st), some (.ref D), some (.ref wl), y5, y6, y7] ∧
      Same H H' ∧ H' D = some (dk W (fl lv)) ∧ H' wl = some (ls wt) ∧ Lvs p ns st W lv wt [] ∧ wt.length ≤ W.length)
    (2 * p.kn.length - 1) ⟨[st], [st], fun _ => 0, w0, none, none, none, by have := List.length_pos_of_mem hst; simp only [List.length_singleton]; omega, rfl, s02, s2 _ _ e1, e2, Lvs.start hst, Nat.le_refl _⟩ (fun m σ' H' hW => ?_) (fun σ H R R' i q => ?_)
  · obtain ⟨W, wt, lv, wl, y5, y6, y7, hm, rfl, sH, eD, ew, inv, hwk⟩ := hW
    walk_at "go"
    refine g_truL ew ?_
    cases wt with
    | nil =>
      rw [show (!(([] : List Str).map V.str).isEmpty) = false from rfl]
      walk_at "go"
      exact k D H' W lv hD sH eD inv
    | cons here wr =>
      rw [show (!((here :: wr).map V.str).isEmpty) = true from rfl]
      walk_at "go"
      refine g_par ?_
      walk_at "go"
      refine g_ixL ew (atI_nat (j := 0) rfl) ?_
      walk_at "go"
      refine g_part ?_
      walk_at "go"
      refine g_partI ?_
      refine g_nopart ?_
      refine g_cutL ew fun wl' H3 hwl s3 e3 => ?_
      rw [show (here :: wr).map V.str = .str here :: wr.map V.str from rfl, cut_tail] at e3
      walk_at "go"
      refine ⟨_, _, rfl, ?_⟩
      have sH3 := L2.Same.trans sH s3
      have inv0 := inv.pop
      have hhere : here ∈ W := inv.wm here List.mem_cons_self
      have nDw : D ≠ wl' := ne_of_none eD hwl
      have hw0 : H wl' = none := fresh_of sH hwl
      walk_at "go"
      refine ⟨a, b, p, ns, here, rfl, hP.mono sH3, sH3 _ _ hb, fun SD H4 hSD s4 ⟨M, hM, eM, hT⟩ => ?_⟩
      rw [rf_fst] at eM
      have nS1 : SD ≠ D := (ne_of_none (s3 _ _ eD) hSD).symm
      have nS2 : SD ≠ wl' := (ne_of_none e3 hSD).symm
      have hMm : ∀ q ∈ M, q.2 ∈ stps p ns here := fun q hq => by rw [← hM]; exact List.mem_map.mpr ⟨q, hq, rfl⟩
      have eD4 := s4 _ _ (s3 _ _ eD)
      have e34 := s4 _ _ e3
      have nD : ∀ xs, H4 D ≠ some (.tup xs) := fun xs q => by rw [eD4] at q; cases q
      have nW : ∀ xs, H4 wl' ≠ some (.tup xs) := fun xs q => by rw [e34] at q; cases q
      have sH4 := L2.Same.trans sH3 s4
      have hWl := inv.len
      rw [List.length_cons] at hm hwk
      have hkl := ok.kl
      refine kFor_run M fst (SqL.of eM) (fun d σ' H6 => ∃ (W2 wt2 : List Str) (lv2 : Str → Int) (y6 y7 : Option V) (m2 : Nat), m2 < m ∧ m2 + 2 * W2.length = 2 * p.kn.length + wt2.length ∧
          σ' = [some (.ref a), some (.ref b), some (.str st), some (.ref D), some (.ref wl'), some (.str here), y6, y7] ∧ But [D, wl'] H4 H6 ∧ H6 D = some (dk W2 (fl lv2)) ∧ H6 wl' = some (ls wt2) ∧ Lvs p ns st W2 lv2 wt2 [here] ∧ here ∈ W2 ∧ wt2.length ≤ W2.length ∧ ∀ q ∈ d, q.2.to ∈ W2)
        ⟨W, wr, lv, y6, y7, m - 1, by omega, by omega, rfl, But.refl _ _, eD4, e34, inv0, hhere, by omega, fun _ z => by cases z⟩ (fun d σ' H6 hI => ?_) (fun d q r σ' H6 hL' hI => ?_) (fun σ' H6 hI => ?_)
      · obtain ⟨W2, wt2, lv2, y6, y7, m2, _, _, _, bt, _⟩ := hI
        exact SqL.of (bt _ _ (by simp [nS1, nS2]) eM)
      · obtain ⟨W2, wt2, lv2, y6, y7, m2, hlt, hm2, rfl, bt, eD2, ew2, inv2, hh, hwk2, hd⟩ := hI
        have hq : q ∈ M := by rw [hL']; exact List.mem_append_right _ List.mem_cons_self
        have te := bt.tup (in2 (P := fun x => ∀ xs, H4 x ≠ some (.tup xs)) nD nW)
        have hW2 := inv2.len
        refine g_stp (te _ _ (hT q hq)) ?_
        walk_at "go"
        refine g_knin (.inl eD2) ?_
        walk_at "go"
        refine g_iteN (fun hnew => ?_) (fun hold => ?_)
        · walk_at "go"
          refine g_kgetI (.inl eD2) hh ?_
          walk_at "go"
          refine g_kput eD2 (by omega) ?_
          rw [ins_new hnew, fl_fup]
          have inv3 := inv2.add ok hh (hMm q hq) hnew
          have hW3 := inv3.len
          rw [List.length_append, List.length_singleton] at hW3
          have ew3 : (upd H6 D (dk (W2 ++ [q.2.to]) (fl (fup lv2 q.2.to (lv2 here + 1))))) wl' = some (ls wt2) := by rw [upd_ne nDw.symm]; exact ew2
          walk_at "go"
          refine g_append rfl ew3 ?_
          walk_at "go"
          refine g_kapp ew3 (by rw [List.length_map]; omega) ?_
          rw [ls_snoc]
          refine ⟨W2 ++ [q.2.to], wt2 ++ [q.2.to], fup lv2 q.2.to (lv2 here + 1), _, _, m2 - 1, by omega, ?_, rfl, bt.trans ((But.upd (by simp)).trans (But.upd (by simp))), ?_, upd_same, inv3, List.mem_append_left _ hh, ?_, fun x hx => ?_⟩
          · rw [List.length_append, List.length_append, List.length_singleton]; omega
          · rw [upd_ne nDw, upd_same]
          · rw [List.length_append, List.length_append, List.length_singleton]; omega
          · rcases List.mem_append.mp hx with z | z
            · exact List.mem_append_left _ (hd x z)
            · rw [List.mem_singleton.mp z]; exact List.mem_append_right _ List.mem_cons_self
        · walk_at "go"
          refine ⟨W2, wt2, lv2, _, _, m2, hlt, hm2, rfl, bt, eD2, ew2, inv2, hh, hwk2, fun x hx => ?_⟩
          rcases List.mem_append.mp hx with z | z
          · exact hd x z
          · rw [List.mem_singleton.mp z]; exact hold
      · obtain ⟨W2, wt2, lv2, y6, y7, m2, hlt, hm2, rfl, bt, eD2, ew2, inv2, hh, hwk2, hd⟩ := hI
        refine ⟨m2, hlt, W2, wt2, lv2, wl', _, _, _, hm2, rfl, bt.same sH4 (in2 hD hw0), eD2, ew2, inv2.done (fun t ht => ?_), hwk2⟩
        rw [← hM] at ht
        obtain ⟨q, hq, e⟩ := List.mem_map.mp ht
        rw [← e]
        exact hd q hq
  · obtain ⟨v1, e1, k1, t1, q⟩ := q
    exact ⟨v1, e1, k1, t1, i _ _ q⟩
abbrev s_ring_through : Stmt := top 55
abbrev N_ring_through : List Str := ["plant", "names", "name", "others", "levels", "ring", "goal", "here", "near", "other", "step"]
theorem sc_ring_through : FnScope N_ring_through ["plant", "names", "name"] (defScope s_ring_through) := ⟨rfl, rfl, rfl, by decide +kernel, rfl, by decide +kernel, by decide +kernel⟩
def sp_ring_through (K : PySem.W.Frag) (z : Ad) : Sp := fun vs H Q _ => ∃ (a b : Addr) (p : Pl) (ns : List Str) (s : Stm), vs = [.ref a, .ref b, .str s.nm] ∧ PlAt z.C H a p ∧ H b = some (ls ns) ∧ ns.length ≤ 60 ∧ (∀ n ∈ ns, n ∈ p.names) ∧ s ∈ p.ss ∧
  (∀ H', Same H H' → NoConn p (ns.filter fun m => decide (m ≠ s.nm)) s.tl s.hd → Q .non H') ∧ ∀ D H', Same H H' → ¬ NoConn p (ns.filter fun m => decide (m ≠ s.nm)) s.tl s.hd → Q (.ref D) H'
theorem ok_ring_through {P : Program} {w : World} {K : PySem.W.Frag} {mg : Str → Option Value} {base : Heap} {z : Ad} (T : Bi mg) (Z : Cx3 K z.C z.CM z.CR) (D : Df K mg "ring_through" s_ring_through ["plant", "names", "name"]) (c_check_names : Cal P w K mg base 2 "check_names" (sp_check_names K z) []) (c_ends_of : Cal P w K mg base 2 "ends_of" (sp_ends_of K z) []) (c_levels_from : Cal P w K mg base 4 "levels_from" (sp_levels_from K z) []) (c_steps_from : Cal P w K mg base 3 "steps_from" (sp_steps_from K z) []) : Cal P w K mg base 5 "ring_through" (sp_ring_through K z) [] := by
  have nd := sc_ring_through.nd
  refine cal_mk D sc_ring_through (by walk_at "len") (fun cdv A outer s H vs Q E f hr h => ⟨_, (pss_cons (ps_expr (pe_c c_check_names hr (by decide) (by rfl) (pa_cons (pv 0) (pa_cons (pv 1) pa_nil))))
    (pss_cons (ps_asg (pe_c c_ends_of hr (by decide) (by rfl) (pa_cons (pv 0) (pa_cons (pv 2) pa_nil))) (pg_tupK (K := K) (n := 2) rfl rfl (pgs_cons (pg_name (i := 6) nd rfl (.inl rfl)) (pgs_cons (pg_name (i := 7) nd rfl (.inr rfl)) pgs_nil))))
    (pss_cons (ps_setLc (i := 3) (own := [("other", 9)]) rfl nd rfl rfl (sw_true rfl rfl rfl (by decide +kernel)) (pi_list (pv 1)) (blkOk_by (own := [("other", 9)]) (N := N_ring_through) (sc := defScope s_ring_through) (by decide +kernel)) (fun _ _ _ _ _ => (pg_name (i := 9) nd rfl (.inl rfl))) (fun _ _ _ _ _ => pts_one (pt_cmpR op_ne (pv 9) (pv 2) (nomark _))) (fun _ _ _ _ _ => (pv 9)))
    (pss_cons (ps_set (i := 4) nd rfl (.inr rfl) (pe_c c_levels_from hr (by decide) (by rfl) (pa_cons (pv 0) (pa_cons (pv 3) (pa_cons (pv 6) pa_nil)))))
    (pss_cons (ps_if (pt_cmp (pc_dnotin (hu_of hr) (pv 7) (pv 4)))
    (pss_one (ps_ret pe_non)) pss_nil)
    (pss_cons (ps_set (i := 5) nd rfl (.inl rfl) (pe_lst (pa_cons (pe_tup (pa_cons (pv 2) (pa_cons pe_int pa_nil))) pa_nil)))
    (pss_cons (ps_while PassesOwn.never (pt_cmpR op_ne (pv 7) (pv 6) (nomark _))
    (pss_cons (ps_setLc (i := 8) (own := [("step", 10)]) rfl nd rfl rfl (sw_true rfl rfl rfl (by decide +kernel)) (pi_list (pe_c c_steps_from hr (by decide) (by rfl) (pa_cons (pv 0) (pa_cons (pv 3) (pa_cons (pv 7) pa_nil))))) (blkOk_by (own := [("step", 10)]) (N := N_ring_through) (sc := defScope s_ring_through) (by decide +kernel)) (fun _ _ _ _ _ => (pg_name (i := 10) nd rfl (.inl rfl))) (fun _ _ _ _ _ => pts_one (pt_cmpR op_lt (pe_dget (hu_of hr) (pv 4) (pe_ix (ix_tupK (K := K) rfl) (pv 10) pe_int (fun _ _ => rfl)) (fun _ _ => rfl)) (pe_dget (hu_of hr) (pv 4) (pv 7) (fun _ _ => rfl)) (nomark _))) (fun _ _ _ _ _ => (pv 10)))
    (pss_cons (ps_expr (pe_bm PySem.F.plainAttrs_list PySem.F.slot_list_append PySem.F.type_list_append mt_append (pv 5) (pa_cons (pe_slice sl_tup (pe_ix (ix_listK (K := K) rfl) (pv 8) pe_int (fun _ _ => rfl)) po_none (po_some pe_int)) pa_nil)))
    (pss_one (ps_set (i := 7) nd rfl (.inr rfl) (pe_ix (ix_tupK (K := K) rfl) (pe_ix (ix_listK (K := K) rfl) (pv 8) pe_int (fun _ _ => rfl)) pe_int (fun _ _ => rfl)))))))
    (pss_one (ps_ret (pv 5)))))))))), ?_⟩)
  obtain ⟨a, b, p, ns, st, rfl, hP, hb, hl, hn, hst, k1, k2⟩ := h
  have ok := hP.1
  walk_at "go"
  refine ⟨a, b, p, ns, rfl, hP, hb, hl, hn, fun H1 s1 => ?_⟩
  walk_at "go"
  refine ⟨a, p, st, rfl, hP.mono s1, hst, fun ED H2 hED s2 e2 => ?_⟩
  refine g_two e2 ?_
  walk_at "go"
  have s02 := L2.Same.trans s1 s2
  refine kLc_filt ns (fun m => m ≠ st.nm) (SqL.of (s02 _ _ hb)) (by omega) (fun y hy H3 s3 C c1 c2 => ?_) (fun OT H3 hOT s3 eO => ?_)
  · refine g_name ⟨rfl, ?_⟩
    walk_at "go"
    refine g_iteN (fun hn => ?_) (fun hn => ?_)
    · walk_at "go"
      exact c1 H3 (Same.refl _) hn
    · exact c2 H3 (Same.refl _) fun z => z hn
  have s03 := L2.Same.trans s02 s3
  have hol : (ns.filter fun m => decide (m ≠ st.nm)).length ≤ 60 := Nat.le_trans (List.length_filter_le _ _) hl
  generalize (ns.filter fun m => decide (m ≠ st.nm)) = ot at *
  walk_at "go"
  refine ⟨a, OT, p, ot, st.tl, rfl, hP.mono s03, eO, ok.tl st hst, fun LD H4 W lv hLD s4 eL inv => ?_⟩
  walk_at "nf"
  walk_at "go"
  refine g_knin (.inl eL) ?_
  have s04 := L2.Same.trans s03 s4
  walk_at "go"
  refine g_iteN (fun hno => ?_) (fun hin => ?_)
  · walk_at "go"
    exact k1 H4 s04 (inv.no.mp hno)
  walk_at "go"
  refine g_newT (by simp) fun t0 H5 ht0 s5 e5 => ?_
  walk_at "go"
  refine g_newL (by simp) fun rg H6 hrg s6 e6 => ?_
  walk_at "nf"
  walk_at "go"
  have s46 := L2.Same.trans s5 s6
  have s06 := L2.Same.trans s04 s46
  have hrg0 : H rg = none := fresh_of (L2.Same.trans s04 s5) hrg
  have nrL : LD ≠ rg := ne_of_none (s5 _ _ eL) hrg
  have nrO : OT ≠ rg := ne_of_none (s5 _ _ (s4 _ _ eO)) hrg
  have hWl := inv.len
  have hkl := ok.kl
  refine g_while (fun m σ' H' => ∃ (here : Str) (y8 : Option V) (xs : List V), m = (lv here).toNat ∧ σ' = [some (.ref a), some (.ref b), some (.str st.nm), some (.ref OT), some (.ref LD), some (.ref rg), some (.str st.tl), some (.str here), y8, none, none] ∧
      But [rg] H6 H' ∧ H' rg = some (.lst xs) ∧ xs.length + (lv here).toNat ≤ 40 ∧ here ∈ W)
    _ ⟨st.hd, none, _, rfl, rfl, But.refl _ _, e6, ?_, hin⟩ (fun m σ' H' hW => ?_) (fun σ H R R' i q => ?_)
  · have := inv.rng _ hin
    simp only [List.length_singleton]
    omega
  · obtain ⟨here, y8, xs, rfl, rfl, bt, eR, hxl, hh⟩ := hW
    have sH : Same H H' := bt.same s06 (by intro x hx; rw [List.mem_singleton.mp hx]; exact hrg0)
    have eL' : H' LD = some (dk W (fl lv)) := bt _ _ (by simpa using nrL) (s46 _ _ eL)
    have eO' : H' OT = some (ls ot) := bt _ _ (by simpa using nrO) (s46 _ _ (s4 _ _ eO))
    walk_at "go"
    refine g_iteN (fun hne => ?_) (fun heq => ?_)
    · walk_at "go"
      refine ⟨a, OT, p, ot, here, rfl, hP.mono sH, eO', fun SD H7 hSD s7 ⟨M, hM, eM, hT⟩ => ?_⟩
      rw [rf_fst] at eM
      have hMl : M.length ≤ 60 := by
        have h1 := flat_len (stp1 ot here) (stp1_len ot here) p.ss
        have h2 := ok.sl
        have h3 : (M.map (·.2)).length = (stps p ot here).length := by rw [hM]
        rw [List.length_map] at h3
        unfold stps at h3
        omega
      have hMW : ∀ q ∈ M, q.2.to ∈ W := fun q hq => inv.clo here hh (by simp) (by simp) q.2 (by rw [← hM]; exact List.mem_map.mpr ⟨q, hq, rfl⟩)
      refine kLc_tups M fst (fun q => decide (lv q.2.to < lv here)) (fun q => q.2) Stp.row (SqL.of eM) (by omega) (fun q hq H8 s8 C c1 c2 => ?_) (fun NR H8 hNR s8 tN => ?_)
      · refine g_name ⟨rfl, ?_⟩
        walk_at "go"
        refine g_ixT (s8 _ _ (hT q hq)) rfl ?_
        refine g_kgetI (.inl (s8 _ _ (s7 _ _ eL'))) (hMW q hq) ?_
        walk_at "go"
        refine g_kgetI (.inl (s8 _ _ (s7 _ _ eL'))) hh ?_
        walk_at "go"
        refine g_ite (fun hn => ?_) (fun hn => ?_)
        · walk_at "go"
          exact c2 q.1 H8 (Same.refl _) (decide_eq_true hn) (s8 _ _ (hT q hq))
        · exact c1 H8 (Same.refl _) (decide_eq_false hn)
      obtain ⟨vs, ev, v1, _⟩ := way_ends tN
      have hne0 : ∃ t r, (M.filter fun q => decide (lv q.2.to < lv here)).map (·.2) = t :: r ∧ t.to ∈ W ∧ lv t.to < lv here := by
        obtain ⟨t, ht, h1, h2⟩ := inv.par here hh hne
        rw [← hM] at ht
        obtain ⟨q, hq, e⟩ := List.mem_map.mp ht
        have hq2 : q ∈ M.filter fun q => decide (lv q.2.to < lv here) := List.mem_filter.mpr ⟨hq, by rw [e]; exact decide_eq_true h2⟩
        cases eF : M.filter fun q => decide (lv q.2.to < lv here) with
        | nil => rw [eF] at hq2; cases hq2
        | cons x r =>
          have hx : x ∈ M.filter fun q => decide (lv q.2.to < lv here) := by rw [eF]; exact List.mem_cons_self
          obtain ⟨hx1, hx2⟩ := List.mem_filter.mp hx
          exact ⟨x.2, r.map (·.2), rfl, hMW x hx1, of_decide_eq_true hx2⟩
      obtain ⟨t, r, et, htW, htl⟩ := hne0
      obtain ⟨p0, hp0, hp0'⟩ := v1 _ _ et
      have s78 := L2.Same.trans s7 s8
      walk_at "go"
      refine g_append rfl (s78 _ _ eR) ?_
      refine g_slice ?_
      walk_at "go"
      refine g_ixL ev hp0 ?_
      refine g_nopart ?_
      refine g_part ?_
      walk_at "go"
      refine g_partI ?_
      refine g_cutT hp0' (by show ¬ (HT.sIx 3 0 none = 0 ∧ HT.sIx 3 3 (some 2) = 3); decide) fun u H9 hu s9 e9 => ?_
      have s79 := L2.Same.trans s78 s9
      refine g_kapp (s79 _ _ eR) (by omega) ?_
      walk_at "go"
      have te : TupE H8 (upd H9 rg (.lst (xs ++ [.ref u]))) := (TupE.of s9).trans (TupE.upd (s79 _ _ eR) (fun _ z => by cases z))
      have nNR : NR ≠ rg := (ne_of_none (s7 _ _ eR) hNR).symm
      refine g_ixL (by rw [upd_ne nNR]; exact s9 _ _ ev) hp0 ?_
      walk_at "go"
      refine g_ixT (te _ _ hp0') rfl ?_
      walk_at "go"
      have h0 := inv.rng _ htW
      refine ⟨(lv t.to).toNat, by omega, t.to, _, _, rfl, rfl, bt.trans ((But.of s79).trans (But.upd (by simp))), upd_same, ?_, htW⟩
      rw [List.length_append, List.length_singleton]
      omega
    · walk_at "go"
      exact k2 rg H' sH fun z => inv.no.mpr z hin
  · obtain ⟨v1, e1, v2, e2, q⟩ := q
    obtain ⟨q1, q2⟩ := q
    obtain ⟨k1, e3, q3⟩ := q2
    exact ⟨v1, e1, v2, e2, q1, k1, e3, i _ _ q3⟩

end Mh
set_option Elab.async false
set_option linter.all false
set_option maxRecDepth 100000
set_option maxHeartbeats 4000000
namespace Mh
open PySem PySem.Spec PyProof.Rows L2
open C8 (Cal Mak Met pe_c pe_mk pe_mt pe_mt0 pe_gc)
local macro_rules
  | `(tactic| walk_at "hp") => `(tactic| first | assumption | (exact upd_same) | (refine (by assumption : Same _ _) _ _ ?_; first | assumption | (refine (by assumption : Same _ _) _ _ ?_; first | assumption | (refine (by assumption : Same _ _) _ _ ?_; assumption))))
local macro_rules
  | `(tactic| walk_at "go") => `(tactic| repeat (first
    | with_reducible refine g_seq ?_
    | with_reducible refine g_asg ?_
    | with_reducible refine g_name ?_
    | with_reducible refine g_ret ?_
    | with_reducible refine g_retN ?_
    | with_reducible refine g_next ?_
    | with_reducible refine g_break ?_
    | with_reducible refine g_drop ?_
    | with_reducible refine g_if ?_
    | ((with_reducible show tVar _ _ _ _); refine g_var rfl ?_)
    | with_reducible refine g_c ?_
    | with_reducible refine g_op ?_
    | with_reducible refine g_un ?_
    | with_reducible refine g_test ?_
    | with_reducible refine g_tB ?_
    | with_reducible refine g_exb ?_
    | with_reducible refine g_exbi ?_
    | with_reducible refine g_and ?_
    | with_reducible refine g_or ?_
    | with_reducible refine g_not ?_
    | with_reducible refine g_tIf ?_
    | with_reducible refine g_andV ?_
    | with_reducible refine g_chain ?_
    | with_reducible refine g_chain3 ?_
    | with_reducible refine g_rI0 ?_
    | with_reducible refine g_rU ?_
    | with_reducible refine g_eqI ?_
    | with_reducible refine g_neI ?_
    | with_reducible refine g_eqS ?_
    | with_reducible refine g_neS ?_
    | with_reducible refine g_isNoR ?_
    | with_reducible refine g_isNoN ?_
    | with_reducible refine g_isNoS ?_
    | with_reducible refine g_notNoR ?_
    | with_reducible refine g_notNoS ?_
    | with_reducible refine g_notNoN ?_
    | with_reducible refine g_nil ?_
    | with_reducible refine g_cons ?_
    | with_reducible refine g_cb ?_
    | with_reducible refine g_call ?_
    | with_reducible refine g_tup ?_
    | with_reducible refine g_lst ?_
    | with_reducible refine g_dget ?_
    | with_reducible refine g_din ?_
    | with_reducible refine g_dnin ?_
    | with_reducible refine g_dput ?_
    | with_reducible refine g_daug ?_
    | with_reducible refine g_rAdd ?_
    | with_reducible refine g_rSub ?_
    | with_reducible refine g_tcons ?_
    | with_reducible refine g_tnil ?_
    | with_reducible refine g_forL ?_
    | with_reducible refine g_lc ?_
    | with_reducible refine g_dc ?_
    | with_reducible refine g_yes ?_
    | with_reducible refine g_ipI ?_
    | ((with_reducible show tAug _ _ _ _ _ _); refine g_aug rfl ?_)
    | with_reducible refine g_revL ?_
    | with_reducible refine g_sfld ?_
    | with_reducible refine g_abs ?_
    | with_reducible refine g_maxI ?_
    | with_reducible refine g_minI ?_
    | with_reducible refine g_int1 ?_
    | ((with_reducible refine g_modP ?_ ?_); (focus decide))
    | ((with_reducible refine g_fdivP ?_ ?_ ?_); (focus decide); (focus decide))
    | ((with_reducible refine g_mulL ?_ ?_ ?_); (focus decide); (focus decide))
    | ((with_reducible refine g_mulR ?_ ?_ ?_); (focus decide); (focus decide))
    | with_reducible refine g_forR ?_
    | with_reducible refine g_slice ?_
    | with_reducible refine g_nopart ?_
    | with_reducible refine g_part ?_
    | with_reducible refine g_partI ?_
    | with_reducible refine g_intB ?_
    | with_reducible refine g_nT ?_
    | with_reducible refine g_nF ?_
    | with_reducible refine g_T ?_
    | with_reducible refine g_F ?_))
local macro_rules
  | `(tactic| walk_at "len") => `(tactic| (intro vs H Q E h; first | (obtain ⟨e, _⟩ := h; rw [e]; rfl) | (obtain ⟨_, e, _⟩ := h; rw [e]; rfl) | (obtain ⟨_, _, e, _⟩ := h; rw [e]; rfl) | (obtain ⟨_, _, _, e, _⟩ := h; rw [e]; rfl) | (obtain ⟨_, _, _, _, e, _⟩ := h; rw [e]; rfl) | (obtain ⟨_, _, _, _, _, e, _⟩ := h; rw [e]; rfl) | (obtain ⟨_, _, _, _, _, _, e, _⟩ := h; rw [e]; rfl) | (obtain ⟨_, _, _, _, _, _, _, e, _⟩ := h; rw [e]; rfl) | (obtain ⟨_, _, _, _, _, _, _, _, e, _⟩ := h; rw [e]; rfl) | (obtain ⟨_, _, _, _, _, _, _, _, _, e, _⟩ := h; rw [e]; rfl) | (obtain ⟨_, _, _, _, _, _, _, _, _, _, e, _⟩ := h; rw [e]; rfl) | (obtain ⟨_, _, _, _, _, _, _, _, _, _, _, e, _⟩ := h; rw [e]; rfl) | (obtain ⟨_, _, _, _, _, _, _, _, _, _, _, _, e, _⟩ := h; rw [e]; rfl) | (obtain ⟨_, _, _, _, _, _, _, _, _, _, _, _, _, e, _⟩ := h; rw [e]; rfl) | (obtain ⟨_, _, _, _, _, _, _, _, _, _, _, _, _, _, e, _⟩ := h; rw [e]; rfl) | (obtain ⟨_, _, _, _, _, _, _, _, _, _, _, _, _, _, _, e, _⟩ := h; rw [e]; rfl)))
local macro_rules
  | `(tactic| walk_at "nf") => `(tactic| try simp only [L2.start, List.map_cons, List.map_nil, List.length_cons, List.length_nil, List.drop_succ_cons, List.drop_zero, List.replicate_succ, List.replicate_zero, List.cons_append, List.nil_append, List.set_cons_succ, List.set_cons_zero, Nat.reduceAdd, Nat.reduceSub])
section
variable {K : PySem.W.Frag} {σ : L2.St} {H : Hp} {Q : VK} {te : TE} {ta : TA} {g : TG} {tb : TS} {i : Nat} {nx : L2.St → Hp → Prop} {rt : VK} {bk ct : L2.St → Hp → Prop}
theorem cut_map {α : Type} (f : α → V) (xs : List α) (lo hi : Option Int) : ∃ ys : List α, cutV (xs.map f) lo hi = ys.map f ∧ ys = (xs.drop (HT.sIx xs.length 0 lo)).take (HT.sIx xs.length xs.length hi - HT.sIx xs.length 0 lo) := by
  refine ⟨_, ?_, rfl⟩
  unfold cutV
  rw [List.map_take, List.map_drop, List.length_map]
theorem cut_upto {α : Type} (f : α → V) (xs : List α) (n : Nat) : cutV (xs.map f) none (some (n : Int)) = (xs.take n).map f := by
  unfold cutV
  rw [HT.sIx_none, HT.sIx_nat, List.length_map, List.drop_zero, Nat.sub_zero, ← List.map_take]
  congr 1
  by_cases h : n ≤ xs.length
  · rw [Nat.min_eq_left h]
  · rw [Nat.min_eq_right (by omega), List.take_of_length_le (Nat.le_refl _), List.take_of_length_le (by omega)]
theorem g_cutQ {a : Addr} {xs : List V} {lo hi : Option Int} (h : SqL K H a xs) (q : ∀ p H1, H p = none → Same H H1 → H1 p = some (.lst (cutV xs lo hi)) → Q (.ref p) H1) : rSlL K (.ref a) lo hi H Q := ⟨a, xs, rfl, h, g_new q⟩
end
abbrev s_bridges : Stmt := top 56
abbrev N_bridges : List Str := ["plant", "names", "name"]
theorem sc_bridges : FnScope N_bridges ["plant", "names"] (defScope s_bridges) := ⟨rfl, rfl, rfl, by decide +kernel, rfl, by decide +kernel, by decide +kernel⟩
def sp_bridges (K : PySem.W.Frag) (z : Ad) : Sp := fun vs H Q _ => ∃ (a b : Addr) (p : Pl) (ns : List Str), vs = [.ref a, .ref b] ∧ PlAt z.C H a p ∧ H b = some (ls ns) ∧ ns.length ≤ 60 ∧ (∀ n ∈ ns, n ∈ p.names) ∧
  ∀ D H' ys, H D = none → Same H H' → H' D = some (ls ys) → (∀ n, n ∈ ys ↔ n ∈ ns ∧ Brg p ns n) → ys.length ≤ ns.length → Q (.ref D) H'
theorem ok_bridges {P : Program} {w : World} {K : PySem.W.Frag} {mg : Str → Option Value} {base : Heap} {z : Ad} (T : Bi mg) (Z : Cx3 K z.C z.CM z.CR) (D : Df K mg "bridges" s_bridges ["plant", "names"]) (c_check_names : Cal P w K mg base 2 "check_names" (sp_check_names K z) []) (c_ring_through : Cal P w K mg base 5 "ring_through" (sp_ring_through K z) []) : Cal P w K mg base 6 "bridges" (sp_bridges K z) [] := by
  have nd := sc_bridges.nd
  refine cal_mk D sc_bridges (by walk_at "len") (fun cdv A outer s H vs Q E f hr h => ⟨_, (pss_cons (ps_expr (pe_c c_check_names hr (by decide) (by rfl) (pa_cons (pv 0) (pa_cons (pv 1) pa_nil))))
    (pss_one (ps_ret (pe_lc (own := [("name", 2)]) rfl nd (pi_list (pe_callB cr_sortedS (by rfl) T.b_sorted (by decide +kernel) (pa_cons (pv 1) pa_nil))) (blkOk_by (own := [("name", 2)]) (N := N_bridges) (sc := defScope s_bridges) (by decide +kernel)) (fun _ _ _ _ _ => (pg_name (i := 2) nd rfl (.inl rfl))) (fun _ _ _ _ _ => pts_one (pt_cmpR op_isNo (pe_c c_ring_through hr (by decide) (by rfl) (pa_cons (pv 0) (pa_cons (pv 1) (pa_cons (pv 2) pa_nil)))) pe_non (nomark _))) (fun _ _ _ _ _ => (pv 2)))))), ?_⟩)
  obtain ⟨a, b, p, ns, rfl, hP, hb, hl, hn, k⟩ := h
  walk_at "go"
  refine ⟨a, b, p, ns, rfl, hP, hb, hl, hn, fun H1 s1 => ?_⟩
  walk_at "go"
  refine g_sortS (s1 _ _ hb) (by omega) fun ys u H2 py _ hu s2 eu => ?_
  have s02 := L2.Same.trans s1 s2
  have hyl := py.length_eq
  have dp : DecidablePred fun y => Brg p ns y := fun _ => Classical.propDecidable _
  refine kLc_filt ys (fun y => Brg p ns y) (SqL.of eu) (by omega) (fun y hy H3 s3 C c1 c2 => ?_) (fun D H3 hD s3 e3 => ?_)
  · have hyn : y ∈ ns := py.mem_iff.mp hy
    obtain ⟨st, hst, rfl⟩ := List.mem_map.mp (hn y hyn)
    have s03 := L2.Same.trans s02 s3
    refine g_name ⟨rfl, ?_⟩
    walk_at "go"
    refine ⟨a, b, p, ns, st, rfl, hP.mono s03, s03 _ _ hb, hl, hn, hst, fun H4 s4 hc => ?_, fun D H4 s4 hc => ?_⟩
    · walk_at "go"
      exact c1 H4 s4 ⟨st, hst, rfl, hc⟩
    · walk_at "go"
      refine c2 H4 s4 fun ⟨s', hs', e, hc'⟩ => hc ?_
      rw [inj_of_nodup hP.1.nm hs' hst e] at hc'
      exact hc'
  · refine k D H3 _ (fresh_of s02 hD) (L2.Same.trans s02 s3) e3 (fun n => ?_) ?_
    · rw [List.mem_filter, py.mem_iff, decide_eq_true_iff]
    · have := List.length_filter_le (fun y => decide (Brg p ns y)) ys
      omega
abbrev s_told_streams : Stmt := top 59
abbrev N_told_streams : List Str := ["plant", "metered"]
theorem sc_told_streams : FnScope N_told_streams ["plant", "metered"] (defScope s_told_streams) := ⟨rfl, rfl, rfl, by decide +kernel, rfl, by decide +kernel, by decide +kernel⟩
def sp_told_streams (K : PySem.W.Frag) (z : Ad) : Sp := fun vs H Q _ => ∃ (a b : Addr) (p : Pl) (ms : List Str), vs = [.ref a, .ref b] ∧ PlAt z.C H a p ∧ H b = some (ls ms) ∧ ms.length ≤ 30 ∧ (∀ n ∈ ms, n ∈ p.names) ∧
  ∀ D H' ys, H D = none → Same H H' → H' D = some (ls ys) → (∀ n, n ∈ ys ↔ n ∈ ms ∨ (n ∈ p.names ∧ n ∉ ms ∧ Brg p (p.names.filter fun n => decide (¬ n ∈ ms)) n)) → ys.length ≤ 60 → Q (.ref D) H'
theorem ok_told_streams {P : Program} {w : World} {K : PySem.W.Frag} {mg : Str → Option Value} {base : Heap} {z : Ad} (T : Bi mg) (Z : Cx3 K z.C z.CM z.CR) (D : Df K mg "told_streams" s_told_streams ["plant", "metered"]) (c_bridges : Cal P w K mg base 6 "bridges" (sp_bridges K z) []) (c_unmetered : Cal P w K mg base 3 "unmetered" (sp_unmetered K z) []) : Cal P w K mg base 7 "told_streams" (sp_told_streams K z) [] := by
  have nd := sc_told_streams.nd
  refine cal_mk D sc_told_streams (by walk_at "len") (fun cdv A outer s H vs Q E f hr h => ⟨_, (pss_one (ps_ret (pe_callB cr_sortedS (by rfl) T.b_sorted (by decide +kernel) (pa_cons (pe_op op_cat (pv 1) (pe_c c_bridges hr (by decide) (by rfl) (pa_cons (pv 0) (pa_cons (pe_c c_unmetered hr (by decide) (by rfl) (pa_cons (pv 0) (pa_cons (pv 1) pa_nil))) pa_nil)))) pa_nil)))), ?_⟩)
  obtain ⟨a, b, p, ms, rfl, hP, hb, hl, hn, k⟩ := h
  have hlen : p.names.length ≤ 30 := by unfold Pl.names; rw [List.length_map]; exact hP.1.sl
  have hfl := List.length_filter_le (fun n => decide (¬ n ∈ ms)) p.names
  walk_at "go"
  refine ⟨a, b, p, ms, rfl, hP, hb, by omega, hn, fun UD H1 hUD s1 e1 => ?_⟩
  walk_at "go"
  refine ⟨a, UD, p, _, rfl, hP.mono s1, e1, by omega, fun n h => (List.mem_filter.mp h).1, fun BD H2 ys hBD s2 e2 hy hyl => ?_⟩
  have s02 := L2.Same.trans s1 s2
  refine g_cat (s02 _ _ hb) e2 (by rw [List.length_map, List.length_map]; omega) fun CD H3 hCD s3 e3 => ?_
  walk_at "go"
  refine g_sortS (ks := ms ++ ys) (by rw [e3]; unfold ls; rw [List.map_append]) (by rw [List.length_append]; omega) fun zs u H4 pz _ hu s4 eu => ?_
  have s03 := L2.Same.trans s02 s3
  refine k u H4 zs (fresh_of s03 hu) (L2.Same.trans s03 s4) eu (fun n => ?_) ?_
  · rw [pz.mem_iff, List.mem_append, hy, List.mem_filter, decide_eq_true_iff, and_assoc]
  · have := pz.length_eq
    rw [List.length_append] at this
    omega
abbrev s__law_row : Stmt := top 61
abbrev N__law_row : List Str := ["_law_cell", "_law_many", "_law_row_here", "_law_rest", "_law_state", "_law_k"]
theorem sc__law_row : FnScope N__law_row ["_law_cell", "_law_many"] (defScope s__law_row) := ⟨rfl, rfl, rfl, by decide +kernel, rfl, by decide +kernel, by decide +kernel⟩
def sp__law_row (K : PySem.W.Frag) (z : Ad) : Sp := fun vs H Q _ => ∃ (c many : Int), vs = [.int c, .int many] ∧ 0 ≤ many ∧ many ≤ 100 ∧ ∀ D H' ns, H D = none → Same H H' → H' D = some (li ns) → ns.length = many.toNat → (∀ n ∈ ns, 0 ≤ n) → Q (.ref D) H'
theorem ok__law_row {P : Program} {w : World} {K : PySem.W.Frag} {mg : Str → Option Value} {base : Heap} {z : Ad} (T : Bi mg) (Z : Cx3 K z.C z.CM z.CR) (D : Df K mg "_law_row" s__law_row ["_law_cell", "_law_many"])  : Cal P w K mg base 1 "_law_row" (sp__law_row K z) [] := by
  have nd := sc__law_row.nd
  refine cal_mk D sc__law_row (by walk_at "len") (fun cdv A outer s H vs Q E f hr h => ⟨_, (pss_cons (ps_set (i := 2) nd rfl (.inl rfl) (pe_lst pa_nil))
    (pss_cons (ps_set (i := 3) nd rfl (.inl rfl) pe_int)
    (pss_cutI (ps_if (pt_cmpR op_ge (pe_callB cr_abs1 (by rfl) T.b_abs (by decide +kernel) (pa_cons (pv 0) pa_nil)) (pe_op op_pow pe_int pe_int) (nomark _))
    (pss_one (ps_set (i := 3) nd rfl (.inl rfl) (pe_callB cr_abs1 (by rfl) T.b_abs (by decide +kernel) (pa_cons (pv 0) pa_nil)))) pss_nil)
    (pss_cons (ps_set (i := 4) nd rfl (.inl rfl) (pe_op op_mod (pe_callTy cr_int1 (by rfl) T.b_int (by decide +kernel) (pa_cons (pe_callB cr_abs1 (by rfl) T.b_abs (by decide +kernel) (pa_cons (pv 0) pa_nil)) pa_nil)) pe_int))
    (pss_cons (ps_for PassesOwn.never rfl (pi_range1 (by rfl) T.b_range (pa_cons (pv 1) pa_nil)) (pg_name (i := 5) nd rfl (.inl rfl))
    (pss_cons (ps_set (i := 4) nd rfl (.inl rfl) (pe_op op_mod (pe_callTy cr_int1 (by rfl) T.b_int (by decide +kernel) (pa_cons (pe_op op_add (pe_op op_mul (pe_op op_add (pv 4) pe_int) pe_int) (pe_op op_mul pe_int (pv 5))) pa_nil)) pe_int))
    (pss_one (ps_if (pt_cmpR op_gt (pv 3) pe_int (nomark _))
    (pss_cons (ps_expr (pe_bm PySem.F.plainAttrs_list PySem.F.slot_list_append PySem.F.type_list_append mt_append (pv 2) (pa_cons (pe_op op_mod (pe_callTy cr_int1 (by rfl) T.b_int (by decide +kernel) (pa_cons (pv 3) pa_nil)) pe_int) pa_nil)))
    (pss_one (ps_set (i := 3) nd rfl (.inl rfl) (pe_op op_fdiv (pv 3) pe_int)))) (pss_one (ps_expr (pe_bm PySem.F.plainAttrs_list PySem.F.slot_list_append PySem.F.type_list_append mt_append (pv 2) (pa_cons (pe_op op_mod (pe_callTy cr_int1 (by rfl) T.b_int (by decide +kernel) (pa_cons (pe_op op_fdiv (pv 4) pe_int) pa_nil)) pe_int) pa_nil))))))))
    (pss_one (ps_ret (pv 2)))))))), ?_⟩)
  obtain ⟨c, many, rfl, h0, h1, k⟩ := h
  walk_at "go"
  refine g_newL (by simp) fun D H1 hD s1 e1 => ?_
  walk_at "go"
  refine g_cut (fun σ' H2 => H2 = H1 ∧ ∃ rest, σ' = [some (.int c), some (.int many), some (.ref D), some (.int rest), none, none]) ?_ (fun σ2 H2 hM => ?_)
  · walk_at "go"
    refine g_rI (C := CPow) ⟨by decide, by decide, by decide⟩ ?_
    walk_at "go"
    refine g_ite (fun _ => ?_) (fun _ => ?_)
    · walk_at "go"
      exact ⟨rfl, _, rfl⟩
    · walk_at "go"
      exact ⟨rfl, _, rfl⟩
  obtain ⟨rfl, rest0, rfl⟩ := hM
  walk_at "go"
  refine kRng_run h0 (by omega) (fun i σ' H' => ∃ (ns : List Int) (rest state : Int) (y5 : Option V), σ' = [some (.int c), some (.int many), some (.ref D), some (.int rest), some (.int state), y5] ∧ Same H H' ∧ H' D = some (li ns) ∧ ns.length = i ∧ ∀ n ∈ ns, 0 ≤ n)
    ⟨[], _, _, _, rfl, s1, e1, rfl, fun _ z => by cases z⟩ (fun i σ' H' hi hI => ?_) (fun σ' H' hI => ?_)
  · obtain ⟨ns, rest, state, y5, rfl, sH, eD, hl, hn⟩ := hI
    refine g_name ?_
    walk_at "go"
    have fin : ∀ (x rest state : Int) (y5 : Option V), 0 ≤ x → (fun σ' H' => ∃ (ns : List Int) (rest state : Int) (y5 : Option V), σ' = [some (.int c), some (.int many), some (.ref D), some (.int rest), some (.int state), y5] ∧ Same H H' ∧ H' D = some (li ns) ∧ ns.length = i + 1 ∧ ∀ n ∈ ns, 0 ≤ n)
        [some (.int c), some (.int many), some (.ref D), some (.int rest), some (.int state), y5] (upd H' D (li (ns ++ [x]))) := fun x rest state y5 hx =>
      ⟨ns ++ [x], rest, state, y5, rfl, sm_chg sH hD, upd_same, by rw [List.length_append, hl]; rfl, fun n h => (List.mem_append.mp h).elim (hn n) fun z => by rw [List.mem_singleton.mp z]; exact hx⟩
    have hln : (ns.map V.int).length < 1000 := by rw [List.length_map]; omega
    refine g_ite (fun hr => ?_) (fun hr => ?_)
    · walk_at "go"
      refine g_append rfl eD ?_
      walk_at "go"
      refine g_kapp eD hln ?_
      rw [li_snoc]
      walk_at "go"
      exact fin _ _ _ _ (Int.emod_nonneg _ (by decide))
    · walk_at "go"
      refine g_append rfl eD ?_
      walk_at "go"
      refine g_kapp eD hln ?_
      rw [li_snoc]
      exact fin _ _ _ _ (Int.emod_nonneg _ (by decide))
  · obtain ⟨ns, rest, state, y5, rfl, sH, eD, hl, hn⟩ := hI
    walk_at "go"
    exact k D H' ns hD sH eD hl hn

end Mh
set_option Elab.async false
set_option linter.all false
set_option maxRecDepth 100000
set_option maxHeartbeats 4000000
namespace Mh
open PySem PySem.Spec PyProof.Rows L2
open C8 (Cal Mak Met pe_c pe_mk pe_mt pe_mt0 pe_gc)
local macro_rules
  | `(tactic| walk_at "hp") => `(tactic| first | assumption | (exact upd_same) | (refine (by assumption : Same _ _) _ _ ?_; first | assumption | (refine (by assumption : Same _ _) _ _ ?_; first | assumption | (refine (by assumption : Same _ _) _ _ ?_; assumption))))
local macro_rules
  | `(tactic| walk_at "go") => `(tactic| repeat (first
    | with_reducible refine g_seq ?_
    | with_reducible refine g_asg ?_
    | with_reducible refine g_name ?_
    | with_reducible refine g_ret ?_
    | with_reducible refine g_retN ?_
    | with_reducible refine g_next ?_
    | with_reducible refine g_break ?_
    | with_reducible refine g_drop ?_
    | with_reducible refine g_if ?_
    | ((with_reducible show tVar _ _ _ _); refine g_var rfl ?_)
    | with_reducible refine g_c ?_
    | with_reducible refine g_op ?_
    | with_reducible refine g_un ?_
    | with_reducible refine g_test ?_
    | with_reducible refine g_tB ?_
    | with_reducible refine g_exb ?_
    | with_reducible refine g_exbi ?_
    | with_reducible refine g_and ?_
    | with_reducible refine g_or ?_
    | with_reducible refine g_not ?_
    | with_reducible refine g_tIf ?_
    | with_reducible refine g_andV ?_
    | with_reducible refine g_chain ?_
    | with_reducible refine g_chain3 ?_
    | with_reducible refine g_rI0 ?_
    | with_reducible refine g_rU ?_
    | with_reducible refine g_eqI ?_
    | with_reducible refine g_neI ?_
    | with_reducible refine g_eqS ?_
    | with_reducible refine g_neS ?_
    | with_reducible refine g_isNoR ?_
    | with_reducible refine g_isNoN ?_
    | with_reducible refine g_isNoS ?_
    | with_reducible refine g_notNoR ?_
    | with_reducible refine g_notNoS ?_
    | with_reducible refine g_notNoN ?_
    | with_reducible refine g_nil ?_
    | with_reducible refine g_cons ?_
    | with_reducible refine g_cb ?_
    | with_reducible refine g_call ?_
    | with_reducible refine g_tup ?_
    | with_reducible refine g_lst ?_
    | with_reducible refine g_dget ?_
    | with_reducible refine g_din ?_
    | with_reducible refine g_dnin ?_
    | with_reducible refine g_dput ?_
    | with_reducible refine g_daug ?_
    | with_reducible refine g_rAdd ?_
    | with_reducible refine g_rSub ?_
    | with_reducible refine g_tcons ?_
    | with_reducible refine g_tnil ?_
    | with_reducible refine g_forL ?_
    | with_reducible refine g_lc ?_
    | with_reducible refine g_dc ?_
    | with_reducible refine g_yes ?_
    | with_reducible refine g_ipI ?_
    | ((with_reducible show tAug _ _ _ _ _ _); refine g_aug rfl ?_)
    | with_reducible refine g_revL ?_
    | with_reducible refine g_sfld ?_
    | with_reducible refine g_abs ?_
    | with_reducible refine g_maxI ?_
    | with_reducible refine g_minI ?_
    | with_reducible refine g_int1 ?_
    | ((with_reducible refine g_modP ?_ ?_); (focus decide))
    | ((with_reducible refine g_fdivP ?_ ?_ ?_); (focus decide); (focus decide))
    | ((with_reducible refine g_mulL ?_ ?_ ?_); (focus decide); (focus decide))
    | ((with_reducible refine g_mulR ?_ ?_ ?_); (focus decide); (focus decide))
    | with_reducible refine g_forR ?_
    | with_reducible refine g_slice ?_
    | with_reducible refine g_nopart ?_
    | with_reducible refine g_part ?_
    | with_reducible refine g_partI ?_
    | with_reducible refine g_intB ?_
    | with_reducible refine g_nT ?_
    | with_reducible refine g_nF ?_
    | with_reducible refine g_T ?_
    | with_reducible refine g_F ?_))
local macro_rules
  | `(tactic| walk_at "len") => `(tactic| (intro vs H Q E h; first | (obtain ⟨e, _⟩ := h; rw [e]; rfl) | (obtain ⟨_, e, _⟩ := h; rw [e]; rfl) | (obtain ⟨_, _, e, _⟩ := h; rw [e]; rfl) | (obtain ⟨_, _, _, e, _⟩ := h; rw [e]; rfl) | (obtain ⟨_, _, _, _, e, _⟩ := h; rw [e]; rfl) | (obtain ⟨_, _, _, _, _, e, _⟩ := h; rw [e]; rfl) | (obtain ⟨_, _, _, _, _, _, e, _⟩ := h; rw [e]; rfl) | (obtain ⟨_, _, _, _, _, _, _, e, _⟩ := h; rw [e]; rfl) | (obtain ⟨_, _, _, _, _, _, _, _, e, _⟩ := h; rw [e]; rfl) | (obtain ⟨_, _, _, _, _, _, _, _, _, e, _⟩ := h; rw [e]; rfl) | (obtain ⟨_, _, _, _, _, _, _, _, _, _, e, _⟩ := h; rw [e]; rfl) | (obtain ⟨_, _, _, _, _, _, _, _, _, _, _, e, _⟩ := h; rw [e]; rfl) | (obtain ⟨_, _, _, _, _, _, _, _, _, _, _, _, e, _⟩ := h; rw [e]; rfl) | (obtain ⟨_, _, _, _, _, _, _, _, _, _, _, _, _, e, _⟩ := h; rw [e]; rfl) | (obtain ⟨_, _, _, _, _, _, _, _, _, _, _, _, _, _, e, _⟩ := h; rw [e]; rfl) | (obtain ⟨_, _, _, _, _, _, _, _, _, _, _, _, _, _, _, e, _⟩ := h; rw [e]; rfl)))
local macro_rules
  | `(tactic| walk_at "nf") => `(tactic| try simp only [L2.start, List.map_cons, List.map_nil, List.length_cons, List.length_nil, List.drop_succ_cons, List.drop_zero, List.replicate_succ, List.replicate_zero, List.cons_append, List.nil_append, List.set_cons_succ, List.set_cons_zero, Nat.reduceAdd, Nat.reduceSub])
abbrev s__law_numbers : Stmt := top 62
abbrev N__law_numbers : List Str := ["_law_script", "_law_many", "_law_cells", "_law_each", "_law_numbers_here", "_law_cell", "_law_number"]
theorem sc__law_numbers : FnScope N__law_numbers ["_law_script", "_law_many"] (defScope s__law_numbers) := ⟨rfl, rfl, rfl, by decide +kernel, rfl, by decide +kernel, by decide +kernel⟩
def sp__law_numbers (K : PySem.W.Frag) (z : Ad) : Sp := fun vs H Q _ => ∃ (a : Addr) (ns : List Int), vs = [.ref a, .int 60] ∧ SqL K H a (ns.map V.int) ∧ ∀ D H' ms, H D = none → Same H H' → H' D = some (li ms) → ms.length = 60 → (∀ n ∈ ms, 0 ≤ n) → Q (.ref D) H'
theorem ok__law_numbers {P : Program} {w : World} {K : PySem.W.Frag} {mg : Str → Option Value} {base : Heap} {z : Ad} (T : Bi mg) (Z : Cx3 K z.C z.CM z.CR) (D : Df K mg "_law_numbers" s__law_numbers ["_law_script", "_law_many"]) (c__law_row : Cal P w K mg base 1 "_law_row" (sp__law_row K z) []) : Cal P w K mg base 2 "_law_numbers" (sp__law_numbers K z) [] := by
  have nd := sc__law_numbers.nd
  refine cal_mk D sc__law_numbers (by walk_at "len") (fun cdv A outer s H vs Q E f hr h => ⟨_, (pss_cons (ps_set (i := 2) nd rfl (.inl rfl) (pe_slice sl_list (pv 0) po_none (po_some pe_int)))
    (pss_cons (ps_set (i := 3) nd rfl (.inl rfl) (pe_op op_add pe_int (pe_op op_fdiv (pv 1) (pe_callB (cr_maxI rfl) (by rfl) T.b_max (by decide +kernel) (pa_cons pe_int (pa_cons (pe_callB (cr_lenQ (K := K) rfl) (by rfl) T.b_len (by decide +kernel) (pa_cons (pv 2) pa_nil)) pa_nil))))))
    (pss_cons (ps_set (i := 4) nd rfl (.inl rfl) (pe_lst pa_nil))
    (pss_cons (ps_for PassesOwn.never rfl (pi_list (pv 2)) (pg_name (i := 5) nd rfl (.inl rfl))
    (pss_one (ps_for PassesOwn.never rfl (pi_list (pe_c c__law_row hr (by decide) (by rfl) (pa_cons (pv 5) (pa_cons (pv 3) pa_nil)))) (pg_name (i := 6) nd rfl (.inl rfl))
    (pss_one (ps_expr (pe_bm PySem.F.plainAttrs_list PySem.F.slot_list_append PySem.F.type_list_append mt_append (pv 4) (pa_cons (pv 6) pa_nil)))))))
    (pss_cons (ps_while PassesOwn.never (pt_cmpR op_lt (pe_callB (cr_lenQ (K := K) rfl) (by rfl) T.b_len (by decide +kernel) (pa_cons (pv 4) pa_nil)) (pv 1) (nomark _))
    (pss_one (ps_expr (pe_bm PySem.F.plainAttrs_list PySem.F.slot_list_append PySem.F.type_list_append mt_append (pv 4) (pa_cons pe_int pa_nil)))))
    (pss_one (ps_ret (pe_slice sl_list (pv 4) po_none (po_some (pv 1)))))))))), ?_⟩)
  obtain ⟨a, ns, rfl, ha, k⟩ := h
  walk_at "go"
  refine g_cutQ ha fun C H1 hC s1 e1 => ?_
  rw [show (63 : Int) = ((63 : Nat) : Int) from rfl, cut_upto] at e1
  have hcl : (ns.take 63).length ≤ 63 := by rw [List.length_take]; omega
  generalize ns.take 63 = cs at *
  walk_at "go"
  refine g_lenL e1 ?_
  rw [List.length_map]
  walk_at "go"
  have hd : ∃ d : Int, d = (if (cs.length : Int) > 1 then (cs.length : Int) else 1) ∧ 1 ≤ d ∧ (cs.length : Int) ≤ d ∧ d ≤ 63 := ⟨_, rfl, by split <;> omega, by split <;> omega, by split <;> omega⟩
  obtain ⟨d, ed, d1, d2, d3⟩ := hd
  rw [← ed]
  refine g_fdivP (by omega) (by omega) ?_
  walk_at "go"
  have e0 : 0 ≤ (60 : Int) / d := Int.ediv_nonneg (by omega) (by omega)
  have e60 : (60 : Int) / d ≤ 60 := Int.ediv_le_self _ (by omega)
  have emul : d * ((60 : Int) / d) ≤ 60 := Int.mul_ediv_self_le (by omega)
  have etot : (cs.length : Int) * (1 + 60 / d) ≤ 123 := by
    have h1 : (cs.length : Int) * (60 / d) ≤ d * (60 / d) := Int.mul_le_mul_of_nonneg_right d2 e0
    have h2 : (cs.length : Int) * (1 + 60 / d) = cs.length + cs.length * (60 / d) := by rw [Int.mul_add, Int.mul_one]
    omega
  generalize (60 : Int) / d = q60 at *
  refine g_newL (by simp) fun N H2 hN s2 e2 => ?_
  walk_at "go"
  have s02 := L2.Same.trans s1 s2
  have hN0 : H N = none := fresh_of s1 hN
  have nCN : C ≠ N := ne_of_none e1 hN
  refine kFor_run cs V.int (SqL.of (s2 _ _ e1)) (fun d σ' H' => ∃ (ms : List Int) (y5 y6 : Option V), σ' = [some (.ref a), some (.int 60), some (.ref C), some (.int (1 + q60)), some (.ref N), y5, y6] ∧ But [N] H2 H' ∧ H' N = some (li ms) ∧ (ms.length : Int) = d.length * (1 + q60) ∧ ∀ n ∈ ms, 0 ≤ n)
    ⟨[], _, _, rfl, But.refl _ _, e2, by simp, fun _ z => by cases z⟩ (fun d σ' H' ⟨ms, y5, y6, _, bt, _⟩ => SqL.of (bt _ _ (by simpa using nCN) (s2 _ _ e1))) (fun d y r σ' H' hL hI => ?_) (fun σ' H' hI => ?_)
  · obtain ⟨ms, y5, y6, rfl, bt, eN, hml, hms⟩ := hI
    have hdl : (d.length : Int) + 1 ≤ cs.length := by rw [hL, List.length_append, List.length_cons]; omega
    have hbig : ((d.length : Int) + 1) * (1 + q60) ≤ 123 := Int.le_trans (Int.mul_le_mul_of_nonneg_right hdl (by omega)) etot
    refine g_name ?_
    walk_at "go"
    refine ⟨y, 1 + q60, rfl, by omega, by omega, fun RD H3 rs hRD s3 e3 hrl hrs => ?_⟩
    have nRN : RD ≠ N := (ne_of_none eN hRD).symm
    have hsum : (ms.length : Int) + rs.length = (d.length + 1) * (1 + q60) := by rw [Int.add_mul, Int.one_mul, ← hml]; omega
    refine kFor_run rs V.int (SqL.of e3) (fun d2 σ' H' => ∃ (ms2 : List Int) (y6 : Option V), σ' = [some (.ref a), some (.int 60), some (.ref C), some (.int (1 + q60)), some (.ref N), some (.int y), y6] ∧ But [N] H3 H' ∧ H' N = some (li ms2) ∧ ms2.length = ms.length + d2.length ∧ ∀ n ∈ ms2, 0 ≤ n)
      ⟨ms, _, rfl, But.refl _ _, s3 _ _ eN, rfl, hms⟩ (fun d2 σ' H' ⟨ms2, y6, _, bt2, _⟩ => SqL.of (bt2 _ _ (by simpa using nRN) e3)) (fun d2 w r2 σ' H' hL2 hI => ?_) (fun σ' H' hI => ?_)
    · obtain ⟨ms2, y6, rfl, bt2, eN2, hl2, hm2⟩ := hI
      have hw : w ∈ rs := by rw [hL2]; exact List.mem_append_right _ List.mem_cons_self
      have hd2 : d2.length + 1 ≤ rs.length := by rw [hL2, List.length_append, List.length_cons]; omega
      refine g_name ?_
      walk_at "go"
      refine g_append rfl eN2 ?_
      walk_at "go"
      refine g_kapp eN2 (by rw [List.length_map]; omega) ?_
      rw [li_snoc]
      exact ⟨ms2 ++ [w], _, rfl, bt2.trans (But.upd (by simp)), upd_same, by rw [List.length_append, List.length_append, hl2]; simp; omega, fun n h => (List.mem_append.mp h).elim (hm2 n) fun z => by rw [List.mem_singleton.mp z]; exact hrs w hw⟩
    · obtain ⟨ms2, y6, rfl, bt2, eN2, hl2, hm2⟩ := hI
      refine ⟨ms2, _, _, rfl, bt.trans ((But.of s3).trans bt2), eN2, ?_, hm2⟩
      rw [hl2, show ((d ++ [y]).length : Int) = (d.length : Int) + 1 by simp]
      omega
  · obtain ⟨ms, y5, y6, rfl, bt, eN, hml, hms⟩ := hI
    rw [← hml] at etot
    walk_at "go"
    refine g_while (fun m σ' H' => ∃ (ms : List Int), m = 60 - ms.length ∧ σ' = [some (.ref a), some (.int 60), some (.ref C), some (.int (1 + q60)), some (.ref N), y5, y6] ∧ But [N] H2 H' ∧ H' N = some (li ms) ∧ ms.length ≤ 123 ∧ ∀ n ∈ ms, 0 ≤ n)
      _ ⟨ms, rfl, rfl, bt, eN, by omega, hms⟩ (fun m σ' H' hW => ?_) (fun σ H R R' i q => ?_)
    · obtain ⟨ms, rfl, rfl, bt, eN, hml, hms⟩ := hW
      walk_at "go"
      refine g_lenL eN ?_
      rw [List.length_map]
      walk_at "go"
      refine g_ite (fun hlt => ?_) (fun hge => ?_)
      · walk_at "go"
        refine g_append rfl eN ?_
        walk_at "go"
        refine g_kapp eN (by rw [List.length_map]; omega) ?_
        rw [li_snoc]
        exact ⟨60 - (ms ++ [0]).length, by rw [List.length_append, List.length_singleton]; omega, ms ++ [0], rfl, rfl, bt.trans (But.upd (by simp)), upd_same, by rw [List.length_append, List.length_singleton]; omega, fun n h => (List.mem_append.mp h).elim (hms n) fun z => by rw [List.mem_singleton.mp z]; decide⟩
      · walk_at "go"
        have sH := bt.same s02 (by intro x hx; rw [List.mem_singleton.mp hx]; exact hN0)
        refine g_cutL eN fun D H4 hD s4 e4 => ?_
        rw [show (60 : Int) = ((60 : Nat) : Int) from rfl, cut_upto] at e4
        exact k D H4 (ms.take 60) (fresh_of sH hD) (L2.Same.trans sH s4) e4 (by rw [List.length_take]; omega) fun n h => hms n (List.mem_of_mem_take h)
    · obtain ⟨v1, e1, p, ys, e3, h4, v2, e2, m, n, e5, e6, k1, e7, q⟩ := q
      exact ⟨v1, e1, p, ys, e3, h4, v2, e2, m, n, e5, e6, k1, e7, i _ _ q⟩
def allK : List Str := ["a", "b", "cc", "d4"]
def nmK : Nat → Str | 0 => "st" | 1 => "sz" | 2 => "sb" | 3 => "sm" | _ => "sa"
theorem allK_ok : allK.Nodup ∧ ∀ t ∈ allK, nameOk t := by
  unfold allK nameOk
  decide +kernel
theorem nmK_ok4 : ∀ k, k < 5 → nameOk (nmK k) := by unfold nameOk; decide +kernel
theorem nmK_inj : ∀ j, j < 5 → ∀ i, i < j → nmK i ≠ nmK j := by decide +kernel
def chK : Nat → Nat | 0 => 116 | 1 => 122 | 2 => 98 | 3 => 109 | _ => 97
theorem chK_at : ∀ k : Nat, k < 5 → atI ("tzbma" : Str).cps.toList (k : Int) = some (chK k) := by decide +kernel
theorem chK_nm : ∀ k : Nat, k < 5 → ("s" : Str) ++ (⟨#[chK k]⟩ : Str) = nmK k := by decide +kernel
theorem nmK_nd : ∀ n, n ≤ 5 → ((List.range n).map nmK).Nodup := by decide +kernel
section
variable {K : PySem.W.Frag} {H : Hp} {Q : VK}
theorem g_ixS {k : Nat} (hk : k < 5) (q : Q (.str ⟨#[chK k]⟩) H) : rIxS (.str "tzbma") (.int (k : Int)) H Q := ⟨_, _, _, rfl, rfl, by decide +kernel, chK_at k hk, q⟩
theorem g_addZ {k : Nat} (hk : k < 5) (q : Q (.str (nmK k)) H) : rAddZ (.str "s") (.str ⟨#[chK k]⟩) H Q := ⟨_, _, rfl, rfl, by show 1 + 1 ≤ _; decide, by rw [chK_nm k hk]; exact q⟩
theorem g_ixI {p : Addr} {ns : List Int} {i : Int} (h : H p = some (li ns)) (h0 : 0 ≤ i) (h1 : i < ns.length) (q : ∀ x, x ∈ ns → Q (.int x) H) : rIxL K (.ref p) (.int i) H Q := by
  obtain ⟨j, rfl⟩ : ∃ j : Nat, i = (j : Int) := ⟨i.toNat, by omega⟩
  have hj : j < ns.length := by omega
  exact g_ixL h (atI_nat (by rw [List.getElem?_map, List.getElem?_eq_getElem hj]; rfl)) (q _ (List.getElem_mem hj))
theorem g_ixZ {p : Addr} {ts : List Str} {i : Int} (h : H p = some (ls ts)) (h0 : 0 ≤ i) (h1 : i < ts.length) (q : ∀ x, x ∈ ts → Q (.str x) H) : rIxL K (.ref p) (.int i) H Q := by
  obtain ⟨j, rfl⟩ : ∃ j : Nat, i = (j : Int) := ⟨i.toNat, by omega⟩
  have hj : j < ts.length := by omega
  exact g_ixL h (atI_nat (by rw [List.getElem?_map, List.getElem?_eq_getElem hj]; rfl)) (q _ (List.getElem_mem hj))
end
abbrev s__law_small : Stmt := top 63
abbrev N__law_small : List Str := ["_law_numbers_here", "_law_at", "_law_knots", "_law_streams", "_law_k", "_law_place", "_law_low", "_law_high"]
theorem sc__law_small : FnScope N__law_small ["_law_numbers_here", "_law_at"] (defScope s__law_small) := ⟨rfl, rfl, rfl, by decide +kernel, rfl, by decide +kernel, by decide +kernel⟩
structure SmlOk (kn : List Str) (ss : List Stm) : Prop where
  k1 : 1 ≤ kn.length
  k4 : kn.length ≤ 4
  nk : kn.Nodup
  ko : ∀ t ∈ kn, nameOk t
  s5 : ss.length ≤ 5
  so : ∀ s ∈ ss, stmOk kn s
  sn : ∀ s ∈ ss, nameOk s.nm
  nd : (ss.map (·.nm)).Nodup
def sp__law_small (K : PySem.W.Frag) (z : Ad) : Sp := fun vs H Q _ => ∃ (a : Addr) (ns : List Int), vs = [.ref a, .int 0] ∧ H a = some (li ns) ∧ ns.length = 60 ∧ (∀ n ∈ ns, 0 ≤ n) ∧
  ∀ D H' ka sa kn ss, H D = none → Same H H' → H' D = some (.tup [.ref ka, .ref sa]) → H' ka = some (ls kn) → Tups Stm.row H' sa ss → SmlOk kn ss → Q (.ref D) H'
theorem ok__law_small {P : Program} {w : World} {K : PySem.W.Frag} {mg : Str → Option Value} {base : Heap} {z : Ad} (T : Bi mg) (Z : Cx3 K z.C z.CM z.CR) (D : Df K mg "_law_small" s__law_small ["_law_numbers_here", "_law_at"])  : Cal P w K mg base 1 "_law_small" (sp__law_small K z) [] := by
  have nd := sc__law_small.nd
  refine cal_mk D sc__law_small (by walk_at "len") (fun cdv A outer s H vs Q E f hr h => ⟨_, (pss_cons (ps_set (i := 2) nd rfl (.inl rfl) (pe_slice sl_list (pe_lst (pa_cons pe_str (pa_cons pe_str (pa_cons pe_str (pa_cons pe_str pa_nil))))) po_none (po_some (pe_op op_add pe_int (pe_op op_mod (pe_callTy cr_int1 (by rfl) T.b_int (by decide +kernel) (pa_cons (pe_ix (ix_listK (K := K) rfl) (pv 0) (pv 1) (fun _ _ => rfl)) pa_nil)) pe_int)))))
    (pss_cons (ps_set (i := 3) nd rfl (.inl rfl) (pe_lst pa_nil))
    (pss_cons (ps_for PassesOwn.never rfl (pi_range1 (by rfl) T.b_range (pa_cons (pe_op op_mod (pe_callTy cr_int1 (by rfl) T.b_int (by decide +kernel) (pa_cons (pe_ix (ix_listK (K := K) rfl) (pv 0) (pe_op op_add (pv 1) pe_int) (fun _ _ => rfl)) pa_nil)) pe_int) pa_nil)) (pg_name (i := 4) nd rfl (.inl rfl))
    (pss_cons (ps_set (i := 5) nd rfl (.inl rfl) (pe_op op_add (pe_op op_add (pv 1) pe_int) (pe_op op_mul pe_int (pv 4))))
    (pss_cons (ps_set (i := 6) nd rfl (.inl rfl) (pe_op op_fdiv (pe_op op_mul (pe_op op_mod (pe_callTy cr_int1 (by rfl) T.b_int (by decide +kernel) (pa_cons (pe_ix (ix_listK (K := K) rfl) (pv 0) (pe_op op_add (pv 5) pe_int) (fun _ _ => rfl)) pa_nil)) pe_int) (pe_callTy cr_int1 (by rfl) T.b_int (by decide +kernel) (pa_cons (pe_cmpR op_eq (pe_op op_mod (pe_callTy cr_int1 (by rfl) T.b_int (by decide +kernel) (pa_cons (pe_ix (ix_listK (K := K) rfl) (pv 0) (pe_op op_add (pv 5) pe_int) (fun _ _ => rfl)) pa_nil)) pe_int) pe_int (nomark _)) pa_nil))) pe_int))
    (pss_cons (ps_set (i := 7) nd rfl (.inl rfl) (pe_op op_add (pv 6) (pe_op op_mod (pe_callTy cr_int1 (by rfl) T.b_int (by decide +kernel) (pa_cons (pe_ix (ix_listK (K := K) rfl) (pv 0) (pe_op op_add (pv 5) pe_int) (fun _ _ => rfl)) pa_nil)) pe_int)))
    (pss_one (ps_expr (pe_bm PySem.F.plainAttrs_list PySem.F.slot_list_append PySem.F.type_list_append mt_append (pv 3) (pa_cons (pe_tup (pa_cons (pe_op op_addZ pe_str (pe_ix ix_str pe_str (pv 4) (fun _ _ => rfl))) (pa_cons (pe_ix (ix_listK (K := K) rfl) (pv 2) (pe_op op_mod (pe_callTy cr_int1 (by rfl) T.b_int (by decide +kernel) (pa_cons (pe_ix (ix_listK (K := K) rfl) (pv 0) (pv 5) (fun _ _ => rfl)) pa_nil)) (pe_callB (cr_lenQ (K := K) rfl) (by rfl) T.b_len (by decide +kernel) (pa_cons (pv 2) pa_nil))) (fun _ _ => rfl)) (pa_cons (pe_ix (ix_listK (K := K) rfl) (pv 2) (pe_op op_mod (pe_callTy cr_int1 (by rfl) T.b_int (by decide +kernel) (pa_cons (pe_ix (ix_listK (K := K) rfl) (pv 0) (pe_op op_add (pv 5) pe_int) (fun _ _ => rfl)) pa_nil)) (pe_callB (cr_lenQ (K := K) rfl) (by rfl) T.b_len (by decide +kernel) (pa_cons (pv 2) pa_nil))) (fun _ _ => rfl)) (pa_cons (pv 6) (pa_cons (pv 7) pa_nil)))))) pa_nil))))))))
    (pss_one (ps_ret (pe_tup (pa_cons (pv 2) (pa_cons (pv 3) pa_nil)))))))), ?_⟩)
  obtain ⟨a, ns, rfl, ha, hl, hn, k⟩ := h
  have hz : ∀ i : Int, 0 ≤ i → i < 60 → 0 ≤ i ∧ i < (ns.length : Int) := fun i h1 h2 => ⟨h1, by omega⟩
  walk_at "go"
  refine g_newL (by simp) fun C H1 hC s1 e1 => ?_
  walk_at "go"
  refine g_ixI (s1 _ _ ha) (by decide) (by omega) fun x0 _ => ?_
  walk_at "go"
  have hc : ∃ c : Nat, (1 + x0 % 4 : Int) = (c : Int) ∧ 1 ≤ c ∧ c ≤ 4 := ⟨(1 + x0 % 4).toNat, by omega, by omega, by omega⟩
  obtain ⟨c, ec, c1, c4⟩ := hc
  rw [ec]
  refine g_cutL e1 fun KD H2 hKD s2 e2 => ?_
  rw [show [V.str "a", V.str "b", V.str "cc", V.str "d4"] = allK.map V.str from rfl, cut_upto] at e2
  have kl : (allK.take c).length = c := by rw [List.length_take]; show min c 4 = c; omega
  have knd : (allK.take c).Nodup := List.Nodup.sublist (List.take_sublist _ _) allK_ok.1
  have kok : ∀ t ∈ allK.take c, nameOk t := fun t h => allK_ok.2 t (List.mem_of_mem_take h)
  generalize allK.take c = kn at *
  walk_at "go"
  refine g_newL (by simp) fun S H3 hS s3 e3 => ?_
  walk_at "go"
  have s02 := L2.Same.trans s1 s2
  have s03 := L2.Same.trans s02 s3
  have hS0 : H S = none := fresh_of s02 hS
  refine g_ixI (s03 _ _ ha) (by decide) (by omega) fun x1 _ => ?_
  walk_at "go"
  have nKS : KD ≠ S := ne_of_none e2 hS
  have naS : a ≠ S := ne_of_none (s02 _ _ ha) hS
  refine kRng_run (Int.emod_nonneg _ (by decide)) (by omega) (fun i σ' H' => ∃ (ss : List Stm) (y4 y5 y6 y7 : Option V), σ' = [some (.ref a), some (.int 0), some (.ref KD), some (.ref S), y4, y5, y6, y7] ∧ But [S] H3 H' ∧ Tups Stm.row H' S ss ∧ ss.length = i ∧ (∀ s ∈ ss, stmOk kn s) ∧ ss.map (·.nm) = (List.range i).map nmK)
    ⟨[], _, _, _, _, rfl, But.refl _ _, ⟨[], rfl, e3, fun _ z => by cases z⟩, rfl, (fun _ z => by cases z), rfl⟩ (fun i σ' H' hi hI => ?_) (fun σ' H' hI => ?_)
  · obtain ⟨ss, y4, y5, y6, y7, rfl, bt, tS, hsl, hso, hnm⟩ := hI
    have hi5 : i < 5 := by have := Int.emod_lt_of_pos x1 (show (0 : Int) < 6 by decide); omega
    have ea : H' a = some (li ns) := bt _ _ (by simpa using naS) (s03 _ _ ha)
    have ek : H' KD = some (ls kn) := bt _ _ (by simpa using nKS) (s3 _ _ e2)
    refine g_name ?_
    walk_at "go"
    refine g_ixI ea (by omega) (by omega) fun x2 h2 => ?_
    walk_at "go"
    refine g_ixI ea (by omega) (by omega) fun x3 h3 => ?_
    walk_at "go"
    generalize hb : (if decide (x3 % 4 = 0) = true then (1 : Int) else 0) = b
    have hb01 : 0 ≤ b ∧ b ≤ 1 := by rw [← hb]; split <;> omega
    refine g_mulR (by omega) (by omega) ?_
    walk_at "go"
    have hlow : ∃ lw : Int, lw = x2 % 5 * b / 2 ∧ 0 ≤ lw ∧ lw ≤ 2 := by
      refine ⟨_, rfl, ?_⟩
      have : b = 0 ∨ b = 1 := by omega
      rcases this with rfl | rfl <;> omega
    obtain ⟨lw, elw, lw0, lw2⟩ := hlow
    rw [← elw]
    refine g_ixI ea (by omega) (by omega) fun x4 h4 => ?_
    walk_at "go"
    obtain ⟨vs, ev⟩ := tS.lst
    refine g_append rfl ev ?_
    walk_at "go"
    refine g_ixS hi5 ?_
    refine g_addZ hi5 ?_
    walk_at "go"
    refine g_ixI ea (by omega) (by omega) fun x5 h5 => ?_
    walk_at "go"
    refine g_lenL ek ?_
    rw [List.length_map]
    have hkp : (0 : Int) < kn.length := by omega
    refine g_modP hkp ?_
    refine g_ixZ ek (Int.emod_nonneg _ (by omega)) (Int.emod_lt_of_pos _ hkp) fun tl htl => ?_
    walk_at "go"
    refine g_ixI ea (by omega) (by omega) fun x6 h6 => ?_
    walk_at "go"
    refine g_lenL ek ?_
    rw [List.length_map]
    refine g_modP hkp ?_
    refine g_ixZ ek (Int.emod_nonneg _ (by omega)) (Int.emod_lt_of_pos _ hkp) fun hd hhd => ?_
    walk_at "go"
    refine g_newT (by simp) fun r H4 hr4 s4 e4 => ?_
    refine g_kappT (row := Stm.row) (y := (⟨nmK i, tl, hd, lw, lw + x4 % 3⟩ : Stm)) (tS.mono s4) e4 (by omega) fun H5 t5 b5 _ => ?_
    refine ⟨_, _, _, _, _, rfl, bt.trans ((But.of s4).trans b5), t5, by rw [List.length_append, hsl]; rfl, fun s hs => ?_, ?_⟩
    · rcases List.mem_append.mp hs with z | z
      · exact hso s z
      · rw [List.mem_singleton.mp z]
        refine ⟨htl, hhd, lw0, ?_, ?_⟩
        · show lw ≤ lw + x4 % 3
          omega
        · show lw + x4 % 3 ≤ 1000000
          omega
    · rw [List.map_append, hnm, List.range_succ, List.map_append]
      rfl
  · obtain ⟨ss, y4, y5, y6, y7, rfl, bt, tS, hsl, hso, hnm⟩ := hI
    have sH := bt.same s03 (by intro x hx; rw [List.mem_singleton.mp hx]; exact hS0)
    walk_at "go"
    have hlt := Int.emod_lt_of_pos x1 (show (0 : Int) < 6 by decide)
    refine g_newT (by simp) fun D H5 hD s5 e5 => ?_
    refine k D H5 KD S kn ss (fresh_of sH hD) (L2.Same.trans sH s5) e5 (s5 _ _ (bt _ _ (by simpa using nKS) (s3 _ _ e2))) (tS.mono s5) ⟨by omega, by omega, knd, kok, by omega, hso, fun s hs => ?_, ?_⟩
    · have h1 : s.nm ∈ (List.range (x1 % 6).toNat).map nmK := by rw [← hnm]; exact List.mem_map.mpr ⟨s, hs, rfl⟩
      obtain ⟨i, hi, e⟩ := List.mem_map.mp h1
      rw [← e]
      have := List.mem_range.mp hi
      exact nmK_ok4 i (by omega)
    · rw [hnm]
      exact nmK_nd _ (by omega)
abbrev s__law_within : Stmt := top 70
abbrev N__law_within : List Str := ["_law_inner", "_law_outer", "_law_name"]
theorem sc__law_within : FnScope N__law_within ["_law_inner", "_law_outer"] (defScope s__law_within) := ⟨rfl, rfl, rfl, by decide +kernel, rfl, by decide +kernel, by decide +kernel⟩
def sp__law_within (K : PySem.W.Frag) (z : Ad) : Sp := fun vs H Q _ => ∃ v w, vs = [v, w] ∧ ((v = .non ∧ Q (.bl true) H) ∨ ∃ (a b : Addr) (ks : List Str) (l h l' h' : Str → Int), v = .ref a ∧ w = .ref b ∧ a ≠ b ∧ LimAt H a ks l h ∧ LimAt H b ks l' h' ∧ ks.length ≤ 30 ∧ (∀ n ∈ ks, l' n ≤ l n ∧ h n ≤ h' n) ∧ ∀ H', Same H H' → Q (.bl true) H')
theorem ok__law_within {P : Program} {w : World} {K : PySem.W.Frag} {mg : Str → Option Value} {base : Heap} {z : Ad} (T : Bi mg) (Z : Cx3 K z.C z.CM z.CR) (D : Df K mg "_law_within" s__law_within ["_law_inner", "_law_outer"])  : Cal P w K mg base 1 "_law_within" (sp__law_within K z) [] := by
  have nd := sc__law_within.nd
  refine cal_mk D sc__law_within (by walk_at "len") (fun cdv A outer s H vs Q E f hr h => ⟨_, (pss_cons (ps_if (pt_cmpR op_isNo (pv 0) pe_non (nomark _))
    (pss_one (ps_ret pe_bl)) pss_nil)
    (pss_cons (ps_if (pt_cmpR op_isNo (pv 1) pe_non (nomark _))
    (pss_one (ps_ret pe_bl)) pss_nil)
    (pss_one (ps_ret (pe_callB (cr_allK (K := K) rfl rfl) (by rfl) T.b_all (by decide +kernel) (pa_cons (pe_lock (pe_lc (own := [("_law_name", 2)]) rfl nd (pi_keys (pv 0)) (blkOk_by (own := [("_law_name", 2)]) (N := N__law_within) (sc := defScope s__law_within) (by decide +kernel)) (fun _ _ _ _ _ => (pg_name (i := 2) nd rfl (.inl rfl))) (fun _ _ _ _ _ => pts_nil) (fun _ _ _ _ _ => (pe_and (pe_cmpR op_le (pe_ix (ix_tupK (K := K) rfl) (pe_dget (hu_of hr) (pv 1) (pv 2) (fun _ _ => rfl)) pe_int (fun _ _ => rfl)) (pe_ix (ix_tupK (K := K) rfl) (pe_dget (hu_of hr) (pv 0) (pv 2) (fun _ _ => rfl)) pe_int (fun _ _ => rfl)) (nomark _)) (pe_one (pe_cmpR op_le (pe_ix (ix_tupK (K := K) rfl) (pe_dget (hu_of hr) (pv 0) (pv 2) (fun _ _ => rfl)) pe_int (fun _ _ => rfl)) (pe_ix (ix_tupK (K := K) rfl) (pe_dget (hu_of hr) (pv 1) (pv 2) (fun _ _ => rfl)) pe_int (fun _ _ => rfl)) (nomark _))))))) pa_nil)))))), ?_⟩)
  obtain ⟨v, w, rfl, h⟩ := h
  rcases h with ⟨rfl, k⟩ | ⟨a, b, ks, l, h, l', h', rfl, rfl, nab, ⟨ra, ha, hat⟩, ⟨rb, hb, hbt⟩, hl, hle, k⟩
  · walk_at "go"
    exact k
  walk_at "go"
  refine g_lcKeys rfl ha (by omega) (fun _ => some (.bl true)) (fun y hy H1 lk C cc => ?_) (fun D H1 hD s1 e1 => ?_)
  · have hb1 := lk.1 _ _ nab.symm hb
    have ta := lk.1 _ _ (ne_of (hat y hy) ha (by intro z; cases z)) (hat y hy)
    have tb := lk.1 _ _ (ne_of (hbt y hy) ha (by intro z; cases z)) (hbt y hy)
    obtain ⟨q1, q2⟩ := hle y hy
    refine g_name ⟨rfl, ?_⟩
    walk_at "go"
    refine g_kgetR (.inl hb1) hy ?_
    walk_at "go"
    refine g_ixT tb rfl ?_
    walk_at "go"
    refine g_kgetR lk.2 hy ?_
    walk_at "go"
    refine g_ixT ta rfl ?_
    walk_at "go"
    refine g_iteT q1 ?_
    walk_at "go"
    refine g_kgetR lk.2 hy ?_
    walk_at "go"
    refine g_ixT ta rfl ?_
    walk_at "go"
    refine g_kgetR (.inl hb1) hy ?_
    walk_at "go"
    refine g_ixT tb rfl ?_
    walk_at "go"
    rw [decide_eq_true q2]
    exact cc H1 (Same.refl _)
  · walk_at "go"
    refine g_allB (b := fun _ => true) e1 ?_
    rw [show (ks.all fun _ => true) = true from List.all_eq_true.mpr fun _ _ => rfl]
    walk_at "go"
    exact k H1 s1
abbrev s__law_metered : Stmt := top 64
abbrev N__law_metered : List Str := ["_law_numbers_here", "_law_at", "_law_streams", "_law_found", "_law_k"]
theorem sc__law_metered : FnScope N__law_metered ["_law_numbers_here", "_law_at", "_law_streams"] (defScope s__law_metered) := ⟨rfl, rfl, rfl, by decide +kernel, rfl, by decide +kernel, by decide +kernel⟩
def sp__law_metered (K : PySem.W.Frag) (z : Ad) : Sp := fun vs H Q _ => ∃ (a sa : Addr) (ns : List Int) (ss : List Stm), vs = [.ref a, .int 30, .ref sa] ∧ H a = some (li ns) ∧ ns.length = 60 ∧ (∀ n ∈ ns, 0 ≤ n) ∧ Tups Stm.row H sa ss ∧ ss.length ≤ 5 ∧ (ss.map (·.nm)).Nodup ∧
  ∀ D H' R, H D = none → Same H H' → RdAt H' D R → R.ks.Nodup → (∀ n ∈ R.ks, n ∈ ss.map (·.nm)) → (∀ n ∈ R.ks, 0 ≤ R.nu n ∧ R.nu n ≤ 5 ∧ 0 ≤ R.to n ∧ R.to n ≤ 1) → Q (.ref D) H'
theorem ok__law_metered {P : Program} {w : World} {K : PySem.W.Frag} {mg : Str → Option Value} {base : Heap} {z : Ad} (T : Bi mg) (Z : Cx3 K z.C z.CM z.CR) (D : Df K mg "_law_metered" s__law_metered ["_law_numbers_here", "_law_at", "_law_streams"])  : Cal P w K mg base 1 "_law_metered" (sp__law_metered K z) [] := by
  have nd := sc__law_metered.nd
  refine cal_mk D sc__law_metered (by walk_at "len") (fun cdv A outer s H vs Q E f hr h => ⟨_, (pss_cons (ps_set (i := 3) nd rfl (.inl rfl) pe_dnewK)
    (pss_cons (ps_for PassesOwn.never rfl (pi_range1 (by rfl) T.b_range (pa_cons (pe_callB (cr_lenQ (K := K) rfl) (by rfl) T.b_len (by decide +kernel) (pa_cons (pv 2) pa_nil)) pa_nil)) (pg_name (i := 4) nd rfl (.inl rfl))
    (pss_one (ps_if (pt_cmpR op_gt (pe_op op_mod (pe_callTy cr_int1 (by rfl) T.b_int (by decide +kernel) (pa_cons (pe_ix (ix_listK (K := K) rfl) (pv 0) (pe_op op_add (pv 1) (pe_op op_mul pe_int (pv 4))) (fun _ _ => rfl)) pa_nil)) pe_int) pe_int (nomark _))
    (pss_one (ps_dput (hu_of hr) (pv 3) (pe_ix (ix_tupK (K := K) rfl) (pe_ix (ix_listK (K := K) rfl) (pv 2) (pv 4) (fun _ _ => rfl)) pe_int (fun _ _ => rfl)) (pe_tup (pa_cons (pe_op op_mod (pe_callTy cr_int1 (by rfl) T.b_int (by decide +kernel) (pa_cons (pe_ix (ix_listK (K := K) rfl) (pv 0) (pe_op op_add (pe_op op_add (pv 1) (pe_op op_mul pe_int (pv 4))) pe_int) (fun _ _ => rfl)) pa_nil)) pe_int) (pa_cons (pe_op op_mod (pe_op op_fdiv (pe_callTy cr_int1 (by rfl) T.b_int (by decide +kernel) (pa_cons (pe_ix (ix_listK (K := K) rfl) (pv 0) (pe_op op_add (pe_op op_add (pv 1) (pe_op op_mul pe_int (pv 4))) pe_int) (fun _ _ => rfl)) pa_nil)) pe_int) pe_int) pa_nil))) rfl)) pss_nil)))
    (pss_one (ps_ret (pv 3))))), ?_⟩)
  obtain ⟨a, sa, ns, ss, rfl, ha, hl, hn, ⟨L, hL, eL, hT⟩, hs5, hnd, k⟩ := h
  rw [rf_fst] at eL
  have hLl : L.length ≤ 5 := by rw [← hL, List.length_map] at hs5; exact hs5
  have hndL : (L.map fun q => q.2.nm).Nodup := by rw [← hL, List.map_map] at hnd; exact hnd
  walk_at "go"
  refine g_dnew (fun n => .ref 0) fun D H1 hD s1 e1 => ?_
  walk_at "go"
  refine g_lenL (s1 _ _ eL) ?_
  rw [List.length_map]
  walk_at "go"
  refine kRng_run (by omega) (by omega) (fun i σ' H' => ∃ (R : Rdg) (y4 : Option V), σ' = [some (.ref a), some (.int 30), some (.ref sa), some (.ref D), y4] ∧ Same H H' ∧ RdAt H' D R ∧ R.ks.Nodup ∧ (∀ n ∈ R.ks, n ∈ (L.take i).map fun q => q.2.nm) ∧ ∀ n ∈ R.ks, 0 ≤ R.nu n ∧ R.nu n ≤ 5 ∧ 0 ≤ R.to n ∧ R.to n ≤ 1)
    ⟨⟨[], fun _ => 0, fun _ => 0⟩, _, rfl, s1, ⟨fun _ => 0, e1, fun _ z => by cases z⟩, List.nodup_nil, (fun _ z => by cases z), fun _ z => by cases z⟩ (fun i σ' H' hi hI => ?_) (fun σ' H' hI => ?_)
  · obtain ⟨R, y4, rfl, sH, hR, hRn, hRm, hRr⟩ := hI
    have hiL : i < L.length := by omega
    have hq : L[i]? = some L[i] := List.getElem?_eq_getElem hiL
    generalize L[i] = q at hq
    have hqL : q ∈ L := List.mem_of_getElem? hq
    have htk : L.take (i + 1) = L.take i ++ [q] := take_suc hq
    have hsub : ∀ n ∈ (L.take i).map (fun q => q.2.nm), n ∈ (L.take (i + 1)).map fun q => q.2.nm := fun n h => by rw [htk, List.map_append]; exact List.mem_append_left _ h
    have hnew : q.2.nm ∉ R.ks := fun z => by
      have h1 := hRm _ z
      have h2 := hndL
      rw [take_dec hq, List.map_append, List.map_cons] at h2
      exact (List.nodup_append.mp h2).2.2 _ h1 _ List.mem_cons_self rfl
    have ea := sH _ _ ha
    refine g_name ?_
    walk_at "go"
    refine g_ixI ea (by omega) (by omega) fun x1 h1 => ?_
    walk_at "go"
    refine g_ite (fun hgt => ?_) (fun hle => ?_)
    · walk_at "go"
      refine g_ixI ea (by omega) (by omega) fun x2 h2 => ?_
      walk_at "go"
      refine g_ixI ea (by omega) (by omega) fun x3 h3 => ?_
      walk_at "go"
      refine g_newT (by simp) fun t H2 ht s2 e2 => ?_
      walk_at "go"
      have sH2 := L2.Same.trans sH s2
      refine g_ixL (v := .ref q.1) (sH2 _ _ eL) (atI_nat (by rw [List.getElem?_map, hq]; rfl)) ?_
      walk_at "go"
      refine g_ixT (sH2 _ _ (hT q hqL)) rfl ?_
      have eqs : ∀ n ∈ R.ks, fup R.nu q.2.nm (x2 % 6) n = R.nu n ∧ fup R.to q.2.nm (x3 / 8 % 2) n = R.to n := fun n hn => by
        have : n ≠ q.2.nm := fun z => hnew (z ▸ hn)
        unfold fup
        rw [if_neg this, if_neg this]
        exact ⟨rfl, rfl⟩
      obtain ⟨val, ev, lm2⟩ := lim_add (lo := fup R.nu q.2.nm (x2 % 6)) (hi := fup R.to q.2.nm (x3 / 8 % 2)) ((hR.mono s2).congr eqs) hnew (by rw [fup_at, fup_at]; exact e2)
      have hkl : R.ks.length < 1000 := by
        have := nodup_len hRn hRm
        rw [List.length_map, List.length_take] at this
        omega
      refine g_kput ev hkl ?_
      rw [ins_new hnew]
      refine ⟨⟨R.ks ++ [q.2.nm], fup R.nu q.2.nm (x2 % 6), fup R.to q.2.nm (x3 / 8 % 2)⟩, _, rfl, sm_chg sH2 hD, lm2, L2.nd_snoc hRn hnew, fun n hn => ?_, fun n hn => ?_⟩
      · rcases List.mem_append.mp hn with z | z
        · exact hsub n (hRm n z)
        · rw [List.mem_singleton.mp z, htk, List.map_append]; exact List.mem_append_right _ List.mem_cons_self
      · rcases List.mem_append.mp hn with z | z
        · show 0 ≤ fup R.nu q.2.nm (x2 % 6) n ∧ fup R.nu q.2.nm (x2 % 6) n ≤ 5 ∧ 0 ≤ fup R.to q.2.nm (x3 / 8 % 2) n ∧ fup R.to q.2.nm (x3 / 8 % 2) n ≤ 1
          rw [(eqs n z).1, (eqs n z).2]; exact hRr n z
        · rw [List.mem_singleton.mp z]
          show 0 ≤ fup R.nu q.2.nm (x2 % 6) q.2.nm ∧ fup R.nu q.2.nm (x2 % 6) q.2.nm ≤ 5 ∧ 0 ≤ fup R.to q.2.nm (x3 / 8 % 2) q.2.nm ∧ fup R.to q.2.nm (x3 / 8 % 2) q.2.nm ≤ 1
          rw [fup_at, fup_at]
          omega
    · walk_at "go"
      exact ⟨R, _, rfl, sH, hR, hRn, fun n h => hsub n (hRm n h), hRr⟩
  · obtain ⟨R, y4, rfl, sH, hR, hRn, hRm, hRr⟩ := hI
    walk_at "go"
    refine k D H' R hD sH hR hRn (fun n h => ?_) hRr
    have h1 := hRm n h
    rw [List.take_of_length_le (by omega)] at h1
    rw [← hL, List.map_map]
    exact h1

end Mh
set_option Elab.async false
set_option linter.all false
set_option maxRecDepth 100000
set_option maxHeartbeats 4000000
namespace Mh
open PySem PySem.Spec PyProof.Rows L2
open C8 (Cal Mak Met pe_c pe_mk pe_mt pe_mt0 pe_gc)
local macro_rules
  | `(tactic| walk_at "hp") => `(tactic| first | assumption | (exact upd_same) | (refine (by assumption : Same _ _) _ _ ?_; first | assumption | (refine (by assumption : Same _ _) _ _ ?_; first | assumption | (refine (by assumption : Same _ _) _ _ ?_; assumption))))
local macro_rules
  | `(tactic| walk_at "go") => `(tactic| repeat (first
    | with_reducible refine g_seq ?_
    | with_reducible refine g_asg ?_
    | with_reducible refine g_name ?_
    | with_reducible refine g_ret ?_
    | with_reducible refine g_retN ?_
    | with_reducible refine g_next ?_
    | with_reducible refine g_break ?_
    | with_reducible refine g_drop ?_
    | with_reducible refine g_if ?_
    | ((with_reducible show tVar _ _ _ _); refine g_var rfl ?_)
    | with_reducible refine g_c ?_
    | with_reducible refine g_op ?_
    | with_reducible refine g_un ?_
    | with_reducible refine g_test ?_
    | with_reducible refine g_tB ?_
    | with_reducible refine g_exb ?_
    | with_reducible refine g_exbi ?_
    | with_reducible refine g_and ?_
    | with_reducible refine g_or ?_
    | with_reducible refine g_not ?_
    | with_reducible refine g_tIf ?_
    | with_reducible refine g_andV ?_
    | with_reducible refine g_chain ?_
    | with_reducible refine g_chain3 ?_
    | with_reducible refine g_rI0 ?_
    | with_reducible refine g_rU ?_
    | with_reducible refine g_eqI ?_
    | with_reducible refine g_neI ?_
    | with_reducible refine g_eqS ?_
    | with_reducible refine g_neS ?_
    | with_reducible refine g_isNoR ?_
    | with_reducible refine g_isNoN ?_
    | with_reducible refine g_isNoS ?_
    | with_reducible refine g_notNoR ?_
    | with_reducible refine g_notNoS ?_
    | with_reducible refine g_notNoN ?_
    | with_reducible refine g_nil ?_
    | with_reducible refine g_cons ?_
    | with_reducible refine g_cb ?_
    | with_reducible refine g_call ?_
    | with_reducible refine g_tup ?_
    | with_reducible refine g_lst ?_
    | with_reducible refine g_dget ?_
    | with_reducible refine g_din ?_
    | with_reducible refine g_dnin ?_
    | with_reducible refine g_dput ?_
    | with_reducible refine g_daug ?_
    | with_reducible refine g_rAdd ?_
    | with_reducible refine g_rSub ?_
    | with_reducible refine g_tcons ?_
    | with_reducible refine g_tnil ?_
    | with_reducible refine g_forL ?_
    | with_reducible refine g_lc ?_
    | with_reducible refine g_dc ?_
    | with_reducible refine g_yes ?_
    | with_reducible refine g_ipI ?_
    | ((with_reducible show tAug _ _ _ _ _ _); refine g_aug rfl ?_)
    | with_reducible refine g_revL ?_
    | with_reducible refine g_sfld ?_
    | with_reducible refine g_abs ?_
    | with_reducible refine g_maxI ?_
    | with_reducible refine g_minI ?_
    | with_reducible refine g_int1 ?_
    | ((with_reducible refine g_modP ?_ ?_); (focus decide))
    | ((with_reducible refine g_fdivP ?_ ?_ ?_); (focus decide); (focus decide))
    | ((with_reducible refine g_mulL ?_ ?_ ?_); (focus decide); (focus decide))
    | ((with_reducible refine g_mulR ?_ ?_ ?_); (focus decide); (focus decide))
    | with_reducible refine g_forR ?_
    | with_reducible refine g_slice ?_
    | with_reducible refine g_nopart ?_
    | with_reducible refine g_part ?_
    | with_reducible refine g_partI ?_
    | with_reducible refine g_intB ?_
    | with_reducible refine g_nT ?_
    | with_reducible refine g_nF ?_
    | with_reducible refine g_T ?_
    | with_reducible refine g_F ?_))
local macro_rules
  | `(tactic| walk_at "len") => `(tactic| (intro vs H Q E h; first | (obtain ⟨e, _⟩ := h; rw [e]; rfl) | (obtain ⟨_, e, _⟩ := h; rw [e]; rfl) | (obtain ⟨_, _, e, _⟩ := h; rw [e]; rfl) | (obtain ⟨_, _, _, e, _⟩ := h; rw [e]; rfl) | (obtain ⟨_, _, _, _, e, _⟩ := h; rw [e]; rfl) | (obtain ⟨_, _, _, _, _, e, _⟩ := h; rw [e]; rfl) | (obtain ⟨_, _, _, _, _, _, e, _⟩ := h; rw [e]; rfl) | (obtain ⟨_, _, _, _, _, _, _, e, _⟩ := h; rw [e]; rfl) | (obtain ⟨_, _, _, _, _, _, _, _, e, _⟩ := h; rw [e]; rfl) | (obtain ⟨_, _, _, _, _, _, _, _, _, e, _⟩ := h; rw [e]; rfl) | (obtain ⟨_, _, _, _, _, _, _, _, _, _, e, _⟩ := h; rw [e]; rfl) | (obtain ⟨_, _, _, _, _, _, _, _, _, _, _, e, _⟩ := h; rw [e]; rfl) | (obtain ⟨_, _, _, _, _, _, _, _, _, _, _, _, e, _⟩ := h; rw [e]; rfl) | (obtain ⟨_, _, _, _, _, _, _, _, _, _, _, _, _, e, _⟩ := h; rw [e]; rfl) | (obtain ⟨_, _, _, _, _, _, _, _, _, _, _, _, _, _, e, _⟩ := h; rw [e]; rfl) | (obtain ⟨_, _, _, _, _, _, _, _, _, _, _, _, _, _, _, e, _⟩ := h; rw [e]; rfl)))
local macro_rules
  | `(tactic| walk_at "nf") => `(tactic| try simp only [L2.start, List.map_cons, List.map_nil, List.length_cons, List.length_nil, List.drop_succ_cons, List.drop_zero, List.replicate_succ, List.replicate_zero, List.cons_append, List.nil_append, List.set_cons_succ, List.set_cons_zero, Nat.reduceAdd, Nat.reduceSub])
theorem lim_put {H : Hp} {a q : Addr} {ks : List Str} {lo hi : Str → Int} {n : Str} {x y : Int} (h : LimAt H a ks lo hi) (hq : H q = some (.tup [.int x, .int y])) :
    ∃ val, H a = some (dk ks val) ∧ LimAt (upd H a (dk (ins ks n) (fup val n (.ref q)))) a (ins ks n) (fup lo n x) (fup hi n y) := by
  obtain ⟨r, h1, h2⟩ := h
  refine ⟨_, h1, fup r n q, ?_, fun m hm => ?_⟩
  · rw [upd_same]
    congr 1
    refine dk_congr fun k _ => ?_
    unfold fup
    split <;> rfl
  · have nt : ∀ b xs, H b = some (.tup xs) → b ≠ a := fun b xs e => ne_of e h1 (by intro z; cases z)
    unfold fup
    by_cases z : m = n
    · rw [if_pos z, if_pos z, if_pos z, upd_ne (nt _ _ hq)]; exact hq
    · rw [if_neg z, if_neg z, if_neg z]
      have hk : m ∈ ks := (mem_ins.mp hm).resolve_right z
      rw [upd_ne (nt _ _ (h2 m hk))]; exact h2 m hk
def Rdg.put (R : Rdg) (n : Str) (x y : Int) : Rdg := ⟨ins R.ks n, fup R.nu n x, fup R.to n y⟩
section
variable {p : Pl} {R : Rdg} {n m : Str} {x y : Int} {f : Str → Int}
theorem fup_ne {α : Type} {g : Str → α} {v : α} (h : m ≠ n) : fup g n v m = g m := by unfold fup; rw [if_neg h]
theorem Rdg.put_ok (h : R.Ok p) (hn : n ∈ p.names) (hx : 0 ≤ x ∧ x ≤ 1000000) (hy : 0 ≤ y ∧ y ≤ 1000000) : (R.put n x y).Ok p := by
  refine ⟨nd_ins h.nd, fun m hm => (mem_ins.mp hm).elim (h.sub m) fun e => e ▸ hn, fun m hm => ?_⟩
  show 0 ≤ fup R.nu n x m ∧ fup R.nu n x m ≤ 1000000 ∧ 0 ≤ fup R.to n y m ∧ fup R.to n y m ≤ 1000000
  by_cases z : m = n
  · rw [z, fup_at, fup_at]; exact ⟨hx.1, hx.2, hy.1, hy.2⟩
  · rw [fup_ne z, fup_ne z]; exact h.rng m ((mem_ins.mp hm).resolve_right z)
theorem put_lo (z : m ≠ n) : (R.put n x y).lo p m = R.lo p m := by
  unfold Rdg.lo
  have e : m ∈ (R.put n x y).ks ↔ m ∈ R.ks := ⟨fun h => (mem_ins.mp h).resolve_right z, fun h => mem_ins.mpr (.inl h)⟩
  have e1 : (R.put n x y).nu m = R.nu m := fup_ne z
  have e2 : (R.put n x y).to m = R.to m := fup_ne z
  rw [e1, e2]
  by_cases q : m ∈ R.ks
  · rw [if_pos q, if_pos (e.mpr q)]
  · rw [if_neg q, if_neg fun h => q (e.mp h)]
theorem put_hi (z : m ≠ n) : (R.put n x y).hi p m = R.hi p m := by
  unfold Rdg.hi
  have e : m ∈ (R.put n x y).ks ↔ m ∈ R.ks := ⟨fun h => (mem_ins.mp h).resolve_right z, fun h => mem_ins.mpr (.inl h)⟩
  have e1 : (R.put n x y).nu m = R.nu m := fup_ne z
  have e2 : (R.put n x y).to m = R.to m := fup_ne z
  rw [e1, e2]
  by_cases q : m ∈ R.ks
  · rw [if_pos q, if_pos (e.mpr q)]
  · rw [if_neg q, if_neg fun h => q (e.mp h)]
theorem put_lo_at : (R.put n x y).lo p n = if x - y > p.low n then x - y else p.low n := by
  unfold Rdg.lo
  have e1 : (R.put n x y).nu n = x := fup_at _ _ _
  have e2 : (R.put n x y).to n = y := fup_at _ _ _
  have hm : n ∈ (R.put n x y).ks := mem_ins.mpr (.inr rfl)
  rw [if_pos hm, e1, e2]
theorem put_hi_at : (R.put n x y).hi p n = if x + y < p.high n then x + y else p.high n := by
  unfold Rdg.hi
  have e1 : (R.put n x y).nu n = x := fup_at _ _ _
  have e2 : (R.put n x y).to n = y := fup_at _ _ _
  have hm : n ∈ (R.put n x y).ks := mem_ins.mpr (.inr rfl)
  rw [if_pos hm, e1, e2]
/-- one reading more -/
theorem agr_more (hn : n ∉ R.ks) (h : Agr p (R.put n x y) f) : Agr p R f := feas_sub (fun m _ => by
  by_cases z : m = n
  · subst z
    have h1 : R.lo p m = p.low m := by unfold Rdg.lo; exact if_neg hn
    have h2 : R.hi p m = p.high m := by unfold Rdg.hi; exact if_neg hn
    rw [h1, h2]
    exact ⟨Rdg.lo_ge, Rdg.hi_le⟩
  · rw [put_lo z, put_hi z]
    exact ⟨Int.le_refl _, Int.le_refl _⟩) h
/-- a tolerance made greater -/
theorem agr_wide (hn : n ∈ R.ks) (hy : R.to n ≤ y) (h : Agr p R f) : Agr p (R.put n (R.nu n) y) f := feas_sub (fun m _ => by
  by_cases z : m = n
  · subst z
    rw [put_lo_at, put_hi_at]
    unfold Rdg.lo Rdg.hi
    rw [if_pos hn, if_pos hn]
    constructor <;> split <;> split <;> omega
  · rw [put_lo z, put_hi z]
    exact ⟨Int.le_refl _, Int.le_refl _⟩) h
/-- readings from flows that agree -/
theorem agr_from {R2 : Rdg} {f g : Str → Int} (hf : Agr p R f) (e0 : ∀ n ∈ R.ks, n ∈ R2.ks ∧ R2.nu n = R.nu n ∧ R2.to n = R.to n) (e1 : ∀ n ∈ R2.ks, n ∉ R.ks → R2.nu n = f n ∧ 0 ≤ R2.to n) : Agr p R2 f ∧ (Agr p R2 g → Agr p R g) := by
  constructor
  · refine ⟨fun m hm => ?_, hf.2⟩
    have hb := hf.1 m hm
    by_cases z : m ∈ R.ks
    · obtain ⟨q1, q2, q3⟩ := e0 m z
      unfold Rdg.lo Rdg.hi at hb ⊢
      rw [if_pos z, if_pos z] at hb
      rw [if_pos q1, if_pos q1, q2, q3]
      exact hb
    · have hl : R.lo p m = p.low m := by unfold Rdg.lo; exact if_neg z
      have hh : R.hi p m = p.high m := by unfold Rdg.hi; exact if_neg z
      rw [hl, hh] at hb
      unfold Rdg.lo Rdg.hi
      by_cases z2 : m ∈ R2.ks
      · obtain ⟨q1, q2⟩ := e1 m z2 z
        rw [if_pos z2, if_pos z2, q1]
        constructor <;> split <;> omega
      · rw [if_neg z2, if_neg z2]; exact hb
  · refine feas_sub fun m _ => ?_
    by_cases z : m ∈ R.ks
    · obtain ⟨q1, q2, q3⟩ := e0 m z
      unfold Rdg.lo Rdg.hi
      rw [if_pos z, if_pos z, if_pos q1, if_pos q1, q2, q3]
      exact ⟨Int.le_refl _, Int.le_refl _⟩
    · have hl : R.lo p m = p.low m := by unfold Rdg.lo; exact if_neg z
      have hh : R.hi p m = p.high m := by unfold Rdg.hi; exact if_neg z
      rw [hl, hh]
      exact ⟨Rdg.lo_ge, Rdg.hi_le⟩
theorem IsRg.le {lo hi lo' hi' : Str → Int} {l h l' h' : Int} (i : IsRg p lo hi n l h) (i' : IsRg p lo' hi' n l' h') (s : ∀ f, Feas p lo hi f → Feas p lo' hi' f) : l' ≤ l ∧ h ≤ h' := by
  obtain ⟨f1, a1, b1⟩ := i.atL
  obtain ⟨f2, a2, b2⟩ := i.atH
  have c1 := i'.bd f1 (s f1 a1)
  have c2 := i'.bd f2 (s f2 a2)
  omega
theorem IsRg.eq {lo hi lo' hi' : Str → Int} {l h l' h' : Int} (i : IsRg p lo hi n l h) (i' : IsRg p lo' hi' n l' h') (s : ∀ f, Feas p lo hi f ↔ Feas p lo' hi' f) : l' = l ∧ h' = h := by
  have h1 := i.le i' fun f => (s f).mp
  have h2 := i'.le i fun f => (s f).mpr
  omega
end
/-- the value of ranges_of -/
def RV (p : Pl) (R : Rdg) (H : Hp) (v : V) : Prop := (v = .non ∧ ∀ g, ¬ Agr p R g) ∨ ∃ D l h, v = .ref D ∧ LimAt H D p.names l h ∧ (∃ f, Agr p R f) ∧ ∀ n ∈ p.names, IsRg p (R.lo p) (R.hi p) n (l n) (h n)
theorem RV.mono {p : Pl} {R : Rdg} {H H' : Hp} {v : V} (h : RV p R H v) (e : Same H H') : RV p R H' v := h.imp id fun ⟨D, l, h, a, b, c⟩ => ⟨D, l, h, a, b.mono e, c⟩
section
variable {K : PySem.W.Frag} {z : Ad} {H : Hp} {Q : VK} {E : XK} {p : Pl} {R R2 : Rdg} {x b : Addr} {v w : V}
/-- a call of ranges_of, both ends at once -/
theorem g_ranges (hP : PlAt z.C H x p) (hR : RdAt H b R) (ok : R.Ok p) (k : ∀ v H', Same H H' → RV p R H' v → (∀ D, v = .ref D → H D = none) → Q v H') : sp_ranges_of K z [.ref x, .ref b] H Q E :=
  ⟨x, b, p, R, rfl, hP, hR, ok, fun H' s hno => k _ H' s (.inl ⟨rfl, hno⟩) (fun _ e => by cases e), fun D H' l h hD s lm hf hI => k _ H' s (.inr ⟨D, l, h, rfl, lm, hf, hI⟩) (fun D' e => by cases e; exact hD)⟩
/-- ranges within ranges -/
theorem g_within (hl : p.names.length ≤ 30) (h1 : RV p R H v) (h2 : RV p R2 H w) (ne : ∀ a b, v = .ref a → w = .ref b → a ≠ b) (s : ∀ f, Agr p R f → Agr p R2 f) (k : ∀ H', Same H H' → Q (.bl true) H') : sp__law_within K z [v, w] H Q E := by
  refine ⟨v, w, rfl, ?_⟩
  rcases h1 with ⟨e, _⟩ | ⟨D, l, h, e, lm, ⟨f, hf⟩, hI⟩
  · exact .inl ⟨e, k H (Same.refl _)⟩
  · rcases h2 with ⟨_, hno⟩ | ⟨D2, l2, hh2, e2, lm2, _, hI2⟩
    · exact absurd (s f hf) (hno f)
    · exact .inr ⟨D, D2, p.names, l, h, l2, hh2, e, e2, ne _ _ e e2, lm, lm2, hl, fun n hn => (hI n hn).le (hI2 n hn) s, k⟩
end
theorem nm_strOk {t : Str} (h : nameOk t) : PyData.strOk t = true := by
  unfold PyData.strOk
  rw [← Array.all_toList, List.all_eq_true]
  intro c hc
  have h1 := h.2.2 c hc
  have h2 : ∀ c ∈ letters.cps.toList, c < 1114112 := by decide +kernel
  exact decide_eq_true (h2 c h1)
theorem told_mono {p : Pl} {ks ys ys2 zs zs2 : List Str} {nm : Str} (h1 : ∀ n, n ∈ ys ↔ n ∈ ks) (h2 : ∀ n, n ∈ ys2 ↔ n ∈ ks ∨ n = nm)
    (a : ∀ n, n ∈ zs ↔ n ∈ ys ∨ (n ∈ p.names ∧ n ∉ ys ∧ Brg p (p.names.filter fun n => decide (¬ n ∈ ys)) n)) (b : ∀ n, n ∈ zs2 ↔ n ∈ ys2 ∨ (n ∈ p.names ∧ n ∉ ys2 ∧ Brg p (p.names.filter fun n => decide (¬ n ∈ ys2)) n)) :
    (∀ n ∈ zs, n ∈ zs2) ∧ nm ∈ zs2 := by
  constructor
  · intro n hn
    rw [b]
    by_cases c : n ∈ ys2
    · exact .inl c
    · rcases (a n).mp hn with q | ⟨q1, q2, q3⟩
      · exact absurd ((h2 n).mpr (.inl ((h1 n).mp q))) c
      · refine .inr ⟨q1, c, q3.mono fun m hm => ?_⟩
        obtain ⟨r1, r2⟩ := List.mem_filter.mp hm
        exact List.mem_filter.mpr ⟨r1, decide_eq_true fun y => of_decide_eq_true r2 ((h2 m).mpr (.inl ((h1 m).mp y)))⟩
  · rw [b]
    exact .inl ((h2 nm).mpr (.inr rfl))
theorem pop_dk (ks : List Str) (val : Str → V) (n : Str) : HO.dK (dropK (ks.map fun k => ((Sum.inr k : Key), val k)) (Sum.inr n)) = dk (ks.filter fun k => !decide (k = n)) val := by
  unfold dk dropK
  rw [List.filter_map]
  congr 2
  refine List.filter_congr fun k _ => ?_
  show decide ((Sum.inr k : Key) ≠ Sum.inr n) = !decide (k = n)
  by_cases h : k = n
  · subst h; simp
  · have : (Sum.inr k : Key) ≠ Sum.inr n := fun z => h (Sum.inr.inj z)
    simp [h, this]
section
variable {K : PySem.W.Frag} {σ : L2.St} {H : Hp} {Q : VK} {i j : Nat}
theorem share {A B : Prop} (r : A → B) (a : A) : B := r a
theorem g_dpop {d : Addr} {ks : List Str} {val : Str → V} {n : Str} (hv : σ[i]? = some (some (.ref d))) (hw : σ[j]? = some (some (.str n))) (h : H d = some (dk ks val)) (hn : n ∈ ks) (q : Q (val n) (upd H d (dk (ks.filter fun k => !decide (k = n)) val))) : tDPop1 (tVar i) (tVar j) σ H Q :=
  ⟨_, hv, d, rfl, .inl ⟨_, .inl h⟩, _, hw, _, Sum.inr n, val n, h, rfl, by rw [valV_dk, if_pos hn], by rw [pop_dk]; exact q⟩
theorem g_neDD {a b : Addr} {ks : List Str} {l h l' h' : Str → Int} (ha : LimAt H a ks l h) (hb : LimAt H b ks l' h') (hn : ks.Nodup) (e : ∀ n ∈ ks, l' n = l n ∧ h' n = h n) (q : Q (.bl false) H) : rNeDD (.ref a) (.ref b) H Q := by
  obtain ⟨r, h1, h2⟩ := ha
  obtain ⟨r', h3, h4⟩ := hb
  refine ⟨a, b, ks, r, r', rfl, rfl, h1, h3, fun n hn => ⟨l n, h n, h2 n hn, ?_⟩, q⟩
  have := h4 n hn
  rw [(e n hn).1, (e n hn).2] at this
  exact this
end

end Mh
set_option Elab.async false
set_option linter.all false
set_option maxRecDepth 100000
set_option maxHeartbeats 4000000
namespace Mh
open PySem PySem.Spec PyProof.Rows L2
open C8 (Cal Mak Met pe_c pe_mk pe_mt pe_mt0 pe_gc)
local macro_rules
  | `(tactic| walk_at "hp") => `(tactic| first | assumption | (exact upd_same) | (refine (by assumption : Same _ _) _ _ ?_; first | assumption | (refine (by assumption : Same _ _) _ _ ?_; first | assumption | (refine (by assumption : Same _ _) _ _ ?_; assumption))))
local macro_rules
  | `(tactic| walk_at "go") => `(tactic| repeat (first
    | with_reducible refine g_seq ?_
    | with_reducible refine g_asg ?_
    | with_reducible refine g_name ?_
    | with_reducible refine g_ret ?_
    | with_reducible refine g_retN ?_
    | with_reducible refine g_next ?_
    | with_reducible refine g_break ?_
    | with_reducible refine g_drop ?_
    | with_reducible refine g_if ?_
    | ((with_reducible show tVar _ _ _ _); refine g_var rfl ?_)
    | with_reducible refine g_c ?_
    | with_reducible refine g_op ?_
    | with_reducible refine g_un ?_
    | with_reducible refine g_test ?_
    | with_reducible refine g_tB ?_
    | with_reducible refine g_exb ?_
    | with_reducible refine g_exbi ?_
    | with_reducible refine g_and ?_
    | with_reducible refine g_or ?_
    | with_reducible refine g_not ?_
    | with_reducible refine g_tIf ?_
    | with_reducible refine g_andV ?_
    | with_reducible refine g_chain ?_
    | with_reducible refine g_chain3 ?_
    | with_reducible refine g_rI0 ?_
    | with_reducible refine g_rU ?_
    | with_reducible refine g_eqI ?_
    | with_reducible refine g_neI ?_
    | with_reducible refine g_eqS ?_
    | with_reducible refine g_neS ?_
    | with_reducible refine g_isNoR ?_
    | with_reducible refine g_isNoN ?_
    | with_reducible refine g_isNoS ?_
    | with_reducible refine g_notNoR ?_
    | with_reducible refine g_notNoS ?_
    | with_reducible refine g_notNoN ?_
    | with_reducible refine g_nil ?_
    | with_reducible refine g_cons ?_
    | with_reducible refine g_cb ?_
    | with_reducible refine g_call ?_
    | with_reducible refine g_tup ?_
    | with_reducible refine g_lst ?_
    | with_reducible refine g_dget ?_
    | with_reducible refine g_din ?_
    | with_reducible refine g_dnin ?_
    | with_reducible refine g_dput ?_
    | with_reducible refine g_daug ?_
    | with_reducible refine g_rAdd ?_
    | with_reducible refine g_rSub ?_
    | with_reducible refine g_tcons ?_
    | with_reducible refine g_tnil ?_
    | with_reducible refine g_forL ?_
    | with_reducible refine g_lc ?_
    | with_reducible refine g_dc ?_
    | with_reducible refine g_yes ?_
    | with_reducible refine g_ipI ?_
    | ((with_reducible show tAug _ _ _ _ _ _); refine g_aug rfl ?_)
    | with_reducible refine g_revL ?_
    | with_reducible refine g_sfld ?_
    | with_reducible refine g_abs ?_
    | with_reducible refine g_maxI ?_
    | with_reducible refine g_minI ?_
    | with_reducible refine g_int1 ?_
    | ((with_reducible refine g_modP ?_ ?_); (focus decide))
    | ((with_reducible refine g_fdivP ?_ ?_ ?_); (focus decide); (focus decide))
    | ((with_reducible refine g_mulL ?_ ?_ ?_); (focus decide); (focus decide))
    | ((with_reducible refine g_mulR ?_ ?_ ?_); (focus decide); (focus decide))
    | with_reducible refine g_forR ?_
    | with_reducible refine g_slice ?_
    | with_reducible refine g_nopart ?_
    | with_reducible refine g_part ?_
    | with_reducible refine g_partI ?_
    | with_reducible refine g_intB ?_
    | with_reducible refine g_nT ?_
    | with_reducible refine g_nF ?_
    | with_reducible refine g_T ?_
    | with_reducible refine g_F ?_))
local macro_rules
  | `(tactic| walk_at "len") => `(tactic| (intro vs H Q E h; first | (obtain ⟨e, _⟩ := h; rw [e]; rfl) | (obtain ⟨_, e, _⟩ := h; rw [e]; rfl) | (obtain ⟨_, _, e, _⟩ := h; rw [e]; rfl) | (obtain ⟨_, _, _, e, _⟩ := h; rw [e]; rfl) | (obtain ⟨_, _, _, _, e, _⟩ := h; rw [e]; rfl) | (obtain ⟨_, _, _, _, _, e, _⟩ := h; rw [e]; rfl) | (obtain ⟨_, _, _, _, _, _, e, _⟩ := h; rw [e]; rfl) | (obtain ⟨_, _, _, _, _, _, _, e, _⟩ := h; rw [e]; rfl) | (obtain ⟨_, _, _, _, _, _, _, _, e, _⟩ := h; rw [e]; rfl) | (obtain ⟨_, _, _, _, _, _, _, _, _, e, _⟩ := h; rw [e]; rfl) | (obtain ⟨_, _, _, _, _, _, _, _, _, _, e, _⟩ := h; rw [e]; rfl) | (obtain ⟨_, _, _, _, _, _, _, _, _, _, _, e, _⟩ := h; rw [e]; rfl) | (obtain ⟨_, _, _, _, _, _, _, _, _, _, _, _, e, _⟩ := h; rw [e]; rfl) | (obtain ⟨_, _, _, _, _, _, _, _, _, _, _, _, _, e, _⟩ := h; rw [e]; rfl) | (obtain ⟨_, _, _, _, _, _, _, _, _, _, _, _, _, _, e, _⟩ := h; rw [e]; rfl) | (obtain ⟨_, _, _, _, _, _, _, _, _, _, _, _, _, _, _, e, _⟩ := h; rw [e]; rfl)))
local macro_rules
  | `(tactic| walk_at "nf") => `(tactic| try simp only [L2.start, List.map_cons, List.map_nil, List.length_cons, List.length_nil, List.drop_succ_cons, List.drop_zero, List.replicate_succ, List.replicate_zero, List.cons_append, List.nil_append, List.set_cons_succ, List.set_cons_zero, Nat.reduceAdd, Nat.reduceSub])
abbrev s_law : Stmt := top 71
abbrev N_law : List Str := ["_law_script", "_law_numbers_here", "_law_readings", "_law_plant", "_law_ranges", "_law_name", "_law_more", "_law_flows", "_law_told_here", "_law_wider", "_law_knots", "_law_streams", "_law_stream", "_law_inner", "_law_fixed", "_law_other", "_law_wide", "_law_fewer"]
theorem sc_law : FnScope N_law ["_law_script"] (defScope s_law) := ⟨rfl, rfl, rfl, by decide +kernel, rfl, by decide +kernel, by decide +kernel⟩
def sp_law (K : PySem.W.Frag) (z : Ad) : Sp := fun vs H Q _ => ∃ (a : Addr) (ns : List Int), vs = [.ref a] ∧ SqL K H a (ns.map V.int) ∧ ∀ H', Same H H' → Q (.bl true) H'
theorem ok_law {P : Program} {w : World} {K : PySem.W.Frag} {mg : Str → Option Value} {base : Heap} {z : Ad} (T : Bi mg) (Z : Cx3 K z.C z.CM z.CR) {f : Addr} {fd : FuncData} (D : FunD K "law" "law" (defArgs s_law) (defBody s_law) (defScope s_law) [] [] f fd) (c_Plant : Mak P w K mg base 3 "Plant" z.C (sp_Plant___init__ K z) []) (c__law_metered : Cal P w K mg base 1 "_law_metered" (sp__law_metered K z) []) (c__law_numbers : Cal P w K mg base 2 "_law_numbers" (sp__law_numbers K z) []) (c__law_small : Cal P w K mg base 1 "_law_small" (sp__law_small K z) []) (c__law_within : Cal P w K mg base 1 "_law_within" (sp__law_within K z) []) (c_fixed_streams : Cal P w K mg base 10 "fixed_streams" (sp_fixed_streams K z) []) (c_flows_of : Cal P w K mg base 8 "flows_of" (sp_flows_of K z) []) (c_idle_readings : Cal P w K mg base 11 "idle_readings" (sp_idle_readings K z) []) (c_ranges_of : Cal P w K mg base 9 "ranges_of" (sp_ranges_of K z) []) (c_told_streams : Cal P w K mg base 7 "told_streams" (sp_told_streams K z) []) : FnOk P w K mg base CX0 12 f fd ["_law_script"] (sp_law K z) := by
  have nd := sc_law.nd
  refine fn_mk D sc_law (by walk_at "len") (fun cdv A outer s H vs Q E f hr h => ⟨_, (pss_cons (ps_set (i := 1) nd rfl (.inl rfl) (pe_c c__law_numbers hr (by decide) (by rfl) (pa_cons (pv 0) (pa_cons pe_int pa_nil))))
    (pss_cons (ps_asg (pe_c c__law_small hr (by decide) (by rfl) (pa_cons (pv 1) (pa_cons pe_int pa_nil))) (pg_tupK (K := K) (n := 2) rfl rfl (pgs_cons (pg_name (i := 10) nd rfl (.inl rfl)) (pgs_cons (pg_name (i := 11) nd rfl (.inl rfl)) pgs_nil))))
    (pss_cons (ps_if (pt_cmpR op_eq (pe_callB (cr_lenQ (K := K) rfl) (by rfl) T.b_len (by decide +kernel) (pa_cons (pv 11) pa_nil)) pe_int (nomark _))
    (pss_one (ps_ret pe_bl)) pss_nil)
    (pss_cons (ps_set (i := 2) nd rfl (.inl rfl) (pe_c c__law_metered hr (by decide) (by rfl) (pa_cons (pv 1) (pa_cons pe_int (pa_cons (pv 11) pa_nil)))))
    (pss_cons (ps_set (i := 3) nd rfl (.inl rfl) (pe_mk c_Plant hr (by decide) (by rfl) (pa_cons (pv 10) (pa_cons (pv 11) pa_nil))))
    (pss_cutI (ps_set (i := 4) nd rfl (.inr rfl) (pe_c c_ranges_of hr (by decide) (by rfl) (pa_cons (pv 3) (pa_cons (pv 2) pa_nil))))
    (pss_cons (ps_set (i := 5) nd rfl (.inl rfl) (pe_ix (ix_tupK (K := K) rfl) (pe_ix (ix_listK (K := K) rfl) (pv 11) (pe_op op_mod (pe_callTy cr_int1 (by rfl) T.b_int (by decide +kernel) (pa_cons (pe_ix (ix_listK (K := K) rfl) (pv 1) pe_int (fun _ _ => rfl)) pa_nil)) (pe_callB (cr_lenQ (K := K) rfl) (by rfl) T.b_len (by decide +kernel) (pa_cons (pv 11) pa_nil))) (fun _ _ => rfl)) pe_int (fun _ _ => rfl)))
    (pss_cons (ps_set (i := 6) nd rfl (.inl rfl) (pe_callTy cr_dictDk (by rfl) T.b_dict (by decide +kernel) (pa_cons (pv 2) pa_nil)))
    (pss_cons (ps_dput (hu_of hr) (pv 6) (pv 5) (pe_tup (pa_cons (pe_op op_mod (pe_callTy cr_int1 (by rfl) T.b_int (by decide +kernel) (pa_cons (pe_ix (ix_listK (K := K) rfl) (pv 1) pe_int (fun _ _ => rfl)) pa_nil)) pe_int) (pa_cons (pe_op op_mod (pe_callTy cr_int1 (by rfl) T.b_int (by decide +kernel) (pa_cons (pe_ix (ix_listK (K := K) rfl) (pv 1) pe_int (fun _ _ => rfl)) pa_nil)) pe_int) pa_nil))) rfl)
    (pss_cutI (ps_if (PW.pt (pw_and (pt_cmp (pc_dnotin (hu_of hr) (pv 5) (pv 2))) (pw_and1 (pt_not (pt_val (pe_c c__law_within hr (by decide) (by rfl) (pa_cons (pe_c c_ranges_of hr (by decide) (by rfl) (pa_cons (pv 3) (pa_cons (pv 6) pa_nil))) (pa_cons (pv 4) pa_nil))))))))
    (pss_one (ps_ret pe_bl)) pss_nil)
    (pss_cutI (ps_set (i := 7) nd rfl (.inl rfl) (pe_c c_flows_of hr (by decide) (by rfl) (pa_cons (pv 3) (pa_cons (pv 2) pa_nil))))
    (pss_cutI (ps_if (pt_cmpR op_notNo (pv 7) pe_non (nomark _))
    (pss_cons (ps_set (i := 6) nd rfl (.inl rfl) (pe_callTy cr_dictDk (by rfl) T.b_dict (by decide +kernel) (pa_cons (pv 2) pa_nil)))
    (pss_cons (ps_for PassesOwn.never rfl (pi_list (pv 11)) (pg_name (i := 12) nd rfl (.inl rfl))
    (pss_one (ps_if (PW.pt (pw_or (pt_cmpR op_eq (pe_op op_mod (pe_callTy cr_int1 (by rfl) T.b_int (by decide +kernel) (pa_cons (pe_ix (ix_listK (K := K) rfl) (pv 1) pe_int (fun _ _ => rfl)) pa_nil)) pe_int) pe_int (nomark _)) (pw_or1 (pt_cmpR op_eq (pe_ix (ix_tupK (K := K) rfl) (pv 12) pe_int (fun _ _ => rfl)) (pv 5) (nomark _)))))
    (pss_cons (ps_dput (hu_of hr) (pv 6) (pe_ix (ix_tupK (K := K) rfl) (pv 12) pe_int (fun _ _ => rfl)) (pe_tup (pa_cons (pe_dget (hu_of hr) (pv 7) (pe_ix (ix_tupK (K := K) rfl) (pv 12) pe_int (fun _ _ => rfl)) (fun _ _ => rfl)) (pa_cons (pe_op op_mod (pe_callTy cr_int1 (by rfl) T.b_int (by decide +kernel) (pa_cons (pe_ix (ix_listK (K := K) rfl) (pv 1) pe_int (fun _ _ => rfl)) pa_nil)) pe_int) pa_nil))) rfl)
    (pss_one (ps_if (pt_cmp (pc_din (hu_of hr) (pe_ix (ix_tupK (K := K) rfl) (pv 12) pe_int (fun _ _ => rfl)) (pv 2)))
    (pss_one (ps_dput (hu_of hr) (pv 6) (pe_ix (ix_tupK (K := K) rfl) (pv 12) pe_int (fun _ _ => rfl)) (pe_dget (hu_of hr) (pv 2) (pe_ix (ix_tupK (K := K) rfl) (pv 12) pe_int (fun _ _ => rfl)) (fun _ _ => rfl)) rfl)) pss_nil))) pss_nil)))
    (pss_cons (ps_set (i := 13) nd rfl (.inl rfl) (pe_c c_ranges_of hr (by decide) (by rfl) (pa_cons (pv 3) (pa_cons (pv 6) pa_nil))))
    (pss_cons (ps_if (PW.pt (pw_or (pt_cmpR op_isNo (pv 13) pe_non (nomark _)) (pw_or1 (pt_not (pt_val (pe_c c__law_within hr (by decide) (by rfl) (pa_cons (pv 13) (pa_cons (pv 4) pa_nil))))))))
    (pss_one (ps_ret pe_bl)) pss_nil)
    (pss_cons (ps_set (i := 14) nd rfl (.inr rfl) (pe_c c_fixed_streams hr (by decide) (by rfl) (pa_cons (pv 3) (pa_cons (pv 2) pa_nil))))
    (pss_cons (ps_if (pt_cmpR (op_neDK (K := K) rfl (hu64 hr)) (pe_callB (cr_sortDk rfl) (by rfl) T.b_sorted (by decide +kernel) (pa_cons (pv 14) pa_nil)) (pe_callB cr_sortedS (by rfl) T.b_sorted (by decide +kernel) (pa_cons (pe_lc (own := [("_law_stream", 12)]) rfl nd (pi_list (pv 11)) (blkOk_by (own := [("_law_stream", 12)]) (N := N_law) (sc := defScope s_law) (by decide +kernel)) (fun _ _ _ _ _ => (pg_name (i := 12) nd rfl (.inl rfl))) (fun _ _ _ _ _ => pts_one (pt_cmpR op_eq (pe_ix (ix_tupK (K := K) rfl) (pe_dget (hu_of hr) (pv 4) (pe_ix (ix_tupK (K := K) rfl) (pv 12) pe_int (fun _ _ => rfl)) (fun _ _ => rfl)) pe_int (fun _ _ => rfl)) (pe_ix (ix_tupK (K := K) rfl) (pe_dget (hu_of hr) (pv 4) (pe_ix (ix_tupK (K := K) rfl) (pv 12) pe_int (fun _ _ => rfl)) (fun _ _ => rfl)) pe_int (fun _ _ => rfl)) (nomark _))) (fun _ _ _ _ _ => (pe_ix (ix_tupK (K := K) rfl) (pv 12) pe_int (fun _ _ => rfl)))) pa_nil)) (nomark _))
    (pss_one (ps_ret pe_bl)) pss_nil)
    (pss_cons (ps_if (pt_cmpR op_gt (pe_callB (cr_lenQ (K := K) rfl) (by rfl) T.b_len (by decide +kernel) (pa_cons (pe_lock (pe_lc (own := [("_law_other", 15)]) rfl nd (pi_keys (pv 14)) (blkOk_by (own := [("_law_other", 15)]) (N := N_law) (sc := defScope s_law) (by decide +kernel)) (fun _ _ _ _ _ => (pg_name (i := 15) nd rfl (.inl rfl))) (fun _ _ _ _ _ => pts_one (pt_cmpR op_ne (pe_dget (hu_of hr) (pv 14) (pv 15) (fun _ _ => rfl)) (pe_ix (ix_tupK (K := K) rfl) (pe_dget (hu_of hr) (pv 4) (pv 15) (fun _ _ => rfl)) pe_int (fun _ _ => rfl)) (nomark _))) (fun _ _ _ _ _ => (pv 15)))) pa_nil)) pe_int (nomark _))
    (pss_one (ps_ret pe_bl)) pss_nil)
    (pss_one (ps_for PassesOwn.never rfl (pi_list (pe_c c_idle_readings hr (by decide) (by rfl) (pa_cons (pv 3) (pa_cons (pv 2) pa_nil)))) (pg_name (i := 15) nd rfl (.inl rfl))
    (pss_cons (ps_set (i := 17) nd rfl (.inl rfl) (pe_callTy cr_dictDk (by rfl) T.b_dict (by decide +kernel) (pa_cons (pv 2) pa_nil)))
    (pss_cons (ps_expr (pe_dpop1 (pv 17) (pv 15) ⟨by rfl, by rfl, by rfl, by rfl⟩))
    (pss_one (ps_if (pt_cmpR (op_neDD (hu64 hr)) (pe_c c_ranges_of hr (by decide) (by rfl) (pa_cons (pv 3) (pa_cons (pv 17) pa_nil))) (pv 4) (nomark _))
    (pss_one (ps_ret pe_bl)) pss_nil))))))))))))) pss_nil)
    (pss_cutI (ps_if (pt_cmp (pc_din (hu_of hr) (pv 5) (pv 2)))
    (pss_cons (ps_set (i := 16) nd rfl (.inl rfl) (pe_callTy cr_dictDk (by rfl) T.b_dict (by decide +kernel) (pa_cons (pv 2) pa_nil)))
    (pss_cons (ps_dput (hu_of hr) (pv 16) (pv 5) (pe_tup (pa_cons (pe_ix (ix_tupK (K := K) rfl) (pe_dget (hu_of hr) (pv 2) (pv 5) (fun _ _ => rfl)) pe_int (fun _ _ => rfl)) (pa_cons (pe_op op_add (pe_op op_add (pe_ix (ix_tupK (K := K) rfl) (pe_dget (hu_of hr) (pv 2) (pv 5) (fun _ _ => rfl)) pe_int (fun _ _ => rfl)) pe_int) (pe_op op_mod (pe_callTy cr_int1 (by rfl) T.b_int (by decide +kernel) (pa_cons (pe_ix (ix_listK (K := K) rfl) (pv 1) pe_int (fun _ _ => rfl)) pa_nil)) pe_int)) pa_nil))) rfl)
    (pss_one (ps_if (pt_not (pt_val (pe_c c__law_within hr (by decide) (by rfl) (pa_cons (pv 4) (pa_cons (pe_c c_ranges_of hr (by decide) (by rfl) (pa_cons (pv 3) (pa_cons (pv 16) pa_nil))) pa_nil)))))
    (pss_one (ps_ret pe_bl)) pss_nil)))) pss_nil)
    (pss_cons (ps_set (i := 8) nd rfl (.inl rfl) (pe_c c_told_streams hr (by decide) (by rfl) (pa_cons (pv 3) (pa_cons (pe_callB (cr_sortDk rfl) (by rfl) T.b_sorted (by decide +kernel) (pa_cons (pv 2) pa_nil)) pa_nil))))
    (pss_cons (ps_set (i := 9) nd rfl (.inr rfl) (pe_c c_told_streams hr (by decide) (by rfl) (pa_cons (pv 3) (pa_cons (pe_callB (cr_sortedSetS rfl) (by rfl) T.b_sorted (by decide +kernel) (pa_cons (pe_callTy (cr_setOf rfl) (by rfl) T.b_set (by decide +kernel) (pa_cons (pe_op op_cat (pe_callTy (cr_listDk rfl) (by rfl) T.b_list (by decide +kernel) (pa_cons (pv 2) pa_nil)) (pe_lst (pa_cons (pv 5) pa_nil))) pa_nil)) pa_nil)) pa_nil))))
    (pss_one (ps_ret (pe_and (pe_cmpR op_eq (pe_callB (cr_lenQ (K := K) rfl) (by rfl) T.b_len (by decide +kernel) (pa_cons (pe_lc (own := [("_law_other", 15)]) rfl nd (pi_list (pv 8)) (blkOk_by (own := [("_law_other", 15)]) (N := N_law) (sc := defScope s_law) (by decide +kernel)) (fun _ _ _ _ _ => (pg_name (i := 15) nd rfl (.inl rfl))) (fun _ _ _ _ _ => pts_one (pt_cmpR (op_notInK (K := K) rfl) (pv 15) (pv 9) rfl)) (fun _ _ _ _ _ => (pv 15))) pa_nil)) pe_int (nomark _)) (pe_one (pe_cmpR (op_inK (K := K) rfl) (pv 5) (pv 9) rfl)))))))))))))))))))), ?_⟩)
  obtain ⟨a, ns, rfl, ha, k⟩ := h
  walk_at "go"
  refine ⟨a, ns, rfl, ha, fun N H1 ms hN s1 e1 hml hms => ?_⟩
  walk_at "go"
  refine ⟨N, ms, rfl, e1, hml, hms, fun T0 H2 ka sa kn ss hT0 s2 e2 ek es ok2 => ?_⟩
  refine g_two e2 ?_
  walk_at "nf"
  walk_at "go"
  obtain ⟨L, hL, eL, hT⟩ := id es
  rw [rf_fst] at eL
  have s02 := L2.Same.trans s1 s2
  refine g_lenL eL ?_
  rw [List.length_map]
  walk_at "go"
  refine g_ite (fun hz => ?_) (fun hz => ?_)
  · walk_at "go"
    exact k H2 s02
  walk_at "go"
  refine ⟨N, sa, ms, ss, rfl, s2 _ _ e1, hml, hms, es, ok2.s5, ok2.nd, fun RD H3 R hRD s3 eR r1 r2 r3 => ?_⟩
  walk_at "go"
  refine g_mk ?_
  walk_at "go"
  intro x dx hx hdx hne
  have sm := mk_same (C := z.C) hx hdx
  refine ⟨x, dx, ka, sa, kn, ss, rfl, upd_same, sm _ _ (s3 _ _ ek), (es.mono s3).mono sm, ok2.ko, ok2.nk, ok2.k1, by have := ok2.k4; omega, by have := ok2.s5; omega, ok2.so, ok2.sn, ok2.nd, fun H4 kn' ss' hst pk ps hP => ⟨rfl, ?_⟩⟩
  have s34 := mk_after hx hdx hst
  have s24 := L2.Same.trans s3 s34
  have s04 := L2.Same.trans s02 s24
  have hLl : L.length ≤ 5 := by have := ok2.s5; rw [← hL, List.length_map] at this; exact this
  have hLp : 0 < L.length := by omega
  -- the plant, its readings
  generalize hp : (⟨kn', ss'⟩ : Pl) = p at hP
  have hss : ∀ s, s ∈ p.ss ↔ s ∈ ss := fun s => by rw [← hp]; exact ps.mem_iff
  have hnm : ∀ n, n ∈ p.names ↔ n ∈ ss.map (·.nm) := fun n => by rw [← hp]; exact (ps.map _).mem_iff
  have hnp : p.names.Perm (ss.map (·.nm)) := by rw [← hp]; exact ps.map _
  have ok := hP.1
  have hlen : p.names.length ≤ 30 := by unfold Pl.names; rw [List.length_map]; exact ok.sl
  have hno : ∀ n ∈ p.names, nameOk n := fun n hn => by
    obtain ⟨s, h1, h2⟩ := List.mem_map.mp ((hnm n).mp hn)
    rw [← h2]; exact ok2.sn s h1
  have hbig : ∀ n ∈ p.names, 0 ≤ p.low n ∧ p.high n ≤ 1000000 := fun n hn => by
    obtain ⟨s, h1, h2⟩ := List.mem_map.mp hn
    rw [← h2, Pl.low_eq ok h1, Pl.high_eq ok h1]
    have h3 := ok2.so s ((hss s).mp h1)
    exact ⟨h3.2.2.1, h3.2.2.2.2⟩
  have hR : R.Ok p := ⟨r1, fun n hn => (hnm n).mpr (r2 n hn), fun n hn => by have := r3 n hn; omega⟩
  have hRl := rdg_len hR ok
  have eR4 := eR.mono s34
  have e14 := s24 _ _ (s2 _ _ e1)
  have eL4 := s24 _ _ eL
  have hT4 : ∀ q ∈ L, H4 q.1 = some (.tup q.2.row) := fun q hq => s24 _ _ (hT q hq)
  have hLs : ∀ q ∈ L, q.2 ∈ p.ss := fun q hq => (hss _).mpr (by rw [← hL]; exact List.mem_map.mpr ⟨q, hq, rfl⟩)
  clear hst s34 s24 sm
  walk_at "nf"
  walk_at "go"
  refine g_cut (fun σ' H' => ∃ v, σ' = [some (.ref a), some (.ref N), some (.ref RD), some (.ref x), some v, none, none, none, none, none, some (.ref ka), some (.ref sa), none, none, none, none, none, none] ∧ Same H4 H' ∧ RV p R H' v) ?_ (fun σ5 H5 hM => ?_)
  · walk_at "go"
    refine g_ranges hP eR4 hR fun v H' s rv _ => ?_
    exact ⟨v, rfl, s, rv⟩
  obtain ⟨v, rfl, s45, rv⟩ := hM
  walk_at "go"
  have e15 := s45 _ _ e14
  refine g_ixI e15 (by decide) (by omega) fun x45 _ => ?_
  walk_at "go"
  refine g_lenL (s45 _ _ eL4) ?_
  rw [List.length_map]
  have hLi : (0 : Int) < L.length := by omega
  refine g_modP hLi ?_
  have hq0 : ∃ q ∈ L, atI (L.map fst) (x45 % (L.length : Int)) = some (.ref q.1) := by
    have h0 := Int.emod_nonneg x45 (show (L.length : Int) ≠ 0 by omega)
    have h1 := Int.emod_lt_of_pos x45 hLi
    obtain ⟨j, ej⟩ : ∃ j : Nat, x45 % (L.length : Int) = (j : Int) := ⟨(x45 % (L.length : Int)).toNat, by omega⟩
    have hj : j < L.length := by omega
    exact ⟨L[j], List.getElem_mem hj, by rw [ej]; exact atI_nat (by rw [List.getElem?_map, List.getElem?_eq_getElem hj]; rfl)⟩
  obtain ⟨q0, hq0, eq0⟩ := hq0
  refine g_ixL (s45 _ _ eL4) eq0 ?_
  walk_at "go"
  refine g_ixT (s45 _ _ (hT4 q0 hq0)) (v := .str q0.2.nm) rfl ?_
  have hnmm : q0.2.nm ∈ p.names := List.mem_map.mpr ⟨_, hLs q0 hq0, rfl⟩
  generalize q0.2.nm = nm at hnmm
  walk_at "nf"
  walk_at "go"
  obtain ⟨rr, hb5, hbt5⟩ := id (eR4.mono s45)
  refine g_dictD (.inl hb5) fun D6 H6 hD6 s6 e6 => ?_
  walk_at "go"
  have s46 := L2.Same.trans s45 s6
  refine g_ixI (s6 _ _ e15) (by decide) (by omega) fun x46 _ => ?_
  walk_at "go"
  refine g_ixI (s6 _ _ e15) (by decide) (by omega) fun x47 _ => ?_
  walk_at "go"
  refine g_newT (by simp) fun t7 H7 ht7 s7 e7 => ?_
  walk_at "go"
  have lm6 : LimAt H7 D6 R.ks R.nu R.to := ⟨rr, s7 _ _ e6, fun n hn => s7 _ _ (s6 _ _ (hbt5 n hn))⟩
  obtain ⟨val, ev, lm7⟩ := lim_put (n := nm) lm6 e7
  refine g_kput ev (by omega) ?_
  have hD60 : H4 D6 = none := fresh_of s45 hD6
  have s48 : Same H4 (upd H7 D6 (dk (ins R.ks nm) (fup val nm (.ref t7)))) := sm_chg (L2.Same.trans s46 s7) hD60
  have rv8 : RV p R (upd H7 D6 (dk (ins R.ks nm) (fup val nm (.ref t7)))) v := rv.mono (sm_chg (L2.Same.trans s6 s7) hD6)
  have lm8 : RdAt (upd H7 D6 (dk (ins R.ks nm) (fup val nm (.ref t7)))) D6 (R.put nm (x46 % 6) (x47 % 2)) := lm7
  generalize upd H7 D6 (dk (ins R.ks nm) (fup val nm (.ref t7))) = H8 at s48 rv8 lm8
  have ok8 : (R.put nm (x46 % 6) (x47 % 2)).Ok p := Rdg.put_ok hR hnmm (by omega) (by omega)
  clear lm7 lm6 ev e7 s7 e6 s46
  obtain ⟨rr8, hb8, hbt8⟩ := id (eR4.mono s48)
  walk_at "nf"
  refine g_cut (fun σ' H' => σ' = [some (.ref a), some (.ref N), some (.ref RD), some (.ref x), some v, some (.str nm), some (.ref D6), none, none, none, some (.ref ka), some (.ref sa), none, none, none, none, none, none] ∧ Same H4 H' ∧ RV p R H' v) ?_ (fun σ9 H9 hM => ?_)
  · walk_at "go"
    refine g_knin (.inl hb8) ?_
    walk_at "go"
    refine g_iteN (fun hnew => ?_) (fun hold => ?_)
    · walk_at "go"
      refine g_ranges (hP.mono s48) lm8 ok8 fun v2 H9 s9 rv2 fr2 => ?_
      walk_at "go"
      refine g_within hlen rv2 (rv8.mono s9) (fun b1 b2 q1 q2 z => ?_) (fun f => agr_more hnew) fun H10 s10 => ?_
      · have h1 := fr2 b1 q1
        rcases rv8 with ⟨q, _⟩ | ⟨D, l, hh, q, ⟨r, q3, _⟩, _⟩
        · rw [q] at q2; cases q2
        · rw [q] at q2
          cases q2
          rw [z, q3] at h1
          cases h1
      · walk_at "go"
        exact ⟨rfl, L2.Same.trans s48 (L2.Same.trans s9 s10), rv8.mono (L2.Same.trans s9 s10)⟩
    · walk_at "go"
      exact ⟨rfl, s48, rv8⟩
  obtain ⟨rfl, s49, rv9⟩ := hM
  clear lm8 ok8 rv8 hb8 hbt8 s48
  refine g_cut (fun σ' H' => ∃ v7, σ' = [some (.ref a), some (.ref N), some (.ref RD), some (.ref x), some v, some (.str nm), some (.ref D6), some v7, none, none, some (.ref ka), some (.ref sa), none, none, none, none, none, none] ∧ Same H4 H' ∧ RV p R H' v ∧
    (v7 = .non ∨ ∃ FD f, v7 = .ref FD ∧ H' FD = some (dk p.names (fl f)) ∧ Agr p R f)) ?_ (fun σ10 H10 hM => ?_)
  · walk_at "go"
    refine ⟨x, RD, p, R, rfl, hP.mono s49, eR4.mono s49, hR, fun H' s hno => ?_, fun FD H' f hFD s eF hf => ?_⟩
    · exact ⟨_, rfl, L2.Same.trans s49 s, rv9.mono s, .inl rfl⟩
    · exact ⟨_, rfl, L2.Same.trans s49 s, rv9.mono s, .inr ⟨FD, f, rfl, eF, hf⟩⟩
  obtain ⟨v7, rfl, s410, rv10, hv7⟩ := hM
  refine g_cut (fun σ' H' => ∃ w6 w12 w13 w14 w15 w17, σ' = [some (.ref a), some (.ref N), some (.ref RD), some (.ref x), some v, some (.str nm), w6, some v7, none, none, some (.ref ka), some (.ref sa), w12, w13, w14, w15, none, w17] ∧ Same H4 H' ∧ RV p R H' v) ?_ (fun σ11 H11 hM => ?_)
  · rcases hv7 with rfl | ⟨FD, f, rfl, eF, hf⟩
    · walk_at "go"
      exact ⟨_, _, _, _, _, _, rfl, s410, rv10⟩
    rcases rv10 with ⟨_, hno'⟩ | ⟨D0, l, hh, rfl, lm0, hex, hI⟩
    · exact absurd hf (hno' f)
    obtain ⟨rr0, hb0, hbt0⟩ := id (eR4.mono s410)
    walk_at "go"
    refine g_dictD (.inl hb0) fun D1 G1 hD1 t1 f1 => ?_
    walk_at "nf"
    walk_at "go"
    have hff : ∀ n ∈ p.names, 0 ≤ f n ∧ f n ≤ 1000000 := fun n hn => by
      have h1 := hf.1 n hn
      have h2 := hbig n hn
      have h3 : p.low n ≤ R.lo p n := Rdg.lo_ge
      have h4 : R.hi p n ≤ p.high n := Rdg.hi_le
      omega
    refine kFor_run L fst (SqL.of (t1 _ _ (s410 _ _ eL4))) (fun d σ' H' => Same H10 H' ∧ ∃ (R2 : Rdg) (y12 : Option V), RdAt H' D1 R2 ∧ R2.Ok p ∧ (∀ n ∈ R.ks, n ∈ R2.ks ∧ R2.nu n = R.nu n ∧ R2.to n = R.to n) ∧ (∀ n ∈ R2.ks, n ∉ R.ks → R2.nu n = f n ∧ 0 ≤ R2.to n) ∧
        σ' = [some (.ref a), some (.ref N), some (.ref RD), some (.ref x), some (.ref D0), some (.str nm), some (.ref D1), some (.ref FD), none, none, some (.ref ka), some (.ref sa), y12, none, none, none, none, none])
      ⟨t1, R, _, ⟨rr0, f1, fun n hn => t1 _ _ (hbt0 n hn)⟩, hR, (fun n hn => ⟨hn, rfl, rfl⟩), (fun n hn z => absurd hn z), rfl⟩ (fun d σ' H' ⟨s', _⟩ => SqL.of (s' _ _ (s410 _ _ eL4))) (fun d q r σ' H' hL' hI' => ?_) (fun σ' H' hI' => ?_)
    · obtain ⟨s', R2, y12, eR2, okR2, c0, c1, rfl⟩ := hI'
      have hq : q ∈ L := by rw [hL']; exact List.mem_append_right _ List.mem_cons_self
      have hqn : q.2.nm ∈ p.names := List.mem_map.mpr ⟨_, hLs q hq, rfl⟩
      have s4' := L2.Same.trans s410 s'
      have hR2l := rdg_len okR2 ok
      refine g_name ?_
      walk_at "nf"
      walk_at "go"
      refine g_ixI (s4' _ _ e14) (by decide) (by omega) fun x48 _ => ?_
      walk_at "go"
      refine g_ite (fun _ => ?_) (fun _ => ?_)
      rotate_left
      walk_at "go"
      refine g_ixT (s4' _ _ (hT4 q hq)) (v := .str q.2.nm) rfl ?_
      walk_at "go"
      refine g_ite (fun _ => ?_) (fun _ => ?_)
      rotate_left
      · walk_at "go"
        exact ⟨s', R2, _, eR2, okR2, c0, c1, rfl⟩
      all_goals
        walk_at "go"
        refine g_ixT (s4' _ _ (hT4 q hq)) (v := .str q.2.nm) rfl ?_
        refine g_kgetI (.inl (s' _ _ eF)) hqn ?_
        walk_at "go"
        refine g_ixI (s4' _ _ e14) (by decide) (by omega) fun x49 _ => ?_
        walk_at "go"
        refine g_newT (by simp) fun t3 G3 ht3 t3s e3 => ?_
        walk_at "go"
        refine g_ixT (t3s _ _ (s4' _ _ (hT4 q hq))) (v := .str q.2.nm) rfl ?_
        obtain ⟨val, ev, lm3⟩ := lim_put (n := q.2.nm) (eR2.mono t3s) e3
        refine g_kput ev (by omega) ?_
        have sq : Same H10 (upd G3 D1 (dk (ins R2.ks q.2.nm) (fup val q.2.nm (.ref t3)))) := sm_chg (L2.Same.trans s' t3s) hD1
        have lm4 : RdAt (upd G3 D1 (dk (ins R2.ks q.2.nm) (fup val q.2.nm (.ref t3)))) D1 (R2.put q.2.nm (f q.2.nm) (x49 % 2)) := lm3
        generalize upd G3 D1 (dk (ins R2.ks q.2.nm) (fup val q.2.nm (.ref t3))) = G4 at sq lm4
        have ok4 : (R2.put q.2.nm (f q.2.nm) (x49 % 2)).Ok p := Rdg.put_ok okR2 hqn (hff _ hqn) (by omega)
        have l4 := rdg_len ok4 ok
        have s44 := L2.Same.trans s410 sq
        walk_at "go"
        refine g_ixT (s44 _ _ (hT4 q hq)) (v := .str q.2.nm) rfl ?_
        walk_at "go"
        refine g_kin (.inl (sq _ _ hb0)) ?_
        walk_at "go"
        refine g_ite (fun hin => ?_) (fun hout => ?_)
        · walk_at "go"
          refine g_ixT (s44 _ _ (hT4 q hq)) (v := .str q.2.nm) rfl ?_
          refine g_kgetR (.inl (sq _ _ hb0)) hin ?_
          walk_at "go"
          refine g_ixT (s44 _ _ (hT4 q hq)) (v := .str q.2.nm) rfl ?_
          obtain ⟨val5, ev5, lm5⟩ := lim_put (n := q.2.nm) lm4 (sq _ _ (hbt0 _ hin))
          refine g_kput ev5 (by omega) ?_
          refine ⟨sm_chg sq hD1, (R2.put q.2.nm (f q.2.nm) (x49 % 2)).put q.2.nm (R.nu q.2.nm) (R.to q.2.nm), _, lm5, Rdg.put_ok ok4 hqn ⟨(hR.rng _ hin).1, (hR.rng _ hin).2.1⟩ (hR.rng _ hin).2.2, fun n hn => ?_, fun n hn hnn => ?_, rfl⟩
          · refine ⟨mem_ins.mpr (.inl (mem_ins.mpr (.inl (c0 n hn).1))), ?_⟩
            show fup (fup R2.nu q.2.nm (f q.2.nm)) q.2.nm (R.nu q.2.nm) n = _ ∧ fup (fup R2.to q.2.nm (x49 % 2)) q.2.nm (R.to q.2.nm) n = _
            by_cases z : n = q.2.nm
            · rw [z, fup_at, fup_at]; exact ⟨rfl, rfl⟩
            · rw [fup_ne z, fup_ne z, fup_ne z, fup_ne z]; exact (c0 n hn).2
          · have z : n ≠ q.2.nm := fun e => hnn (e ▸ hin)
            show fup (fup R2.nu q.2.nm (f q.2.nm)) q.2.nm (R.nu q.2.nm) n = _ ∧ 0 ≤ fup (fup R2.to q.2.nm (x49 % 2)) q.2.nm (R.to q.2.nm) n
            rw [fup_ne z, fup_ne z, fup_ne z, fup_ne z]
            exact c1 n ((mem_ins.mp ((mem_ins.mp hn).resolve_right z)).resolve_right z) hnn
        · walk_at "go"
          refine ⟨sq, R2.put q.2.nm (f q.2.nm) (x49 % 2), _, lm4, ok4, fun n hn => ?_, fun n hn hnn => ?_, rfl⟩
          · have z : n ≠ q.2.nm := fun e => hout (e ▸ hn)
            refine ⟨mem_ins.mpr (.inl (c0 n hn).1), ?_⟩
            show fup R2.nu q.2.nm (f q.2.nm) n = _ ∧ fup R2.to q.2.nm (x49 % 2) n = _
            rw [fup_ne z, fup_ne z]; exact (c0 n hn).2
          · show fup R2.nu q.2.nm (f q.2.nm) n = _ ∧ 0 ≤ fup R2.to q.2.nm (x49 % 2) n
            by_cases z : n = q.2.nm
            · rw [z, fup_at, fup_at]; exact ⟨rfl, by omega⟩
            · rw [fup_ne z, fup_ne z]; exact c1 n ((mem_ins.mp hn).resolve_right z) hnn
    · obtain ⟨s', R2, y12, eR2, okR2, c0, c1, rfl⟩ := hI'
      have s4' := L2.Same.trans s410 s'
      have hfrom := agr_from (g := f) hf c0 c1
      walk_at "go"
      refine g_ranges (hP.mono s4') eR2 okR2 fun v13 G5 s5 rv13 fr13 => ?_
      rcases id rv13 with ⟨_, hno2⟩ | ⟨D13, l13, h13, rfl, lm13, _, _⟩
      · exact absurd hfrom.1 (hno2 f)
      have lm05 := lm0.mono (L2.Same.trans s' s5)
      have rv05 : RV p R G5 (.ref D0) := .inr ⟨D0, l, hh, rfl, lm05, ⟨f, hf⟩, hI⟩
      walk_at "nf"
      walk_at "go"
      refine g_within hlen rv13 rv05 (fun b1 b2 q1 q2 z => ?_) (fun g hg => (agr_from (g := g) hf c0 c1).2 hg) fun G6 s6 => ?_
      · cases q1
        cases q2
        have h1 := fr13 _ rfl
        obtain ⟨r, q3, _⟩ := lm0.mono s'
        rw [z, q3] at h1
        cases h1
      walk_at "go"
      have s46 := L2.Same.trans s4' (L2.Same.trans s5 s6)
      have lm06 := lm05.mono s6
      refine ⟨x, RD, p, R, rfl, hP.mono s46, eR4.mono s46, hR, ⟨f, hf⟩, fun FS G7 l2 h2 hFS s7 hI2 eFS => ?_⟩
      have hl2 : ∀ n ∈ p.names, l2 n = l n ∧ h2 n = hh n := fun n hn => (hI n hn).eq (hI2 n hn) fun _ => Iff.rfl
      have hfl := List.length_filter_le (fun n => decide (l2 n = h2 n)) p.names
      have s47 := L2.Same.trans s46 s7
      have lm07 := lm06.mono s7
      walk_at "nf"
      walk_at "go"
      refine g_sortD (.inl eFS) (by omega) fun ys Y1 G8 py hys hY1 s8 eY1 => ?_
      walk_at "go"
      have s48 := L2.Same.trans s47 s8
      obtain ⟨r0, hr0, hrt0⟩ := id (lm07.mono s8)
      refine kLc_pure L fst (fun q => if l q.2.nm = hh q.2.nm then some (.str q.2.nm) else none) (SqL.of (s48 _ _ eL4)) (by omega) (fun q hq G9 s9 C cc => ?_) (fun Z1 G9 hZ1 s9 eZ1 => ?_)
      · have hqn : q.2.nm ∈ p.names := List.mem_map.mpr ⟨_, hLs q hq, rfl⟩
        have s49 := L2.Same.trans s48 s9
        refine g_name ⟨rfl, ?_⟩
        walk_at "go"
        refine g_ixT (s49 _ _ (hT4 q hq)) (v := .str q.2.nm) rfl ?_
        refine g_kgetR (.inl (s9 _ _ hr0)) hqn ?_
        walk_at "go"
        refine g_ixT (s9 _ _ (hrt0 _ hqn)) rfl ?_
        walk_at "go"
        refine g_ixT (s49 _ _ (hT4 q hq)) (v := .str q.2.nm) rfl ?_
        refine g_kgetR (.inl (s9 _ _ hr0)) hqn ?_
        walk_at "go"
        refine g_ixT (s9 _ _ (hrt0 _ hqn)) rfl ?_
        walk_at "go"
        have cc2 := cc G9 (Same.refl _)
        refine g_ite (fun hn => ?_) (fun hn => ?_)
        · rw [if_pos hn] at cc2
          walk_at "go"
          refine g_ixT (s49 _ _ (hT4 q hq)) (v := .str q.2.nm) rfl ?_
          exact cc2
        · rw [if_neg hn] at cc2
          exact cc2
      rw [fm_ite] at eZ1
      walk_at "go"
      have hflL := List.length_filter_le (fun q : Addr × Stm => decide (l q.2.nm = hh q.2.nm)) L
      refine g_sortS (ks := (L.filter fun q => decide (l q.2.nm = hh q.2.nm)).map fun q => q.2.nm) (by rw [eZ1]; unfold ls; rw [List.map_map]; rfl) (by rw [List.length_map]; omega) fun zs Y2 G10 pz hzs hY2 s10 eY2 => ?_
      have hperm : ys.Perm zs := by
        refine py.trans (List.Perm.trans ?_ pz.symm)
        have h1 : (L.filter fun q => decide (l q.2.nm = hh q.2.nm)).map (fun q => q.2.nm) = (ss.map (·.nm)).filter fun n => decide (l n = hh n) := by
          rw [← hL, List.map_map, List.filter_map]
          rfl
        rw [h1]
        refine List.Perm.trans ?_ (hnp.filter _)
        rw [List.filter_congr fun n hn => by rw [(hl2 n hn).1, (hl2 n hn).2]]
      have hyz := sorted_uniq hys hzs hperm
      subst hyz
      refine g_neLS (s10 _ _ (s9 _ _ eY1)) eY2 (fun y hy => nm_strOk (hno y (List.mem_filter.mp (py.mem_iff.mp hy)).1)) ?_
      walk_at "go"
      have s810 := L2.Same.trans s8 (L2.Same.trans s9 s10)
      have eFS10 := s810 _ _ eFS
      obtain ⟨r1', hr1, hrt1⟩ := id (lm07.mono s810)
      have nD0 : D0 ≠ FS := by
        obtain ⟨r, q3, _⟩ := lm06
        exact ne_of_none q3 hFS
      refine g_lcKeys rfl eFS10 (by omega) (fun _ => none) (fun y hy G11 lk C cc => ?_) (fun Z2 G11 hZ2 s11 eZ2 => ?_)
      · have hyn := (List.mem_filter.mp hy).1
        refine g_name ⟨rfl, ?_⟩
        walk_at "go"
        refine g_kgetI lk.2 hy ?_
        walk_at "go"
        refine g_kgetR (.inl (lk.1 _ _ nD0 hr1)) hyn ?_
        walk_at "go"
        refine g_ixT (lk.1 _ _ (ne_of (hrt1 y hyn) eFS10 (by intro z; cases z)) (hrt1 y hyn)) rfl ?_
        walk_at "go"
        refine g_iteNF (hl2 y hyn).1 ?_
        exact cc G11 (Same.refl _)
      rw [List.filterMap_eq_nil_iff.mpr fun _ _ => rfl] at eZ2
      walk_at "go"
      refine g_lenL (xs := []) eZ2 ?_
      walk_at "go"
      refine g_iteF (by decide) ?_
      walk_at "go"
      have s411' := L2.Same.trans (L2.Same.trans s47 s810) s11
      refine ⟨x, RD, p, R, rfl, hP.mono s411', eR4.mono s411', hR, ⟨f, hf⟩, fun ID G12 zs2 hID s12 eID hz hzl => ?_⟩
      have s412' := L2.Same.trans s411' s12
      have lm12 := (lm07.mono s810).mono (L2.Same.trans s11 s12)
      refine kFor_run zs2 V.str (SqL.of eID) (fun d σ' H' => Same G12 H' ∧ ∃ w15 w17, σ' = [some (.ref a), some (.ref N), some (.ref RD), some (.ref x), some (.ref D0), some (.str nm), some (.ref D1), some (.ref FD), none, none, some (.ref ka), some (.ref sa), y12, some (.ref D13), some (.ref FS), w15, none, w17])
        ⟨Same.refl _, _, _, rfl⟩ (fun d σ' H' ⟨s', _⟩ => SqL.of (s' _ _ eID)) (fun d y r σ' H' hL' hI' => ?_) (fun σ' H' hI' => ?_)
      · obtain ⟨s13, w15, w17, rfl⟩ := hI'
        have hy : y ∈ zs2 := by rw [hL']; exact List.mem_append_right _ List.mem_cons_self
        obtain ⟨hyR, hyA⟩ := hz y hy
        have s413 := L2.Same.trans s412' s13
        obtain ⟨rq, hbq, hbtq⟩ := id (eR4.mono s413)
        refine g_name ?_
        walk_at "nf"
        walk_at "go"
        refine g_dictD (.inl hbq) fun D17 G14 hD17 s14 e17 => ?_
        walk_at "nf"
        walk_at "go"
        refine g_dpop rfl rfl e17 hyR ?_
        have sq : Same H' (upd G14 D17 (dk (R.ks.filter fun k => !decide (k = y)) fun n => .ref (rq n))) := sm_chg s14 hD17
        have eW : RdAt (upd G14 D17 (dk (R.ks.filter fun k => !decide (k = y)) fun n => .ref (rq n))) D17 (R.wo y) := ⟨rq, upd_same, fun n hn => sq _ _ (hbtq n (Rdg.mem_wo.mp hn).1)⟩
        generalize upd G14 D17 (dk (R.ks.filter fun k => !decide (k = y)) fun n => V.ref (rq n)) = G15 at sq eW
        have s415 := L2.Same.trans s413 sq
        walk_at "go"
        refine g_ranges (hP.mono s415) eW (Rdg.wo_ok hR) fun v18 G16 s16 rv18 _ => ?_
        rcases rv18 with ⟨_, hno2⟩ | ⟨D18, l18, h18, rfl, lm18, _, hI18⟩
        · exact absurd (agr_wo hf) (hno2 f)
        walk_at "go"
        refine g_neDD lm18 (lm12.mono (L2.Same.trans s13 (L2.Same.trans sq s16))) ok.nm (fun n hn => (hI18 n hn).eq (hI n hn) fun g => ⟨fun q => hyA g q, fun q => agr_wo q⟩) ?_
        walk_at "go"
        exact ⟨L2.Same.trans s13 (L2.Same.trans sq s16), _, _, rfl⟩
      · obtain ⟨s13, w15, w17, rfl⟩ := hI'
        exact ⟨_, _, _, _, _, _, rfl, L2.Same.trans s412' s13, .inr ⟨D0, l, hh, rfl, lm12.mono s13, ⟨f, hf⟩, hI⟩⟩
  obtain ⟨w6, w12, w13, w14, w15, w17, rfl, s411, rv11⟩ := hM
  refine g_cut (fun σ' H' => ∃ w16, σ' = [some (.ref a), some (.ref N), some (.ref RD), some (.ref x), some v, some (.str nm), w6, some v7, none, none, some (.ref ka), some (.ref sa), w12, w13, w14, w15, w16, w17] ∧ Same H4 H') ?_ (fun σ12 H12 hM => ?_)
  · obtain ⟨rr2, hb2, hbt2⟩ := id (eR4.mono s411)
    walk_at "go"
    refine g_kin (.inl hb2) ?_
    walk_at "go"
    refine g_ite (fun hin => ?_) (fun hout => ?_)
    · walk_at "go"
      refine g_dictD (.inl hb2) fun D2 H13 hD2 s13 e13 => ?_
      walk_at "go"
      refine g_kgetR (.inl (s13 _ _ hb2)) hin ?_
      walk_at "go"
      refine g_ixT (s13 _ _ (hbt2 nm hin)) rfl ?_
      walk_at "go"
      refine g_kgetR (.inl (s13 _ _ hb2)) hin ?_
      walk_at "go"
      refine g_ixT (s13 _ _ (hbt2 nm hin)) rfl ?_
      walk_at "go"
      refine g_ixI (s13 _ _ (s411 _ _ e14)) (by decide) (by omega) fun x50 _ => ?_
      walk_at "go"
      refine g_newT (by simp) fun t14 H14 ht14 s14 e14' => ?_
      walk_at "go"
      have lm13 : LimAt H14 D2 R.ks R.nu R.to := ⟨rr2, s14 _ _ e13, fun n hn => s14 _ _ (s13 _ _ (hbt2 n hn))⟩
      obtain ⟨val, ev, lm14⟩ := lim_put (n := nm) lm13 e14'
      refine g_kput ev (by omega) ?_
      have hD20 : H4 D2 = none := fresh_of s411 hD2
      have sq : Same H11 (upd H14 D2 (dk (ins R.ks nm) (fup val nm (.ref t14)))) := sm_chg (L2.Same.trans s13 s14) hD2
      have lm15 : RdAt (upd H14 D2 (dk (ins R.ks nm) (fup val nm (.ref t14)))) D2 (R.put nm (R.nu nm) (R.to nm + 1 + x50 % 3)) := lm14
      generalize upd H14 D2 (dk (ins R.ks nm) (fup val nm (.ref t14))) = H15 at sq lm15
      have s415 := L2.Same.trans s411 sq
      have hrn := r3 nm hin
      have ok15 : (R.put nm (R.nu nm) (R.to nm + 1 + x50 % 3)).Ok p := Rdg.put_ok hR hnmm (by omega) (by omega)
      have rv15 := rv11.mono sq
      walk_at "nf"
      walk_at "go"
      refine g_ranges (hP.mono s415) lm15 ok15 fun v2 H16 s16 rv2 fr2 => ?_
      walk_at "go"
      refine g_within hlen (rv15.mono s16) rv2 (fun b1 b2 q1 q2 z => ?_) (fun f => agr_wide hin (by omega)) fun H17 s17 => ?_
      · have h1 := fr2 b2 q2
        rcases rv15 with ⟨q, _⟩ | ⟨D, l, hh, q, ⟨r, q3, _⟩, _⟩
        · rw [q] at q1; cases q1
        · rw [q] at q1
          cases q1
          rw [← z, q3] at h1
          cases h1
      · walk_at "go"
        exact ⟨_, rfl, L2.Same.trans s415 (L2.Same.trans s16 s17)⟩
    · walk_at "go"
      exact ⟨_, rfl, s411⟩
  obtain ⟨w16, rfl, s412⟩ := hM
  obtain ⟨rr2, hb2, hbt2⟩ := id (eR4.mono s412)
  walk_at "go"
  refine g_sortD (.inl hb2) (by omega) fun ys SL H13 py _ hSL s13 e13 => ?_
  walk_at "go"
  have s413 := L2.Same.trans s412 s13
  have hyl := py.length_eq
  refine ⟨x, SL, p, ys, rfl, hP.mono s413, e13, by omega, fun n hn => hR.sub n (py.mem_iff.mp hn), fun TD H14 zs hTD s14 e14' hzs hzl => ?_⟩
  walk_at "go"
  have s414 := L2.Same.trans s413 s14
  refine g_listD (.inl (s414 _ _ (eR4.choose_spec.1))) fun LD H15 hLD s15 e15' => ?_
  walk_at "go"
  refine g_newL (by simp) fun nl H16 hnl s16 e16 => ?_
  refine g_cat (s16 _ _ e15') e16 (by rw [List.length_map]; simp only [List.length_singleton]; omega) fun CD H17 hCD s17 e17 => ?_
  walk_at "go"
  refine g_setOf (ks := R.ks ++ [nm]) (by rw [e17]; unfold ls; rw [List.map_append]; rfl) (by rw [List.length_append, List.length_singleton]; omega) fun SD l H18 lnd lm hSD s18 e18 => ?_
  walk_at "go"
  have hll : l.length ≤ 31 := by
    have := nodup_len lnd (D := R.ks ++ [nm]) fun n hn => (lm n).mp hn
    rw [List.length_append, List.length_singleton] at this
    omega
  refine g_sortSet e18 (by omega) fun ys2 WD H19 py2 hWD s19 e19 => ?_
  walk_at "go"
  have s419 := L2.Same.trans s414 (L2.Same.trans s15 (L2.Same.trans s16 (L2.Same.trans s17 (L2.Same.trans s18 s19))))
  have hy2 : ∀ n, n ∈ ys2 ↔ n ∈ R.ks ∨ n = nm := fun n => by rw [py2.mem_iff, lm, List.mem_append, List.mem_singleton]
  have hy2n : ∀ n ∈ ys2, n ∈ p.names := fun n hn => ((hy2 n).mp hn).elim (hR.sub n) fun e => e ▸ hnmm
  have hy2l : ys2.length ≤ 30 := by
    have h1 := nodup_len (py2.nodup_iff.mpr lnd) hy2n
    omega
  refine ⟨x, WD, p, ys2, rfl, hP.mono s419, e19, hy2l, hy2n, fun VD H20 zs2 hVD s20 e20 hzs2 hzl2 => ?_⟩
  obtain ⟨tm1, tm2⟩ := told_mono (fun n => py.mem_iff) hy2 hzs hzs2
  have s420 := L2.Same.trans s419 s20
  walk_at "nf"
  walk_at "go"
  have eTD : H20 TD = some (ls zs) := s20 _ _ (s19 _ _ (s18 _ _ (s17 _ _ (s16 _ _ (s15 _ _ e14')))))
  refine kLc_filt zs (fun n => ¬ n ∈ zs2) (SqL.of eTD) (by omega) (fun y hy H21 s21 C c1 c2 => ?_) (fun FD H21 hFD s21 e21 => ?_)
  · refine g_name ⟨rfl, ?_⟩
    walk_at "go"
    refine g_ninS (s21 _ _ e20) ?_
    walk_at "go"
    refine g_iteN (fun hn => ?_) (fun hn => ?_)
    · exact absurd (tm1 y hy) hn
    · exact c2 H21 (Same.refl _) fun z => z hn
  have hnil : zs.filter (fun n => decide (¬ n ∈ zs2)) = [] := List.filter_eq_nil_iff.mpr fun n hn => by simpa using tm1 n hn
  rw [hnil] at e21
  walk_at "go"
  refine g_lenL (xs := []) e21 ?_
  walk_at "go"
  refine g_iteT rfl ?_
  walk_at "go"
  refine g_inS (s21 _ _ e20) ?_
  rw [decide_eq_true tm2]
  exact k H21 (L2.Same.trans s04 (L2.Same.trans s420 s21))

end Mh
set_option Elab.async false
set_option linter.all false
set_option maxRecDepth 100000
set_option maxHeartbeats 0
namespace Mh
open PySem PySem.Spec PyProof.Rows L2
/-! ### properties in the Hook -/
structure PrD where
  c : Str
  f : Str
  d : He.DefD
def pgA (K : PySem.W.Frag) (c f : Str) : Addr := match PySem.W.recIn K (He.ma K (He.ga K c) f) "property" with
  | some (.ref g :: _) => g
  | _ => 0
def fnWA (K : PySem.W.Frag) (a : Addr) : He.FnW := match K.lookup a with
  | some ⟨_, _, .func fd, _⟩ => some (fd.name, fd.qualname, fd.params, fd.body, fd.scope, fd.globals, fd.closure, fd.builtins)
  | _ => none
def okA (K : PySem.W.Frag) (a : Addr) (d : He.DefD) : Bool := PySem.W.keepIn K (.ref a) && (match K.lookup a with
  | some ⟨_, _, .func fd, _⟩ => PySem.W.codeIn K fd.code d.qual && (He.dflB K fd.defaults (d.dvs K) && He.kwdB K fd.kwdefaults (d.kws K))
  | _ => false)
theorem funA {K : PySem.W.Frag} {a : Addr} {d : He.DefD} (e : fnWA K a = d.val) (c : okA K a d = true) : ∃ fd, FunD K d.name d.qual d.params d.body d.scope (d.dvs K) (d.kws K) a fd := by
  obtain ⟨kp, c2⟩ := He.ba c
  unfold fnWA at e
  cases q : K.lookup a with
  | none => rw [q] at c2; cases c2
  | some o =>
    obtain ⟨oc, od, dt, osl⟩ := o
    rw [q] at c2 e
    cases dt with
    | func fd =>
      obtain ⟨n1, n2, n3, n4, n5, n6, n7, n8, n9, n10, n11, n12, n13, n14, n15⟩ := fd
      have e2 : (some (n1, n2, n3, n4, n5, n6, n7, n15) : He.FnW) = some (d.name, d.qual, d.params, .stmts d.body, d.scope, mainGlobals, [], builtinsNs) := e
      simp only [Option.some.injEq, Prod.mk.injEq] at e2
      obtain ⟨h1, h2, h3, h4, h5, h6, h7, h8⟩ := e2
      subst h1 h2 h3 h4 h5 h6 h7 h8
      have c3 : (PySem.W.codeIn K n13 d.qual && (He.dflB K n8 (d.dvs K) && He.kwdB K n9 (d.kws K))) = true := c2
      obtain ⟨k1, k2⟩ := He.ba c3
      obtain ⟨k3, k4⟩ := He.ba k2
      exact ⟨_, ⟨oc, od, n8, n9, n10, n11, n12, n13, n14, osl, rfl, q, k1, He.dflB_ok k3, He.kwdB_ok k4⟩, kp⟩
    | _ => cases c2
def recB (o : Option (List Value)) : Bool := match o with
  | some (.ref _ :: _) => true
  | _ => false
def PrD.ok (K : PySem.W.Frag) (q : PrD) : Bool := He.eqO (PySem.W.findIn K (.ref (He.ga K q.c)) q.f) (some (some (.ref (He.ma K (He.ga K q.c) q.f)))) &&
  (He.eqO (PySem.W.specialIn K (.ref (He.ma K (He.ga K q.c) q.f)) "__get__") (some (some (.builtin "property.__get__"))) && (decide (PySem.W.takesIn K (.ref (He.ma K (He.ga K q.c) q.f)) = some true) &&
    (recB (PySem.W.recIn K (He.ma K (He.ga K q.c) q.f) "property") && okA K (pgA K q.c q.f) q.d)))
abbrev AlP : Type := He.AlD × Bool × List He.FnW
def obsP (fa : List He.Fa) (fn : List He.DefD) (pr : List PrD) (K : PySem.W.Frag) : AlP := (He.obsD fa fn K, pr.all fun q => q.ok K, pr.map fun q => fnWA K (pgA K q.c q.f))
def valP (fn : List He.DefD) (pr : List PrD) : AlP := (He.valD fn, true, pr.map fun q => q.d.val)
def SaysP (fa : List He.Fa) (fn : List He.DefD) (pr : List PrD) (K : PySem.W.Frag) : Prop := He.SaysD fa fn K ∧ (pr.all fun q => q.ok K) = true ∧ (pr.map fun q => fnWA K (pgA K q.c q.f)) = pr.map fun q => q.d.val
def obsPG (n : Nat) (fa : List He.Fa) (fn : List He.DefD) (pr : List PrD) (g : Addr → Option Obj) : AlP := obsP fa fn pr (He.frG g (He.asD g n))
def hookP (n : Nat) (fa : List He.Fa) (fn : List He.DefD) (pr : List PrD) : PySem.W.Hook where
  α := AlP
  obs := fun s => obsPG n fa fn pr s.heap.get?
  val := fun _ => valP fn pr
  says := fun _ h => ∃ K : PySem.W.Frag, K.In h ∧ SaysP fa fn pr K
  of := fun _ _ e => ⟨_, He.frG_in, congrArg (fun z : AlP => z.1) e, congrArg (fun z : AlP => z.2.1) e, congrArg (fun z : AlP => z.2.2) e⟩
  keeps := fun _ _ _ ⟨K, hK, c⟩ k => ⟨K, PySem.W.Frag.In.keeps hK k, c⟩
theorem obsPG_eq {n : Nat} {fa : List He.Fa} {fn : List He.DefD} {pr : List PrD} {g : Addr → Option Obj} {s : Shared} (h : ∀ a, g a = s.heap.get? a) : obsPG n fa fn pr g = (hookP n fa fn pr).obs s := by
  have e : g = s.heap.get? := funext h
  rw [e] <;> rfl
theorem SaysP.prop {fa : List He.Fa} {fn : List He.DefD} {pr : List PrD} {K : PySem.W.Frag} (c : SaysP fa fn pr K) (i : Nat) {q : PrD} (h : pr[i]? = some q) :
    PropOf K (He.ga K q.c) q.f (He.ma K (He.ga K q.c) q.f) (pgA K q.c q.f) ∧ ∃ fd, FunD K q.d.name q.d.qual q.d.params q.d.body q.d.scope (q.d.dvs K) (q.d.kws K) (pgA K q.c q.f) fd := by
  obtain ⟨_, c2, c3⟩ := c
  have k := List.all_eq_true.mp c2 q (List.mem_of_getElem? h)
  have e2 : (pr.map fun q => fnWA K (pgA K q.c q.f))[i]? = (pr.map fun q => q.d.val)[i]? := by rw [c3]
  rw [List.getElem?_map, List.getElem?_map, h] at e2
  obtain ⟨k1, k2⟩ := He.ba k
  obtain ⟨k3, k4⟩ := He.ba k2
  obtain ⟨k5, k6⟩ := He.ba k4
  obtain ⟨k7, k8⟩ := He.ba k6
  refine ⟨⟨He.eqO_ok k1, He.eqO_ok k3, of_decide_eq_true k5, ?_⟩, funA (Option.some.inj e2) k8⟩
  unfold pgA
  unfold recB at k7
  cases hr : PySem.W.recIn K (He.ma K (He.ga K q.c) q.f) "property" with
  | none => rw [hr] at k7; cases k7
  | some l =>
    rw [hr] at k7
    match l, k7 with
    | .ref g :: rest, _ => exact ⟨rest, rfl⟩
def d_is_name : He.DefD := ⟨("is_name", none), "is_name", "is_name", defArgs s_is_name, defBody s_is_name, defScope s_is_name, [], []⟩
def d_are_names : He.DefD := ⟨("are_names", none), "are_names", "are_names", defArgs s_are_names, defBody s_are_names, defScope s_are_names, [], []⟩
def d_is_stream : He.DefD := ⟨("is_stream", none), "is_stream", "is_stream", defArgs s_is_stream, defBody s_is_stream, defScope s_is_stream, [], []⟩
def d_Plant___init__ : He.DefD := ⟨("Plant", some "__init__"), "__init__", "Plant.__init__", defArgs s_Plant___init__, defBody s_Plant___init__, defScope s_Plant___init__, [], []⟩
def d__law_metered : He.DefD := ⟨("_law_metered", none), "_law_metered", "_law_metered", defArgs s__law_metered, defBody s__law_metered, defScope s__law_metered, [], []⟩
def d__law_row : He.DefD := ⟨("_law_row", none), "_law_row", "_law_row", defArgs s__law_row, defBody s__law_row, defScope s__law_row, [], []⟩
def d__law_numbers : He.DefD := ⟨("_law_numbers", none), "_law_numbers", "_law_numbers", defArgs s__law_numbers, defBody s__law_numbers, defScope s__law_numbers, [], []⟩
def d__law_small : He.DefD := ⟨("_law_small", none), "_law_small", "_law_small", defArgs s__law_small, defBody s__law_small, defScope s__law_small, [], []⟩
def d__law_within : He.DefD := ⟨("_law_within", none), "_law_within", "_law_within", defArgs s__law_within, defBody s__law_within, defScope s__law_within, [], []⟩
def d_Plant_stream_names : He.DefD := ⟨("Plant", some "stream_names"), "stream_names", "Plant.stream_names", defArgs s_Plant_stream_names, defBody s_Plant_stream_names, defScope s_Plant_stream_names, [], []⟩
def d_Missing___init__ : He.DefD := ⟨("Missing", some "__init__"), "__init__", "Missing.__init__", defArgs s_Missing___init__, defBody s_Missing___init__, defScope s_Missing___init__, [], []⟩
def d_arcs_of : He.DefD := ⟨("arcs_of", none), "arcs_of", "arcs_of", defArgs s_arcs_of, defBody s_arcs_of, defScope s_arcs_of, [], []⟩
def d_check_flows : He.DefD := ⟨("check_flows", none), "check_flows", "check_flows", defArgs s_check_flows, defBody s_check_flows, defScope s_check_flows, [], []⟩
def d_lacks : He.DefD := ⟨("lacks", none), "lacks", "lacks", defArgs s_lacks, defBody s_lacks, defScope s_lacks, [], []⟩
def d_check_limits : He.DefD := ⟨("check_limits", none), "check_limits", "check_limits", defArgs s_check_limits, defBody s_check_limits, defScope s_check_limits, [], []⟩
def d_crossed : He.DefD := ⟨("crossed", none), "crossed", "crossed", defArgs s_crossed, defBody s_crossed, defScope s_crossed, [], []⟩
def d_come_to : He.DefD := ⟨("come_to", none), "come_to", "come_to", defArgs s_come_to, defBody s_come_to, defScope s_come_to, [], []⟩
def d_leading_to : He.DefD := ⟨("leading_to", none), "leading_to", "leading_to", defArgs s_leading_to, defBody s_leading_to, defScope s_leading_to, [], []⟩
def d_led_from : He.DefD := ⟨("led_from", none), "led_from", "led_from", defArgs s_led_from, defBody s_led_from, defScope s_led_from, [], []⟩
def d_lines_of : He.DefD := ⟨("lines_of", none), "lines_of", "lines_of", defArgs s_lines_of, defBody s_lines_of, defScope s_lines_of, [], []⟩
def d_missing_of : He.DefD := ⟨("missing_of", none), "missing_of", "missing_of", defArgs s_missing_of, defBody s_missing_of, defScope s_missing_of, [], []⟩
def d_push : He.DefD := ⟨("push", none), "push", "push", defArgs s_push, defBody s_push, defScope s_push, [], []⟩
def d_way_back : He.DefD := ⟨("way_back", none), "way_back", "way_back", defArgs s_way_back, defBody s_way_back, defScope s_way_back, [], []⟩
def d_way_between : He.DefD := ⟨("way_between", none), "way_between", "way_between", defArgs s_way_between, defBody s_way_between, defScope s_way_between, [], []⟩
def d_least_missing : He.DefD := ⟨("least_missing", none), "least_missing", "least_missing", defArgs s_least_missing, defBody s_least_missing, defScope s_least_missing, [], []⟩
def d_flows_within : He.DefD := ⟨("flows_within", none), "flows_within", "flows_within", defArgs s_flows_within, defBody s_flows_within, defScope s_flows_within, [], []⟩
def d_check_readings : He.DefD := ⟨("check_readings", none), "check_readings", "check_readings", defArgs s_check_readings, defBody s_check_readings, defScope s_check_readings, [], []⟩
def d_limits_of : He.DefD := ⟨("limits_of", none), "limits_of", "limits_of", defArgs s_limits_of, defBody s_limits_of, defScope s_limits_of, [], []⟩
def d_Plant_stream_named : He.DefD := ⟨("Plant", some "stream_named"), "stream_named", "Plant.stream_named", defArgs s_Plant_stream_named, defBody s_Plant_stream_named, defScope s_Plant_stream_named, [], []⟩
def d_Range___init__ : He.DefD := ⟨("Range", some "__init__"), "__init__", "Range.__init__", defArgs s_Range___init__, defBody s_Range___init__, defScope s_Range___init__, [], []⟩
def d_push_all : He.DefD := ⟨("push_all", none), "push_all", "push_all", defArgs s_push_all, defBody s_push_all, defScope s_push_all, [], []⟩
def d_pushed_to : He.DefD := ⟨("pushed_to", none), "pushed_to", "pushed_to", defArgs s_pushed_to, defBody s_pushed_to, defScope s_pushed_to, [], []⟩
def d_range_within : He.DefD := ⟨("range_within", none), "range_within", "range_within", defArgs s_range_within, defBody s_range_within, defScope s_range_within, [], []⟩
def d_ranges_of : He.DefD := ⟨("ranges_of", none), "ranges_of", "ranges_of", defArgs s_ranges_of, defBody s_ranges_of, defScope s_ranges_of, [], []⟩
def d_fixed_streams : He.DefD := ⟨("fixed_streams", none), "fixed_streams", "fixed_streams", defArgs s_fixed_streams, defBody s_fixed_streams, defScope s_fixed_streams, [], []⟩
def d_flows_of : He.DefD := ⟨("flows_of", none), "flows_of", "flows_of", defArgs s_flows_of, defBody s_flows_of, defScope s_flows_of, [], []⟩
def d_range_of : He.DefD := ⟨("range_of", none), "range_of", "range_of", defArgs s_range_of, defBody s_range_of, defScope s_range_of, [], []⟩
def d_without_reading : He.DefD := ⟨("without_reading", none), "without_reading", "without_reading", defArgs s_without_reading, defBody s_without_reading, defScope s_without_reading, [], []⟩
def d_is_idle : He.DefD := ⟨("is_idle", none), "is_idle", "is_idle", defArgs s_is_idle, defBody s_is_idle, defScope s_is_idle, [], []⟩
def d_idle_readings : He.DefD := ⟨("idle_readings", none), "idle_readings", "idle_readings", defArgs s_idle_readings, defBody s_idle_readings, defScope s_idle_readings, [], []⟩
def d_check_names : He.DefD := ⟨("check_names", none), "check_names", "check_names", defArgs s_check_names, defBody s_check_names, defScope s_check_names, [], []⟩
def d_ends_of : He.DefD := ⟨("ends_of", none), "ends_of", "ends_of", defArgs s_ends_of, defBody s_ends_of, defScope s_ends_of, [], []⟩
def d_steps_from : He.DefD := ⟨("steps_from", none), "steps_from", "steps_from", defArgs s_steps_from, defBody s_steps_from, defScope s_steps_from, [], []⟩
def d_levels_from : He.DefD := ⟨("levels_from", none), "levels_from", "levels_from", defArgs s_levels_from, defBody s_levels_from, defScope s_levels_from, [], []⟩
def d_ring_through : He.DefD := ⟨("ring_through", none), "ring_through", "ring_through", defArgs s_ring_through, defBody s_ring_through, defScope s_ring_through, [], []⟩
def d_bridges : He.DefD := ⟨("bridges", none), "bridges", "bridges", defArgs s_bridges, defBody s_bridges, defScope s_bridges, [], []⟩
def d_unmetered : He.DefD := ⟨("unmetered", none), "unmetered", "unmetered", defArgs s_unmetered, defBody s_unmetered, defScope s_unmetered, [], []⟩
def d_told_streams : He.DefD := ⟨("told_streams", none), "told_streams", "told_streams", defArgs s_told_streams, defBody s_told_streams, defScope s_told_streams, [], []⟩
def d_law : He.DefD := ⟨("law", none), "law", "law", defArgs s_law, defBody s_law, defScope s_law, [], []⟩
def d_Plant_knots : He.DefD := ⟨("Plant", some "knots"), "knots", "Plant.knots", defArgs s_Plant_knots, defBody s_Plant_knots, defScope s_Plant_knots, [], []⟩
def d_Plant_streams : He.DefD := ⟨("Plant", some "streams"), "streams", "Plant.streams", defArgs s_Plant_streams, defBody s_Plant_streams, defScope s_Plant_streams, [], []⟩
def fn : List He.DefD := [d_is_name, d_are_names, d_is_stream, d_Plant___init__, d__law_metered, d__law_row, d__law_numbers, d__law_small, d__law_within, d_Plant_stream_names, d_Missing___init__, d_arcs_of, d_check_flows, d_lacks, d_check_limits, d_crossed, d_come_to, d_leading_to, d_led_from, d_lines_of, d_missing_of, d_push, d_way_back, d_way_between, d_least_missing, d_flows_within, d_check_readings, d_limits_of, d_Plant_stream_named, d_Range___init__, d_push_all, d_pushed_to, d_range_within, d_ranges_of, d_fixed_streams, d_flows_of, d_range_of, d_without_reading, d_is_idle, d_idle_readings, d_check_names, d_ends_of, d_steps_from, d_levels_from, d_ring_through, d_bridges, d_unmetered, d_told_streams, d_law]
def pr : List PrD := [⟨"Plant", "knots", d_Plant_knots⟩, ⟨"Plant", "streams", d_Plant_streams⟩]
def fa : List He.Fa := [.glo "is_name", .glo "are_names", .glo "is_stream", .glo "_law_metered", .glo "_law_row", .glo "_law_numbers", .glo "_law_small", .glo "_law_within", .glo "arcs_of", .glo "check_flows", .glo "lacks", .glo "check_limits", .glo "crossed", .glo "come_to", .glo "leading_to", .glo "led_from", .glo "lines_of", .glo "missing_of", .glo "push", .glo "way_back", .glo "way_between", .glo "least_missing", .glo "flows_within", .glo "check_readings", .glo "limits_of", .glo "push_all", .glo "pushed_to", .glo "range_within", .glo "ranges_of", .glo "fixed_streams", .glo "flows_of", .glo "range_of", .glo "without_reading", .glo "is_idle", .glo "idle_readings", .glo "check_names", .glo "ends_of", .glo "steps_from", .glo "levels_from", .glo "ring_through", .glo "bridges", .glo "unmetered", .glo "told_streams", .glo "law", .free "abs", .free "all", .free "dict", .free "int", .free "len", .free "list", .free "max", .free "min", .free "range", .free "set", .free "sorted", .free "sum", .str "LETTERS" letters, .int "MOST_FLOW" 1000000, .int "MOST_KNOTS" 24, .int "MOST_STREAMS" 60, .cls "Plant", .mkr "Plant", .glo "Plant", .cls "Missing", .mkr "Missing", .glo "Missing", .cls "Range", .mkr "Range", .glo "Range", .noat "Plant" "_knots", .noat "Plant" "_streams", .noat "Missing" "number", .noat "Missing" "flows", .noat "Missing" "least", .noat "Missing" "greatest", .noat "Range" "low", .noat "Range" "high", .noat "Range" "low_flows", .noat "Range" "high_flows", .noat "Range" "low_lot", .noat "Range" "high_lot", .meth "Plant" "stream_names", .meth "Plant" "stream_named"]
def loose : List Str := (["_wall", "MeterError", "InvalidPlant", "InvalidReadings", "UnknownStream", "LETTERS", "MOST_FLOW", "MOST_KNOTS", "MOST_STREAMS", "is_name", "are_names", "is_stream", "Plant", "check_flows", "lacks", "lines_of", "arcs_of", "way_between", "way_back", "push", "push_all", "leading_to", "led_from", "come_to", "Missing"] : List Str) ++ (["check_limits", "crossed", "missing_of", "least_missing", "check_readings", "limits_of", "without_reading", "flows_within", "flows_of", "Range", "pushed_to", "range_within", "range_of", "ranges_of", "fixed_streams", "is_idle", "idle_readings", "check_names", "ends_of", "steps_from", "levels_from", "ring_through", "bridges", "unmetered", "told_streams"] : List Str) ++ (["_law_row", "_law_numbers", "_law_small", "_law_metered", "_law_all_flows", "_law_shut_right", "_law_limits", "_law_answers", "_law_told", "_law_within"] : List Str)
abbrev R : PySem.W.OpenRow := PySem.W.OpenLaw.row PySem.Challenge.rw_metersure_k87_whole_more_readings_tell_m
abbrev hk : PySem.W.Hook := hookP 5 fa fn pr
def ob (s : PySem.W.SharedT) : AlP := obsPG 5 fa fn pr (HandSHeadRun.getT s)
theorem ob_eq (s : PySem.W.SharedT) : ob s = hk.obs s.abs := obsPG_eq (HandSHeadRun.getT_eq s)
theorem run (w : World) : HandSHeadRun.RunEq R (PySem.W.view R.prog [71]) hk ob 6000 loose w := by
  intro os
  kernel_rfl
def zz (K : PySem.W.Frag) : Ad := ⟨He.ga K "Plant", He.ga K "Missing", He.ga K "Range"⟩
theorem facts {P : Program} {w : World} {K : PySem.W.Frag} {h : Heap} {mg : Str → Option Value} {f : Addr} (X : K.In h) (G : h.Ns mainGlobals mg) (hfa : mg ("law" : Str) = some (.ref f)) (c : SaysP fa fn pr K) :
    ∃ fd : FuncData, (∀ (s : Shared) (v : Value), BindsTo s fd ⟨[v], []⟩ [("_law_script", v)]) ∧ ∀ base : Heap, K.In base → base.Ns mainGlobals mg → FnOk P w K mg base CX0 12 f fd ["_law_script"] (sp_law K (zz K)) := by
  have T : Bi mg := ⟨He.free_ok X G (c.1.fact 48 (f := .free "len") rfl), He.free_ok X G (c.1.fact 45 (f := .free "all") rfl), He.free_ok X G (c.1.fact 54 (f := .free "sorted") rfl), He.free_ok X G (c.1.fact 53 (f := .free "set") rfl), He.free_ok X G (c.1.fact 49 (f := .free "list") rfl), He.free_ok X G (c.1.fact 46 (f := .free "dict") rfl), He.free_ok X G (c.1.fact 55 (f := .free "sum") rfl), He.free_ok X G (c.1.fact 50 (f := .free "max") rfl), He.free_ok X G (c.1.fact 51 (f := .free "min") rfl), He.free_ok X G (c.1.fact 44 (f := .free "abs") rfl), He.free_ok X G (c.1.fact 47 (f := .free "int") rfl), He.free_ok X G (c.1.fact 52 (f := .free "range") rfl), (by obtain ⟨t, e⟩ := He.str_ok X G (c.1.fact 56 (f := .str "LETTERS" letters) rfl); exact ⟨_, e, t, rfl⟩), (by obtain ⟨t, e⟩ := He.int_ok X G (c.1.fact 57 (f := .int "MOST_FLOW" 1000000) rfl); exact ⟨_, e, t, rfl⟩), (by obtain ⟨t, e⟩ := He.int_ok X G (c.1.fact 58 (f := .int "MOST_KNOTS" 24) rfl); exact ⟨_, e, t, rfl⟩), (by obtain ⟨t, e⟩ := He.int_ok X G (c.1.fact 59 (f := .int "MOST_STREAMS" 60) rfl); exact ⟨_, e, t, rfl⟩)⟩
  have Z : Cx3 K (zz K).C (zz K).CM (zz K).CR := ⟨He.cls_ok (c.1.fact 60 (f := .cls "Plant") rfl), He.noat_ok (c.1.fact 69 (f := .noat "Plant" "_knots") rfl), He.noat_ok (c.1.fact 70 (f := .noat "Plant" "_streams") rfl), He.cls_ok (c.1.fact 63 (f := .cls "Missing") rfl), He.noat_ok (c.1.fact 71 (f := .noat "Missing" "number") rfl), He.noat_ok (c.1.fact 72 (f := .noat "Missing" "flows") rfl), He.noat_ok (c.1.fact 73 (f := .noat "Missing" "least") rfl), He.noat_ok (c.1.fact 74 (f := .noat "Missing" "greatest") rfl), He.cls_ok (c.1.fact 66 (f := .cls "Range") rfl), He.noat_ok (c.1.fact 75 (f := .noat "Range" "low") rfl), He.noat_ok (c.1.fact 76 (f := .noat "Range" "high") rfl), He.noat_ok (c.1.fact 77 (f := .noat "Range" "low_flows") rfl), He.noat_ok (c.1.fact 78 (f := .noat "Range" "high_flows") rfl), He.noat_ok (c.1.fact 79 (f := .noat "Range" "low_lot") rfl), He.noat_ok (c.1.fact 80 (f := .noat "Range" "high_lot") rfl)⟩
  have D_is_name : Df K mg "is_name" s_is_name ["text"] := by
    obtain ⟨fd, F⟩ := c.1.def_ 0 (d := d_is_name) rfl
    exact ⟨_, fd, F, He.glo_ok X G (c.1.fact 0 (f := .glo "is_name") rfl), (FunD.bindsN (ps := ["text"]) F fun _ _ _ _ _ _ us hl => match us, hl with | [_], _ => rfl)⟩
  have D_are_names : Df K mg "are_names" s_are_names ["texts"] := by
    obtain ⟨fd, F⟩ := c.1.def_ 1 (d := d_are_names) rfl
    exact ⟨_, fd, F, He.glo_ok X G (c.1.fact 1 (f := .glo "are_names") rfl), (FunD.bindsN (ps := ["texts"]) F fun _ _ _ _ _ _ us hl => match us, hl with | [_], _ => rfl)⟩
  have D_is_stream : Df K mg "is_stream" s_is_stream ["stream", "knots"] := by
    obtain ⟨fd, F⟩ := c.1.def_ 2 (d := d_is_stream) rfl
    exact ⟨_, fd, F, He.glo_ok X G (c.1.fact 2 (f := .glo "is_stream") rfl), (FunD.bindsN (ps := ["stream", "knots"]) F fun _ _ _ _ _ _ us hl => match us, hl with | [_, _], _ => rfl)⟩
  have D_Plant___init__ : Dk K mg "Plant" "Plant.__init__" (zz K).C s_Plant___init__ ["self", "knots", "streams"] := by
    obtain ⟨fd, F⟩ := c.1.def_ 3 (d := d_Plant___init__) rfl
    exact ⟨_, fd, F, He.mkr_ok (c.1.fact 61 (f := .mkr "Plant") rfl), He.glo_ok X G (c.1.fact 62 (f := .glo "Plant") rfl), (FunD.bindsN (ps := ["self", "knots", "streams"]) F fun _ _ _ _ _ _ us hl => match us, hl with | [_, _, _], _ => rfl)⟩
  have D__law_metered : Df K mg "_law_metered" s__law_metered ["_law_numbers_here", "_law_at", "_law_streams"] := by
    obtain ⟨fd, F⟩ := c.1.def_ 4 (d := d__law_metered) rfl
    exact ⟨_, fd, F, He.glo_ok X G (c.1.fact 3 (f := .glo "_law_metered") rfl), (FunD.bindsN (ps := ["_law_numbers_here", "_law_at", "_law_streams"]) F fun _ _ _ _ _ _ us hl => match us, hl with | [_, _, _], _ => rfl)⟩
  have D__law_row : Df K mg "_law_row" s__law_row ["_law_cell", "_law_many"] := by
    obtain ⟨fd, F⟩ := c.1.def_ 5 (d := d__law_row) rfl
    exact ⟨_, fd, F, He.glo_ok X G (c.1.fact 4 (f := .glo "_law_row") rfl), (FunD.bindsN (ps := ["_law_cell", "_law_many"]) F fun _ _ _ _ _ _ us hl => match us, hl with | [_, _], _ => rfl)⟩
  have D__law_numbers : Df K mg "_law_numbers" s__law_numbers ["_law_script", "_law_many"] := by
    obtain ⟨fd, F⟩ := c.1.def_ 6 (d := d__law_numbers) rfl
    exact ⟨_, fd, F, He.glo_ok X G (c.1.fact 5 (f := .glo "_law_numbers") rfl), (FunD.bindsN (ps := ["_law_script", "_law_many"]) F fun _ _ _ _ _ _ us hl => match us, hl with | [_, _], _ => rfl)⟩
  have D__law_small : Df K mg "_law_small" s__law_small ["_law_numbers_here", "_law_at"] := by
    obtain ⟨fd, F⟩ := c.1.def_ 7 (d := d__law_small) rfl
    exact ⟨_, fd, F, He.glo_ok X G (c.1.fact 6 (f := .glo "_law_small") rfl), (FunD.bindsN (ps := ["_law_numbers_here", "_law_at"]) F fun _ _ _ _ _ _ us hl => match us, hl with | [_, _], _ => rfl)⟩
  have D__law_within : Df K mg "_law_within" s__law_within ["_law_inner", "_law_outer"] := by
    obtain ⟨fd, F⟩ := c.1.def_ 8 (d := d__law_within) rfl
    exact ⟨_, fd, F, He.glo_ok X G (c.1.fact 7 (f := .glo "_law_within") rfl), (FunD.bindsN (ps := ["_law_inner", "_law_outer"]) F fun _ _ _ _ _ _ us hl => match us, hl with | [_, _], _ => rfl)⟩
  have D_Plant_stream_names : Dm K (zz K).C "stream_names" "Plant.stream_names" s_Plant_stream_names ["self"] := by
    obtain ⟨fd, F⟩ := c.1.def_ 9 (d := d_Plant_stream_names) rfl
    exact ⟨_, fd, F, He.cls_ok (c.1.fact 60 (f := .cls "Plant") rfl), He.meth_ok (c.1.fact 81 (f := .meth "Plant" "stream_names") rfl), (FunD.bindsN (ps := ["self"]) F fun _ _ _ _ _ _ us hl => match us, hl with | [_], _ => rfl)⟩
  have D_Missing___init__ : Dk K mg "Missing" "Missing.__init__" (zz K).CM s_Missing___init__ ["self", "number", "flows", "least", "greatest"] := by
    obtain ⟨fd, F⟩ := c.1.def_ 10 (d := d_Missing___init__) rfl
    exact ⟨_, fd, F, He.mkr_ok (c.1.fact 64 (f := .mkr "Missing") rfl), He.glo_ok X G (c.1.fact 65 (f := .glo "Missing") rfl), (FunD.bindsN (ps := ["self", "number", "flows", "least", "greatest"]) F fun _ _ _ _ _ _ us hl => match us, hl with | [_, _, _, _, _], _ => rfl)⟩
  have D_Plant_knots : Dp K (zz K).C "knots" "Plant.knots" s_Plant_knots ["self"] := by
    obtain ⟨pp, fd, F⟩ := SaysP.prop c 0 (q := ⟨"Plant", "knots", d_Plant_knots⟩) rfl
    exact ⟨_, _, fd, F, He.cls_ok (c.1.fact 60 (f := .cls "Plant") rfl), pp, (FunD.bindsN (ps := ["self"]) F fun _ _ _ _ _ _ us hl => match us, hl with | [_], _ => rfl)⟩
  have D_arcs_of : Df K mg "arcs_of" s_arcs_of ["lines", "limits", "flows"] := by
    obtain ⟨fd, F⟩ := c.1.def_ 11 (d := d_arcs_of) rfl
    exact ⟨_, fd, F, He.glo_ok X G (c.1.fact 8 (f := .glo "arcs_of") rfl), (FunD.bindsN (ps := ["lines", "limits", "flows"]) F fun _ _ _ _ _ _ us hl => match us, hl with | [_, _, _], _ => rfl)⟩
  have D_Plant_streams : Dp K (zz K).C "streams" "Plant.streams" s_Plant_streams ["self"] := by
    obtain ⟨pp, fd, F⟩ := SaysP.prop c 1 (q := ⟨"Plant", "streams", d_Plant_streams⟩) rfl
    exact ⟨_, _, fd, F, He.cls_ok (c.1.fact 60 (f := .cls "Plant") rfl), pp, (FunD.bindsN (ps := ["self"]) F fun _ _ _ _ _ _ us hl => match us, hl with | [_], _ => rfl)⟩
  have D_check_flows : Df K mg "check_flows" s_check_flows ["plant", "flows"] := by
    obtain ⟨fd, F⟩ := c.1.def_ 12 (d := d_check_flows) rfl
    exact ⟨_, fd, F, He.glo_ok X G (c.1.fact 9 (f := .glo "check_flows") rfl), (FunD.bindsN (ps := ["plant", "flows"]) F fun _ _ _ _ _ _ us hl => match us, hl with | [_, _], _ => rfl)⟩
  have D_lacks : Df K mg "lacks" s_lacks ["plant", "flows"] := by
    obtain ⟨fd, F⟩ := c.1.def_ 13 (d := d_lacks) rfl
    exact ⟨_, fd, F, He.glo_ok X G (c.1.fact 10 (f := .glo "lacks") rfl), (FunD.bindsN (ps := ["plant", "flows"]) F fun _ _ _ _ _ _ us hl => match us, hl with | [_, _], _ => rfl)⟩
  have D_check_limits : Df K mg "check_limits" s_check_limits ["plant", "limits"] := by
    obtain ⟨fd, F⟩ := c.1.def_ 14 (d := d_check_limits) rfl
    exact ⟨_, fd, F, He.glo_ok X G (c.1.fact 11 (f := .glo "check_limits") rfl), (FunD.bindsN (ps := ["plant", "limits"]) F fun _ _ _ _ _ _ us hl => match us, hl with | [_, _], _ => rfl)⟩
  have D_crossed : Df K mg "crossed" s_crossed ["plant", "limits"] := by
    obtain ⟨fd, F⟩ := c.1.def_ 15 (d := d_crossed) rfl
    exact ⟨_, fd, F, He.glo_ok X G (c.1.fact 12 (f := .glo "crossed") rfl), (FunD.bindsN (ps := ["plant", "limits"]) F fun _ _ _ _ _ _ us hl => match us, hl with | [_, _], _ => rfl)⟩
  have D_come_to : Df K mg "come_to" s_come_to ["pairs", "starts"] := by
    obtain ⟨fd, F⟩ := c.1.def_ 16 (d := d_come_to) rfl
    exact ⟨_, fd, F, He.glo_ok X G (c.1.fact 13 (f := .glo "come_to") rfl), (FunD.bindsN (ps := ["pairs", "starts"]) F fun _ _ _ _ _ _ us hl => match us, hl with | [_, _], _ => rfl)⟩
  have D_leading_to : Df K mg "leading_to" s_leading_to ["lines", "limits", "flows", "ends"] := by
    obtain ⟨fd, F⟩ := c.1.def_ 17 (d := d_leading_to) rfl
    exact ⟨_, fd, F, He.glo_ok X G (c.1.fact 14 (f := .glo "leading_to") rfl), (FunD.bindsN (ps := ["lines", "limits", "flows", "ends"]) F fun _ _ _ _ _ _ us hl => match us, hl with | [_, _, _, _], _ => rfl)⟩
  have D_led_from : Df K mg "led_from" s_led_from ["lines", "limits", "flows", "starts"] := by
    obtain ⟨fd, F⟩ := c.1.def_ 18 (d := d_led_from) rfl
    exact ⟨_, fd, F, He.glo_ok X G (c.1.fact 15 (f := .glo "led_from") rfl), (FunD.bindsN (ps := ["lines", "limits", "flows", "starts"]) F fun _ _ _ _ _ _ us hl => match us, hl with | [_, _, _, _], _ => rfl)⟩
  have D_lines_of : Df K mg "lines_of" s_lines_of ["plant"] := by
    obtain ⟨fd, F⟩ := c.1.def_ 19 (d := d_lines_of) rfl
    exact ⟨_, fd, F, He.glo_ok X G (c.1.fact 16 (f := .glo "lines_of") rfl), (FunD.bindsN (ps := ["plant"]) F fun _ _ _ _ _ _ us hl => match us, hl with | [_], _ => rfl)⟩
  have D_missing_of : Df K mg "missing_of" s_missing_of ["plant", "flows"] := by
    obtain ⟨fd, F⟩ := c.1.def_ 20 (d := d_missing_of) rfl
    exact ⟨_, fd, F, He.glo_ok X G (c.1.fact 17 (f := .glo "missing_of") rfl), (FunD.bindsN (ps := ["plant", "flows"]) F fun _ _ _ _ _ _ us hl => match us, hl with | [_, _], _ => rfl)⟩
  have D_push : Df K mg "push" s_push ["flows", "way", "most"] := by
    obtain ⟨fd, F⟩ := c.1.def_ 21 (d := d_push) rfl
    exact ⟨_, fd, F, He.glo_ok X G (c.1.fact 18 (f := .glo "push") rfl), (FunD.bindsN (ps := ["flows", "way", "most"]) F fun _ _ _ _ _ _ us hl => match us, hl with | [_, _, _], _ => rfl)⟩
  have D_way_back : Df K mg "way_back" s_way_back ["before", "place"] := by
    obtain ⟨fd, F⟩ := c.1.def_ 22 (d := d_way_back) rfl
    exact ⟨_, fd, F, He.glo_ok X G (c.1.fact 19 (f := .glo "way_back") rfl), (FunD.bindsN (ps := ["before", "place"]) F fun _ _ _ _ _ _ us hl => match us, hl with | [_, _], _ => rfl)⟩
  have D_way_between : Df K mg "way_between" s_way_between ["arcs", "starts", "ends"] := by
    obtain ⟨fd, F⟩ := c.1.def_ 23 (d := d_way_between) rfl
    exact ⟨_, fd, F, He.glo_ok X G (c.1.fact 20 (f := .glo "way_between") rfl), (FunD.bindsN (ps := ["arcs", "starts", "ends"]) F fun _ _ _ _ _ _ us hl => match us, hl with | [_, _, _], _ => rfl)⟩
  have D_least_missing : Df K mg "least_missing" s_least_missing ["plant", "limits"] := by
    obtain ⟨fd, F⟩ := c.1.def_ 24 (d := d_least_missing) rfl
    exact ⟨_, fd, F, He.glo_ok X G (c.1.fact 21 (f := .glo "least_missing") rfl), (FunD.bindsN (ps := ["plant", "limits"]) F fun _ _ _ _ _ _ us hl => match us, hl with | [_, _], _ => rfl)⟩
  have D_flows_within : Df K mg "flows_within" s_flows_within ["plant", "limits"] := by
    obtain ⟨fd, F⟩ := c.1.def_ 25 (d := d_flows_within) rfl
    exact ⟨_, fd, F, He.glo_ok X G (c.1.fact 22 (f := .glo "flows_within") rfl), (FunD.bindsN (ps := ["plant", "limits"]) F fun _ _ _ _ _ _ us hl => match us, hl with | [_, _], _ => rfl)⟩
  have D_check_readings : Df K mg "check_readings" s_check_readings ["plant", "readings"] := by
    obtain ⟨fd, F⟩ := c.1.def_ 26 (d := d_check_readings) rfl
    exact ⟨_, fd, F, He.glo_ok X G (c.1.fact 23 (f := .glo "check_readings") rfl), (FunD.bindsN (ps := ["plant", "readings"]) F fun _ _ _ _ _ _ us hl => match us, hl with | [_, _], _ => rfl)⟩
  have D_limits_of : Df K mg "limits_of" s_limits_of ["plant", "readings"] := by
    obtain ⟨fd, F⟩ := c.1.def_ 27 (d := d_limits_of) rfl
    exact ⟨_, fd, F, He.glo_ok X G (c.1.fact 24 (f := .glo "limits_of") rfl), (FunD.bindsN (ps := ["plant", "readings"]) F fun _ _ _ _ _ _ us hl => match us, hl with | [_, _], _ => rfl)⟩
  have D_Plant_stream_named : Dm K (zz K).C "stream_named" "Plant.stream_named" s_Plant_stream_named ["self", "name"] := by
    obtain ⟨fd, F⟩ := c.1.def_ 28 (d := d_Plant_stream_named) rfl
    exact ⟨_, fd, F, He.cls_ok (c.1.fact 60 (f := .cls "Plant") rfl), He.meth_ok (c.1.fact 82 (f := .meth "Plant" "stream_named") rfl), (FunD.bindsN (ps := ["self", "name"]) F fun _ _ _ _ _ _ us hl => match us, hl with | [_, _], _ => rfl)⟩
  have D_Range___init__ : Dk K mg "Range" "Range.__init__" (zz K).CR s_Range___init__ ["self", "low", "high", "low_flows", "high_flows", "low_lot", "high_lot"] := by
    obtain ⟨fd, F⟩ := c.1.def_ 29 (d := d_Range___init__) rfl
    exact ⟨_, fd, F, He.mkr_ok (c.1.fact 67 (f := .mkr "Range") rfl), He.glo_ok X G (c.1.fact 68 (f := .glo "Range") rfl), (FunD.bindsN (ps := ["self", "low", "high", "low_flows", "high_flows", "low_lot", "high_lot"]) F fun _ _ _ _ _ _ us hl => match us, hl with | [_, _, _, _, _, _, _], _ => rfl)⟩
  have D_push_all : Df K mg "push_all" s_push_all ["lines", "limits", "flows", "start", "end", "most"] := by
    obtain ⟨fd, F⟩ := c.1.def_ 30 (d := d_push_all) rfl
    exact ⟨_, fd, F, He.glo_ok X G (c.1.fact 25 (f := .glo "push_all") rfl), (FunD.bindsN (ps := ["lines", "limits", "flows", "start", "end", "most"]) F fun _ _ _ _ _ _ us hl => match us, hl with | [_, _, _, _, _, _], _ => rfl)⟩
  have D_pushed_to : Df K mg "pushed_to" s_pushed_to ["plant", "lines", "limits", "flows", "start", "end", "most"] := by
    obtain ⟨fd, F⟩ := c.1.def_ 31 (d := d_pushed_to) rfl
    exact ⟨_, fd, F, He.glo_ok X G (c.1.fact 26 (f := .glo "pushed_to") rfl), (FunD.bindsN (ps := ["plant", "lines", "limits", "flows", "start", "end", "most"]) F fun _ _ _ _ _ _ us hl => match us, hl with | [_, _, _, _, _, _, _], _ => rfl)⟩
  have D_range_within : Df K mg "range_within" s_range_within ["plant", "limits", "name"] := by
    obtain ⟨fd, F⟩ := c.1.def_ 32 (d := d_range_within) rfl
    exact ⟨_, fd, F, He.glo_ok X G (c.1.fact 27 (f := .glo "range_within") rfl), (FunD.bindsN (ps := ["plant", "limits", "name"]) F fun _ _ _ _ _ _ us hl => match us, hl with | [_, _, _], _ => rfl)⟩
  have D_ranges_of : Df K mg "ranges_of" s_ranges_of ["plant", "readings"] := by
    obtain ⟨fd, F⟩ := c.1.def_ 33 (d := d_ranges_of) rfl
    exact ⟨_, fd, F, He.glo_ok X G (c.1.fact 28 (f := .glo "ranges_of") rfl), (FunD.bindsN (ps := ["plant", "readings"]) F fun _ _ _ _ _ _ us hl => match us, hl with | [_, _], _ => rfl)⟩
  have D_fixed_streams : Df K mg "fixed_streams" s_fixed_streams ["plant", "readings"] := by
    obtain ⟨fd, F⟩ := c.1.def_ 34 (d := d_fixed_streams) rfl
    exact ⟨_, fd, F, He.glo_ok X G (c.1.fact 29 (f := .glo "fixed_streams") rfl), (FunD.bindsN (ps := ["plant", "readings"]) F fun _ _ _ _ _ _ us hl => match us, hl with | [_, _], _ => rfl)⟩
  have D_flows_of : Df K mg "flows_of" s_flows_of ["plant", "readings"] := by
    obtain ⟨fd, F⟩ := c.1.def_ 35 (d := d_flows_of) rfl
    exact ⟨_, fd, F, He.glo_ok X G (c.1.fact 30 (f := .glo "flows_of") rfl), (FunD.bindsN (ps := ["plant", "readings"]) F fun _ _ _ _ _ _ us hl => match us, hl with | [_, _], _ => rfl)⟩
  have D_range_of : Df K mg "range_of" s_range_of ["plant", "readings", "name"] := by
    obtain ⟨fd, F⟩ := c.1.def_ 36 (d := d_range_of) rfl
    exact ⟨_, fd, F, He.glo_ok X G (c.1.fact 31 (f := .glo "range_of") rfl), (FunD.bindsN (ps := ["plant", "readings", "name"]) F fun _ _ _ _ _ _ us hl => match us, hl with | [_, _, _], _ => rfl)⟩
  have D_without_reading : Df K mg "without_reading" s_without_reading ["readings", "name"] := by
    obtain ⟨fd, F⟩ := c.1.def_ 37 (d := d_without_reading) rfl
    exact ⟨_, fd, F, He.glo_ok X G (c.1.fact 32 (f := .glo "without_reading") rfl), (FunD.bindsN (ps := ["readings", "name"]) F fun _ _ _ _ _ _ us hl => match us, hl with | [_, _], _ => rfl)⟩
  have D_is_idle : Df K mg "is_idle" s_is_idle ["plant", "readings", "name"] := by
    obtain ⟨fd, F⟩ := c.1.def_ 38 (d := d_is_idle) rfl
    exact ⟨_, fd, F, He.glo_ok X G (c.1.fact 33 (f := .glo "is_idle") rfl), (FunD.bindsN (ps := ["plant", "readings", "name"]) F fun _ _ _ _ _ _ us hl => match us, hl with | [_, _, _], _ => rfl)⟩
  have D_idle_readings : Df K mg "idle_readings" s_idle_readings ["plant", "readings"] := by
    obtain ⟨fd, F⟩ := c.1.def_ 39 (d := d_idle_readings) rfl
    exact ⟨_, fd, F, He.glo_ok X G (c.1.fact 34 (f := .glo "idle_readings") rfl), (FunD.bindsN (ps := ["plant", "readings"]) F fun _ _ _ _ _ _ us hl => match us, hl with | [_, _], _ => rfl)⟩
  have D_check_names : Df K mg "check_names" s_check_names ["plant", "names"] := by
    obtain ⟨fd, F⟩ := c.1.def_ 40 (d := d_check_names) rfl
    exact ⟨_, fd, F, He.glo_ok X G (c.1.fact 35 (f := .glo "check_names") rfl), (FunD.bindsN (ps := ["plant", "names"]) F fun _ _ _ _ _ _ us hl => match us, hl with | [_, _], _ => rfl)⟩
  have D_ends_of : Df K mg "ends_of" s_ends_of ["plant", "name"] := by
    obtain ⟨fd, F⟩ := c.1.def_ 41 (d := d_ends_of) rfl
    exact ⟨_, fd, F, He.glo_ok X G (c.1.fact 36 (f := .glo "ends_of") rfl), (FunD.bindsN (ps := ["plant", "name"]) F fun _ _ _ _ _ _ us hl => match us, hl with | [_, _], _ => rfl)⟩
  have D_steps_from : Df K mg "steps_from" s_steps_from ["plant", "names", "knot"] := by
    obtain ⟨fd, F⟩ := c.1.def_ 42 (d := d_steps_from) rfl
    exact ⟨_, fd, F, He.glo_ok X G (c.1.fact 37 (f := .glo "steps_from") rfl), (FunD.bindsN (ps := ["plant", "names", "knot"]) F fun _ _ _ _ _ _ us hl => match us, hl with | [_, _, _], _ => rfl)⟩
  have D_levels_from : Df K mg "levels_from" s_levels_from ["plant", "names", "knot"] := by
    obtain ⟨fd, F⟩ := c.1.def_ 43 (d := d_levels_from) rfl
    exact ⟨_, fd, F, He.glo_ok X G (c.1.fact 38 (f := .glo "levels_from") rfl), (FunD.bindsN (ps := ["plant", "names", "knot"]) F fun _ _ _ _ _ _ us hl => match us, hl with | [_, _, _], _ => rfl)⟩
  have D_ring_through : Df K mg "ring_through" s_ring_through ["plant", "names", "name"] := by
    obtain ⟨fd, F⟩ := c.1.def_ 44 (d := d_ring_through) rfl
    exact ⟨_, fd, F, He.glo_ok X G (c.1.fact 39 (f := .glo "ring_through") rfl), (FunD.bindsN (ps := ["plant", "names", "name"]) F fun _ _ _ _ _ _ us hl => match us, hl with | [_, _, _], _ => rfl)⟩
  have D_bridges : Df K mg "bridges" s_bridges ["plant", "names"] := by
    obtain ⟨fd, F⟩ := c.1.def_ 45 (d := d_bridges) rfl
    exact ⟨_, fd, F, He.glo_ok X G (c.1.fact 40 (f := .glo "bridges") rfl), (FunD.bindsN (ps := ["plant", "names"]) F fun _ _ _ _ _ _ us hl => match us, hl with | [_, _], _ => rfl)⟩
  have D_unmetered : Df K mg "unmetered" s_unmetered ["plant", "metered"] := by
    obtain ⟨fd, F⟩ := c.1.def_ 46 (d := d_unmetered) rfl
    exact ⟨_, fd, F, He.glo_ok X G (c.1.fact 41 (f := .glo "unmetered") rfl), (FunD.bindsN (ps := ["plant", "metered"]) F fun _ _ _ _ _ _ us hl => match us, hl with | [_, _], _ => rfl)⟩
  have D_told_streams : Df K mg "told_streams" s_told_streams ["plant", "metered"] := by
    obtain ⟨fd, F⟩ := c.1.def_ 47 (d := d_told_streams) rfl
    exact ⟨_, fd, F, He.glo_ok X G (c.1.fact 42 (f := .glo "told_streams") rfl), (FunD.bindsN (ps := ["plant", "metered"]) F fun _ _ _ _ _ _ us hl => match us, hl with | [_, _], _ => rfl)⟩
  obtain ⟨fd, FL⟩ := c.1.def_ 48 (d := d_law) rfl
  have e := hfa.symm.trans (He.glo_ok X G (c.1.fact 43 (f := .glo "law") rfl))
  cases e
  have b := FunD.bindsA (ps := ["_law_script"]) FL fun _ _ _ _ _ _ us hl => match us, hl with | [_], _ => rfl
  refine ⟨fd, fun s v => b s [v] rfl, fun base _ _ => ?_⟩
  have c_is_name := ok_is_name (P := P) (w := w) (K := K) (mg := mg) (base := base) (z := zz K) T Z D_is_name 
  have c_are_names := ok_are_names (P := P) (w := w) (K := K) (mg := mg) (base := base) (z := zz K) T Z D_are_names c_is_name
  have c_is_stream := ok_is_stream (P := P) (w := w) (K := K) (mg := mg) (base := base) (z := zz K) T Z D_is_stream 
  have c_Plant := ok_Plant___init__ (P := P) (w := w) (K := K) (mg := mg) (base := base) (z := zz K) T Z D_Plant___init__ c_are_names c_is_stream
  have c__law_metered := ok__law_metered (P := P) (w := w) (K := K) (mg := mg) (base := base) (z := zz K) T Z D__law_metered 
  have c__law_row := ok__law_row (P := P) (w := w) (K := K) (mg := mg) (base := base) (z := zz K) T Z D__law_row 
  have c__law_numbers := ok__law_numbers (P := P) (w := w) (K := K) (mg := mg) (base := base) (z := zz K) T Z D__law_numbers c__law_row
  have c__law_small := ok__law_small (P := P) (w := w) (K := K) (mg := mg) (base := base) (z := zz K) T Z D__law_small 
  have c__law_within := ok__law_within (P := P) (w := w) (K := K) (mg := mg) (base := base) (z := zz K) T Z D__law_within 
  have c_Plant_stream_names := ok_Plant_stream_names (P := P) (w := w) (K := K) (mg := mg) (base := base) (z := zz K) T Z D_Plant_stream_names 
  have c_Missing := ok_Missing___init__ (P := P) (w := w) (K := K) (mg := mg) (base := base) (z := zz K) T Z D_Missing___init__ 
  have c_Plant_knots := ok_Plant_knots (P := P) (w := w) (K := K) (mg := mg) (base := base) (z := zz K) T Z D_Plant_knots 
  have c_arcs_of := ok_arcs_of (P := P) (w := w) (K := K) (mg := mg) (base := base) (z := zz K) T Z D_arcs_of 
  have c_Plant_streams := ok_Plant_streams (P := P) (w := w) (K := K) (mg := mg) (base := base) (z := zz K) T Z D_Plant_streams 
  have c_check_flows := ok_check_flows (P := P) (w := w) (K := K) (mg := mg) (base := base) (z := zz K) T Z D_check_flows c_Plant_stream_names
  have c_lacks := ok_lacks (P := P) (w := w) (K := K) (mg := mg) (base := base) (z := zz K) T Z D_lacks c_Plant_knots c_Plant_streams c_check_flows
  have c_check_limits := ok_check_limits (P := P) (w := w) (K := K) (mg := mg) (base := base) (z := zz K) T Z D_check_limits c_lacks
  have c_crossed := ok_crossed (P := P) (w := w) (K := K) (mg := mg) (base := base) (z := zz K) T Z D_crossed c_Plant_stream_names c_check_limits
  have c_come_to := ok_come_to (P := P) (w := w) (K := K) (mg := mg) (base := base) (z := zz K) T Z D_come_to 
  have c_leading_to := ok_leading_to (P := P) (w := w) (K := K) (mg := mg) (base := base) (z := zz K) T Z D_leading_to c_arcs_of c_come_to
  have c_led_from := ok_led_from (P := P) (w := w) (K := K) (mg := mg) (base := base) (z := zz K) T Z D_led_from c_arcs_of c_come_to
  have c_lines_of := ok_lines_of (P := P) (w := w) (K := K) (mg := mg) (base := base) (z := zz K) T Z D_lines_of c_Plant_streams
  have c_missing_of := ok_missing_of (P := P) (w := w) (K := K) (mg := mg) (base := base) (z := zz K) T Z D_missing_of c_lacks
  have c_push := ok_push (P := P) (w := w) (K := K) (mg := mg) (base := base) (z := zz K) T Z D_push 
  have c_way_back := ok_way_back (P := P) (w := w) (K := K) (mg := mg) (base := base) (z := zz K) T Z D_way_back 
  have c_way_between := ok_way_between (P := P) (w := w) (K := K) (mg := mg) (base := base) (z := zz K) T Z D_way_between c_way_back
  have c_least_missing := ok_least_missing (P := P) (w := w) (K := K) (mg := mg) (base := base) (z := zz K) T Z D_least_missing c_Missing c_Plant_knots c_arcs_of c_crossed c_lacks c_leading_to c_led_from c_lines_of c_missing_of c_push c_way_between
  have c_flows_within := ok_flows_within (P := P) (w := w) (K := K) (mg := mg) (base := base) (z := zz K) T Z D_flows_within c_least_missing
  have c_check_readings := ok_check_readings (P := P) (w := w) (K := K) (mg := mg) (base := base) (z := zz K) T Z D_check_readings c_Plant_stream_names
  have c_limits_of := ok_limits_of (P := P) (w := w) (K := K) (mg := mg) (base := base) (z := zz K) T Z D_limits_of c_Plant_streams c_check_readings
  have c_Plant_stream_named := ok_Plant_stream_named (P := P) (w := w) (K := K) (mg := mg) (base := base) (z := zz K) T Z D_Plant_stream_named 
  have c_Range := ok_Range___init__ (P := P) (w := w) (K := K) (mg := mg) (base := base) (z := zz K) T Z D_Range___init__ 
  have c_push_all := ok_push_all (P := P) (w := w) (K := K) (mg := mg) (base := base) (z := zz K) T Z D_push_all c_arcs_of c_push c_way_between
  have c_pushed_to := ok_pushed_to (P := P) (w := w) (K := K) (mg := mg) (base := base) (z := zz K) T Z D_pushed_to c_Plant_knots c_leading_to c_push_all
  have c_range_within := ok_range_within (P := P) (w := w) (K := K) (mg := mg) (base := base) (z := zz K) T Z D_range_within c_Plant_stream_named c_Range c_flows_within c_lines_of c_pushed_to
  have c_ranges_of := ok_ranges_of (P := P) (w := w) (K := K) (mg := mg) (base := base) (z := zz K) T Z D_ranges_of c_Plant_stream_names c_flows_within c_limits_of c_range_within
  have c_fixed_streams := ok_fixed_streams (P := P) (w := w) (K := K) (mg := mg) (base := base) (z := zz K) T Z D_fixed_streams c_ranges_of
  have c_flows_of := ok_flows_of (P := P) (w := w) (K := K) (mg := mg) (base := base) (z := zz K) T Z D_flows_of c_flows_within c_limits_of
  have c_range_of := ok_range_of (P := P) (w := w) (K := K) (mg := mg) (base := base) (z := zz K) T Z D_range_of c_limits_of c_range_within
  have c_without_reading := ok_without_reading (P := P) (w := w) (K := K) (mg := mg) (base := base) (z := zz K) T Z D_without_reading 
  have c_is_idle := ok_is_idle (P := P) (w := w) (K := K) (mg := mg) (base := base) (z := zz K) T Z D_is_idle c_range_of c_without_reading
  have c_idle_readings := ok_idle_readings (P := P) (w := w) (K := K) (mg := mg) (base := base) (z := zz K) T Z D_idle_readings c_is_idle c_ranges_of
  have c_check_names := ok_check_names (P := P) (w := w) (K := K) (mg := mg) (base := base) (z := zz K) T Z D_check_names c_Plant_stream_names
  have c_ends_of := ok_ends_of (P := P) (w := w) (K := K) (mg := mg) (base := base) (z := zz K) T Z D_ends_of c_Plant_stream_named
  have c_steps_from := ok_steps_from (P := P) (w := w) (K := K) (mg := mg) (base := base) (z := zz K) T Z D_steps_from c_Plant_streams
  have c_levels_from := ok_levels_from (P := P) (w := w) (K := K) (mg := mg) (base := base) (z := zz K) T Z D_levels_from c_steps_from
  have c_ring_through := ok_ring_through (P := P) (w := w) (K := K) (mg := mg) (base := base) (z := zz K) T Z D_ring_through c_check_names c_ends_of c_levels_from c_steps_from
  have c_bridges := ok_bridges (P := P) (w := w) (K := K) (mg := mg) (base := base) (z := zz K) T Z D_bridges c_check_names c_ring_through
  have c_unmetered := ok_unmetered (P := P) (w := w) (K := K) (mg := mg) (base := base) (z := zz K) T Z D_unmetered c_Plant_stream_names c_check_names
  have c_told_streams := ok_told_streams (P := P) (w := w) (K := K) (mg := mg) (base := base) (z := zz K) T Z D_told_streams c_bridges c_unmetered
  exact ok_law (P := P) (w := w) (K := K) (mg := mg) (base := base) (z := zz K) T Z FL c_Plant c__law_metered c__law_numbers c__law_small c__law_within c_fixed_streams c_flows_of c_idle_readings c_ranges_of c_told_streams
end Mh
open PySem PySem.W PySem.Calls PyProof.Rows
theorem PySem.Challenge.cw_metersure_k87_whole_more_readings_tell_m_holds : PySem.Challenge.rw_metersure_k87_whole_more_readings_tell_m.Holds := by
  w_on; o_law
  refine HandSHeadRun.head_any (r := OpenLaw.row PySem.Challenge.rw_metersure_k87_whole_more_readings_tell_m) (q := view (OpenLaw.row PySem.Challenge.rw_metersure_k87_whole_more_readings_tell_m).prog [71]) (H := Mh.hk) (ob := Mh.ob) (M := 6000) (loose := Mh.loose) (d := HandSHeadRun.topDef (OpenLaw.row PySem.Challenge.rw_metersure_k87_whole_more_readings_tell_m).prog 71) (kwd := []) Mh.ob_eq
    (by kernel_rfl) (fun s => by kernel_rfl) Mh.run (by kernel_rfl) (by kernel_rfl) (by kernel_rfl) (by rfl) (by first | assumption | decide +kernel) (by decide +kernel) ⟨rfl, rfl, rfl, rfl, rfl, by decide +kernel⟩ ?hw ?hc
  case hw => w_witness2
  case hc =>
    refine L2.walk_ofE (l := PySem.Challenge.rw_metersure_k87_whole_more_readings_tell_m) (n := 63) (k := 12) (x := "_law_script") (CX := L2.CX0) rfl (by decide) (by kernel_rfl) ⟨rfl, by decide, by decide⟩ ?F (fun _ _ _ _ z => z)
    intro w mg fa h Y G hmg0
    obtain ⟨K, KX, c⟩ := Y
    have hmg : mg ("law" : PySem.Str) = some (.ref fa) := by
      have e : (HandSHeadRun.topDef (OpenLaw.row PySem.Challenge.rw_metersure_k87_whole_more_readings_tell_m).prog 71).name = ("law" : PySem.Str) := by kernel_rfl
      rw [← e]
      exact hmg0
    obtain ⟨fd, hb, hF⟩ := Mh.facts (P := (PySem.Challenge.rw_metersure_k87_whole_more_readings_tell_m).prog) (w := w) KX G hmg c
    exact ⟨K, fd, Mh.sp_law K (Mh.zz K), KX, hb, fun H a ns hl _ hS => ⟨a, ns, rfl, hS, fun _ _ => rfl⟩, hF⟩
